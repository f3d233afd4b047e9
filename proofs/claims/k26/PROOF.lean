import PyProof.Rows.All
import Wide.All
import OpenK.AllK
import Wide.FinOn
import HandS.ForMost
import HandS.Gcd
import HandS.Wide
import HandS.Style
import HandS.IsInst
import PyProof.ReprRoads
import PyProof.ReprLen
import HandS.Codes
import HandS.TupSets
import PySem.Challenge.RW_firstterms_k26_whole_edges_and_widths
set_option Elab.async false
set_option linter.all false
set_option maxRecDepth 100000
set_option maxHeartbeats 4000000
namespace K26
/-! ## what each def reckons, on naturals; a step whose side conditions fail gives none -/
abbrev Tri := Nat × Nat × Nat
/-- divisors_of -/
def dvLoop (n : Nat) : Nat → Nat → List Nat → List Nat → Option (List Nat)
  | 0, _, _, _ => none
  | f + 1, d, lo, hi =>
    if d * d ≤ n then
      if n % d = 0 then dvLoop n f (d + 1) (lo ++ [d]) (if d * d < n then hi ++ [n / d] else hi)
      else dvLoop n f (d + 1) lo hi
    else some (lo ++ hi.reverse)
def dvs (n : Nat) : Option (List Nat) := dvLoop n 30 1 [] []
/-- the inner loop of primes_of -/
def strip (p : Nat) : Nat → Nat → Option Nat
  | 0, _ => none
  | f + 1, n => if n % p = 0 then strip p f (n / p) else some n
def prLoop : Nat → Nat → Nat → List Nat → Option (List Nat)
  | 0, _, _, _ => none
  | f + 1, n, p, acc =>
    if 1 < n then
      if n % (if n < p * p then n else p) = 0 then
        match strip (if n < p * p then n else p) 30 n with
        | none => none
        | some m => prLoop f m ((if n < p * p then n else p) + 1) (acc ++ [if n < p * p then n else p])
      else prLoop f n ((if n < p * p then n else p) + 1) acc
    else some acc
def prs (n : Nat) : Option (List Nat) := prLoop 60 n 2 []
def upLoop : List Nat → Nat → Option Nat
  | [], x => some x
  | p :: ps, x => if 2 ≤ p ∧ p ≤ 1000 ∧ x ≤ 1000000 then upLoop ps (x / p * (p + 1)) else none
def downLoop : List Nat → Nat → Option Nat
  | [], x => some x
  | p :: ps, x => if 2 ≤ p ∧ p ≤ 1000 ∧ x ≤ 1000000 then downLoop ps (x / p * (p - 1)) else none
def idx (n : Nat) : Option Nat := (prs n).bind fun ps => upLoop ps n
def fre (n : Nat) : Option Nat := (prs n).bind fun ps => downLoop ps n
def edLoop (n : Nat) : List Nat → List Tri → Option (List Tri)
  | [], acc => some acc
  | c :: cs, acc =>
    if 1 ≤ c ∧ c ≤ 1000 ∧ 1 ≤ Nat.gcd c (n / c) ∧ Nat.gcd c (n / c) ≤ 400 ∧ 1 ≤ Nat.gcd (c * c) n ∧ Nat.gcd (c * c) n ≤ 1000 ∧ acc.length ≤ 1000 then
      match fre (Nat.gcd c (n / c)) with
      | none => none
      | some m => edLoop n cs (acc ++ [(c, m, n / Nat.gcd (c * c) n)])
    else none
def edg (n : Nat) : Option (List Tri) := (dvs n).bind fun ds => edLoop n ds []
/-! the law's own -/
def ldivs (n : Nat) : List Nat := (List.range' 1 n).filter fun d => n % d == 0
def lmany (g : Nat) : Nat := ((List.range' 1 g).filter fun x => Nat.gcd x g == 1).length
def leLoop (n : Nat) : List Nat → List Tri → Option (List Tri)
  | [], acc => some acc
  | c :: cs, acc =>
    if 1 ≤ c ∧ c ≤ 1000 ∧ Nat.gcd c (n / c) ≤ 1000 ∧ 1 ≤ Nat.gcd (c * c) n ∧ Nat.gcd (c * c) n ≤ 1000 ∧ acc.length ≤ 1000 then
      leLoop n cs (acc ++ [(c, lmany (Nat.gcd c (n / c)), n / Nat.gcd (c * c) n)])
    else none
def ledg (n : Nat) : Option (List Tri) := leLoop n (ldivs n) []
def lixLoop : Nat → Nat → Nat → Nat → Option Nat
  | 0, _, _, _ => none
  | f + 1, ix, rest, p =>
    if 1 < rest then
      if 1 ≤ p ∧ p ≤ 1000 ∧ ix ≤ 1000000 then
        if rest % p = 0 then
          match strip p 30 rest with
          | none => none
          | some m => lixLoop f (ix / p * (p + 1)) m (p + 1)
        else lixLoop f ix rest (p + 1)
      else none
    else some ix
def lix (n : Nat) : Option Nat := lixLoop 410 n n 2
def wsum : List Tri → Nat
  | [] => 0
  | (_, m, w) :: r => m * w + wsum r
def small (e : List Tri) : Bool := e.length < 50 && e.all fun t => t.1 ≤ 1000 && t.2.1 ≤ 1000 && t.2.2 ≤ 1000
def told (n : Nat) : Bool :=
  match idx n, edg n, ledg n, lix n with
  | some i, some e, some le, some li => i ≤ 1000000 && small e && i == li && e == le && wsum le == li
  | _, _, _, _ => false
theorem told_all : ((List.range' 1 400).all fun n => told n) = true := by decide +kernel
end K26
namespace K26
/-- a table from naturals below 2 ^ 10 -/
inductive Tr where
  | nil | val (v : Nat) | br (l r : Tr)
def Tr.lft : Tr → Tr
  | .br l _ => l
  | _ => .nil
def Tr.rgt : Tr → Tr
  | .br _ r => r
  | _ => .nil
def Tr.top : Tr → Option Nat
  | .val v => some v
  | _ => none
def look : Nat → Tr → Nat → Option Nat
  | 0, t, _ => t.top
  | d + 1, t, k => match Nat.beq (k % 2) 0 with
    | true => look d t.lft (k / 2)
    | false => look d t.rgt (k / 2)
def place : Nat → Tr → Nat → Nat → Tr
  | 0, _, _, v => .val v
  | d + 1, t, k, v => match Nat.beq (k % 2) 0 with
    | true => .br (place d t.lft (k / 2) v) t.rgt
    | false => .br t.lft (place d t.rgt (k / 2) v)
theorem look_nil : ∀ (d k : Nat), look d .nil k = none
  | 0, _ => rfl
  | d + 1, k => by
    unfold look
    split
    · exact look_nil d _
    · exact look_nil d _
theorem look_place : ∀ (d : Nat) (t : Tr) (k j v : Nat), k < 2 ^ d → j < 2 ^ d → look d (place d t k v) j = if j = k then some v else look d t j
  | 0, t, k, j, v, hk, hj => by
    have e1 : k = 0 := by simpa using hk
    have e2 : j = 0 := by simpa using hj
    rw [e1, e2, if_pos rfl]
    rfl
  | d + 1, t, k, j, v, hk, hj => by
    have hk' : k / 2 < 2 ^ d := by rw [Nat.pow_succ] at hk; omega
    have hj' : j / 2 < 2 ^ d := by rw [Nat.pow_succ] at hj; omega
    have bt : ∀ x : Nat, Nat.beq (x % 2) 0 = true ↔ x % 2 = 0 := fun x => by rw [Nat.beq_eq]
    by_cases h1 : k % 2 = 0
    · by_cases h2 : j % 2 = 0
      · have ih := look_place d t.lft (k / 2) (j / 2) v hk' hj'
        have c1 := (bt k).mpr h1
        have c2 := (bt j).mpr h2
        unfold place look
        rw [c1, c2]
        show look d (place d t.lft (k / 2) v) (j / 2) = if j = k then some v else look d t.lft (j / 2)
        rw [ih]
        by_cases e : j = k
        · rw [if_pos e, if_pos (by rw [e])]
        · rw [if_neg e, if_neg (by omega)]
      · have c1 := (bt k).mpr h1
        have c2 : Nat.beq (j % 2) 0 = false := by
          cases q : Nat.beq (j % 2) 0 with
          | false => rfl
          | true => exact absurd ((bt j).mp q) h2
        unfold place look
        rw [c1, c2]
        show look d t.rgt (j / 2) = if j = k then some v else look d t.rgt (j / 2)
        rw [if_neg (by omega)]
    · have c1 : Nat.beq (k % 2) 0 = false := by
        cases q : Nat.beq (k % 2) 0 with
        | false => rfl
        | true => exact absurd ((bt k).mp q) h1
      by_cases h2 : j % 2 = 0
      · have c2 := (bt j).mpr h2
        unfold place look
        rw [c1, c2]
        show look d t.lft (j / 2) = if j = k then some v else look d t.lft (j / 2)
        rw [if_neg (by omega)]
      · have ih := look_place d t.rgt (k / 2) (j / 2) v hk' hj'
        have c2 : Nat.beq (j % 2) 0 = false := by
          cases q : Nat.beq (j % 2) 0 with
          | false => rfl
          | true => exact absurd ((bt j).mp q) h2
        unfold place look
        rw [c1, c2]
        show look d (place d t.rgt (k / 2) v) (j / 2) = if j = k then some v else look d t.rgt (j / 2)
        rw [ih]
        by_cases e : j = k
        · rw [if_pos e, if_pos (by rw [e])]
        · rw [if_neg e, if_neg (by omega)]
/-- the points found: their table, the codes in the order found (last first), how many codes -/
structure Pts where
  t : Tr
  ks : List Nat
  n : Nat
def units (L : Nat) : List Nat := (List.range L).filter fun x => Nat.gcd x L == 1
def putAll (L a b m : Nat) : List Nat → Pts → Option Pts
  | [], f => some f
  | u :: us, f =>
    match look 10 f.t (u * a % L * L + u * b % L) with
    | some _ => none
    | none => match Nat.ble f.n 1000 with
      | true => putAll L a b m us ⟨place 10 f.t (u * a % L * L + u * b % L) m, (u * a % L * L + u * b % L) :: f.ks, f.n + 1⟩
      | false => none
def ptB (L a : Nat) (us : List Nat) : Nat → Nat → Pts → Nat → Option (Pts × Nat)
  | 0, _, f, m => some (f, m)
  | r + 1, b, f, m =>
    match look 10 f.t (a * L + b) with
    | some _ => ptB L a us r (b + 1) f m
    | none =>
      match Nat.beq (Nat.gcd (Nat.gcd a b) L) 1 with
      | true => match putAll L a b m us f with
        | none => none
        | some f' => ptB L a us r (b + 1) f' (m + 1)
      | false => ptB L a us r (b + 1) f m
def ptA (L : Nat) (us : List Nat) : Nat → Nat → Pts → Nat → Option (Pts × Nat)
  | 0, _, f, m => some (f, m)
  | r + 1, a, f, m =>
    match ptB L a us L 0 f m with
    | none => none
    | some (f', m') => ptA L us r (a + 1) f' m'
def points (L : Nat) : Option (Pts × Nat) := ptA L (units L) L 0 ⟨.nil, [], 0⟩ 0
/-- what is met: a table, its size -/
def rWh (L a : Nat) (f : Tr) : Nat → Nat → Nat → Tr → Nat → Option (Nat × Tr × Nat)
  | 0, _, _, _, _ => none
  | k + 1, size, pl, met, n =>
    match look 10 f (a * L + pl) with
    | none => none
    | some id =>
      match Nat.ble id 1000 && Nat.ble n 1000 with
      | false => none
      | true => match look 10 met id with
        | some _ => some (size, met, n)
        | none => rWh L a f k (size + 1) ((pl + a) % L) (place 10 met id 1) (n + 1)
def rLoop (L : Nat) (f : Tr) : List Nat → Tr → Nat → List (Nat × Nat) → Option (List (Nat × Nat))
  | [], _, _, fo => some fo
  | c :: r, met, n, fo =>
    match rWh L (c / L) f 40 0 (c % L) met n with
    | none => none
    | some (size, met', n') =>
      match Nat.ble fo.length 1000 with
      | true => rLoop L f r met' n' (match Nat.beq size 0 with | true => fo | false => fo ++ [(Nat.gcd (c / L) L, size)])
      | false => none
def rounds (L : Nat) (f : Pts) : Option (List (Nat × Nat)) := rLoop L f.t f.ks.reverse .nil 0 []
def cLoop (ro : List (Nat × Nat)) : List Nat → List Tri → Option (List Tri)
  | [], due => some due
  | c :: cs, due =>
    match (ro.filter fun p => p.1 == c).map (·.2) with
    | [] => none
    | s :: r => if r.all (· == s) && due.length ≤ 1000 then cLoop ro cs (due ++ [(c, r.length + 1, s)]) else none
def counted (L : Nat) : Bool :=
  match points L with
  | none => false
  | some (f, m) =>
    match rounds L f with
    | none => false
    | some ro =>
      match cLoop ro (ldivs L) [], idx L, edg L with
      | some due, some i, some e => ro.length ≤ 1000 && i == m && i ≤ 1000000 && small e && due == e
      | _, _, _ => false
theorem counted_all : ((List.range' 1 30).all fun n => counted n) = true := by decide +kernel
end K26
namespace K26
/-! the products -/
def prod (e1 e2 : List Tri) : List Tri := e1.flatMap fun t => e2.map fun u => (t.1 * u.1, t.2.1 * u.2.1, t.2.2 * u.2.2)
def code (t : Tri) : Nat := (t.1 * 1001 + t.2.1) * 1001 + t.2.2
def rising : List Tri → Bool
  | [] => true
  | [_] => true
  | a :: b :: r => decide (code a < code b) && rising (b :: r)
def timesOk (a b : Nat) : Bool :=
  match idx a, idx b, idx (a * b), edg a, edg b, edg (a * b) with
  | some i, some j, some k, some e1, some e2, some e => i ≤ 1000000 && j ≤ 1000000 && i * j == k && k ≤ 1000000 && small e1 && small e2 && small e && small (prod e1 e2) && (prod e1 e2).isPerm e && rising e
  | _, _, _, _, _, _ => false
def times (a b : Nat) : Bool := match Nat.beq (Nat.gcd a b) 1 with
  | true => timesOk a b
  | false => true
theorem times_all : ((List.range' 1 20).all fun a => (List.range' 1 20).all fun b => times a b) = true := by decide +kernel
end K26
namespace K26
open PySem PySem.Spec PyProof.Rows L2

/-! ## repr of data, where no guard is under way -/
section
variable {X : Cx}
theorem reprRule (hg : X.A.guards = some []) (hu : X.A.units + 64 < cLine) :
    CallR X (.builtin "repr") (fun xs H Q => ∃ (a : Addr) (d : PyData), xs = [.ref a] ∧ Dp X.K H (.ref a) d ∧ d.showable = true ∧ d.hasDict = false ∧
      d.depth ≤ 40 ∧ d.shown.length ≤ sizeLine ∧ Q (.str d.shown) H) := by
  intro pins s σ H xs us Q I r h
  obtain ⟨a, d, rfl, hd, hs, hn, hdep, hsz, q⟩ := h
  cases r with
  | cons r1 r2 =>
    cases r2
    cases r1
    obtain ⟨as, hr⟩ := Dp.reads I d (.ref a) (.ref a) hd rfl
    refine repr_of_reads' hr hs (PyData.noDict_hsm hn) hg (by omega) (fun b o e => e) (fun h' u tk hk => ?_) hsz
    exact ⟨.str d.shown, H, I.kept hk, ⟨u, rfl⟩, q⟩
end

/-! ## defs that are called where no guard is under way -/
structure FnG (P : Program) (w : World) (K : PySem.W.Frag) (mg : Str → Option Value) (base : Heap) (k : Nat) (f : Addr) (fd : FuncData)
    (ps : List Str) (sp : Sp) : Prop where
  ln : ∀ vs H Q E, sp vs H Q E → vs.length = ps.length
  go : ∀ (A : Around) (outer : List Env) (s : Shared) (H : Hp) (args : Args) (us : List Value) (vs : List V) (Q : VK) (E : XK),
    A.guards = some [] → Room k A → Env0 P w K mg base A outer s H → BindsTo s fd args (ps.zip us) → Vals vs us → sp vs H Q E →
    codeAny (model P w) A (.call (.ref f) args) (CR CX0 outer P w H s Q E) s

section
variable {P : Program} {w : World} {K : PySem.W.Frag} {mg : Str → Option Value} {base : Heap}
/-- a def of the text by its body, where its caller's guards are none -/
theorem okG {x qual : Str} {st : Stmt} {f : Addr} {fd : FuncData} {N ps : List Str} {k : Nat} {sp : Sp}
    (F : Fun K x qual st f fd) (S : FnScope N ps (defScope st)) (len : ∀ vs H Q E, sp vs H Q E → vs.length = ps.length)
    (body : ∀ (cdv : Value) (A : Around) (outer : List Env) (s : Shared) (H : Hp) (vs : List V) (Q : VK) (E : XK),
      A.guards = some [] → Room k (A.deeper (envOfC qual (defScope st) s.heap.objs.size f cdv)) → sp vs H Q E →
      ∃ t, PSs (cxOf CX0 P w K mg base N qual (defScope st) f cdv A outer s H E).nox (defBody st) t ∧
        t { nx := fun _ H' => Q .non H', rt := Q } (start N vs) H) :
    FnG P w K mg base (k + 1) f fd ps sp := by
  obtain ⟨oc, od, kV, doc, pm, an, cdv, ct, osl, rfl, lk, hcd⟩ := F.ex
  refine ⟨len, ?_⟩
  intro A outer s H args us vs Q E hg hr e0 hb r hsp
  have stays : ∀ b o, base.get? b = some o → s.heap.get? b = some o := fun b o e => (e0.bs b o e).1
  have hkind : ∀ y ∈ ps.zip us, (defScope st).names.lookup y.1 = some .local ∨
      ((defScope st).names.lookup y.1 = some .cell ∧ ((cellsFrom (s.heap.objs.size + 1) (defScope st).names []).lookup y.1).isSome = true) := by
    rintro ⟨n, v⟩ hy
    rcases S.par n (List.of_mem_zip hy).1 with q | q
    · exact .inl q
    · exact .inr ⟨q, PySem.W.cellsFrom_some _ _ _ (.inl q)⟩
  refine codeAny_call_function hr.depth ((e0.mod.kin.keeps stays) _ _ lk) rfl S.co S.gen rfl (PySem.W.codeRec_of (e0.mod.kin.keeps stays) hcd) (hb _ _ _ _ ?_)
  refine wpAny_newFunctionEnv_cells S.kind hkind ?_
  intro env he s1 x
  subst he
  refine ⟨(e0.mod.nolimit.keeps stays).keeps x.toInCall.keep, codeAny_func ?_⟩
  obtain ⟨t, ht, hq⟩ := body cdv A outer s H vs Q E hg (hr.deeper _) hsp
  have I := inv_start (CX := CX0) (E := E) S hr.hd e0 (len _ _ _ _ hsp) r x
  refine wpAny_mono (ht.nox.run [] s1 (start N vs) H _ I hq) ?_ (fun e s' hs => hs)
  intro fl s' hs
  cases fl with
  | ret u => exact let ⟨v, σ', H', J, rv, q⟩ := hs; ⟨v, H', J.os, J.bare, J.base, J.hok, rv, q⟩
  | next => exact let ⟨σ', H', J, q⟩ := hs; ⟨V.non, H', J.os, J.bare, J.base, J.hok, rfl, q⟩
  | brk => exact let ⟨_, _, _, q⟩ := hs; q.elim
  | cont => exact let ⟨_, _, _, q⟩ := hs; q.elim
end

section
variable {X : Cx} {k : Nat} {f : Addr} {fd : FuncData} {ps : List Str} {sp : Sp} {x : Str} {p pos : Pos} {e : Expr} {es : List Expr} {t : TA}
/-- f(e, ..) of such a def -/
theorem callG (F : FnG X.prog X.w X.K X.mg X.base k f fd ps sp) (hgd : X.A.guards = some []) (hr : Room k X.A) (hg : Gl X x) (hm : X.mg x = some (.ref f))
    (hk : PySem.W.keepIn X.K (.ref f) = true) (hb : Binds X.K fd ps []) (ha : PA X (e :: es) t)
    (hdb : (x == ("__debug__" : Str)) = false := by decide)
    (he : starEach (e :: es) X.env = (false, eval e X.env) :: starEach es X.env := by rfl)
    (hpl : (backTo pos (starEach es X.env)).any (·.1) = false := by rfl) :
    PE X (.Call (.Name x p) (e :: es) [] pos) (tCall sp [] E0 t) := by
  constructor
  intro pins s σ H Q I h
  refine wpAny_Call_Name_kw (ld_glob I hg hm ?_ hdb)
  refine PySem.W.callWith_K (h₀ := X.base) I.ok.mod.kin hk (thn (ha.run pos pins s σ H _ I h) ?_) he hpl
  rintro us s1 ⟨vs, H1, I1, r, q⟩
  refine ⟨I1.kIn, ?_⟩
  rw [List.append_nil] at q
  have hl : us.length = ps.length := by rw [← r.length]; exact F.ln _ _ _ _ q
  have hbt := hb s1 us I1.kIn (by rw [List.append_nil]; exact hl)
  rw [List.append_nil] at hbt
  refine wpAny_call (codeAny_mono (F.go X.A X.stack s1 H1 ⟨us, []⟩ us vs Q E0 hgd hr I1.env0 hbt r q) ?_)
  intro rr s' hq
  cases rr with
  | error e => exact hq.elim
  | ok fl =>
    cases fl with
    | ret u => exact I1.after hq
    | next => exact hq.elim
    | brk => exact hq.elim
    | cont => exact hq.elim
end
end K26
namespace K26
open PySem PySem.Spec PyProof.Rows L2

/-! ## the end: a law whose def promises under no guards -/
section
variable {P : Program} {w : World} {K : PySem.W.Frag} {mg mb : Str → Option Value} {k : Nat} {fa a : Addr} {fd : FuncData} {x : Str} {sp : Sp}
  {s₁ : Shared} {vs : List Value} {ns : List Int}
/-- from one abstract heap that tracks the script at most -/
theorem endCore (KX : K.In s₁.heap) (hns : s₁.heap.Ns mainGlobals mg) (hb : s₁.heap.Ns builtinsNs mb)
    (hbb : ∀ x : Str, x ≠ "__name__" → mb x = bootBuiltins x) (hlim : s₁.heap.NoLimit) (hg : s₁.gens = #[])
    (ha : s₁.heap.get? a = some { cls := .type "list", data := .seq vs.toArray }) (hr : Room k callerA)
    (F : ∀ base : Heap, K.In base → base.Ns mainGlobals mg → FnG P w K mg base k fa fd [x] sp)
    (hbind : ∀ (s : Shared) (u : Value), BindsTo s fd ⟨[u], []⟩ [(x, u)])
    (H : Hp) (hO : Only H) (hok : HOk P w H s₁.heap) (hA : ∀ b, H b ≠ none → b = a) (hK : H a ≠ none → K.lookup a = none)
    (hsp : sp [.ref a] H (fun v _ => v = .bl true) fun _ _ _ => False) :
    codeAny (model P w) callerA (.call (.ref fa) ⟨[.ref a], []⟩)
      (fun r s' => r = .ok (.ret (.bool true)) ∧ OldK s₁.heap s'.heap ∧ s'.os = s₁.os ∧ AllBare s'.gens) s₁ := by
  have offDict : ∀ (b : Addr) (o : Obj) (es : Array DictEntry) (ep : Nat), s₁.heap.get? b = some o → o.data = .dict es ep → H b = none := by
    intro b o es ep e d
    cases q : H b with
    | none => rfl
    | some u =>
      have e' := hA b (by rw [q]; exact fun z => nomatch z)
      rw [e', ha] at e
      cases e
      exact nomatch d
  have ns' : ∀ (b : Addr) (m : Str → Option Value), s₁.heap.Ns b m → (hidT s₁.heap H).Ns b m := by
    rintro b m ⟨o, es, ep, e, d, r⟩
    exact ⟨o, es, ep, hidT_get e (offDict b o es ep e d), d, r⟩
  have kb : K.In (hidT s₁.heap H) := by
    intro b o e
    refine hidT_get (KX b o e) ?_
    cases q : H b with
    | none => rfl
    | some u =>
      have e' := hA b (by rw [q]; exact fun z => nomatch z)
      subst e'
      rw [hK (by rw [q]; exact fun z => nomatch z)] at e
      exact nomatch e
  have md : Mod K mg (hidT s₁.heap H) := ⟨kb, ns' _ _ hns, ⟨mb, ns' _ _ hb, hbb⟩, let ⟨mc, h1, h2⟩ := hlim; ⟨mc, ns' _ _ h1, h2⟩⟩
  have noFr : ∀ b : Addr, b ∈ frs [] → H b = none := fun b z => nomatch (show b ∈ ([] : List Addr) from z)
  have e0 : Env0 P w K mg (hidT s₁.heap H) callerA [] s₁ H :=
    ⟨rfl, md, fun b o e => of_hidT e, Nat.le_of_eq (hidT_size _ _), trivial, noFr, hok, .of_eq hg⟩
  have run := (F _ kb (ns' _ _ hns)).go callerA [] s₁ H ⟨[.ref a], []⟩ [.ref a] [.ref a] _ _ rfl hr e0 (hbind s₁ (.ref a)) (.cons rfl .nil) hsp
  refine codeAny_mono run ?_
  intro r s' h
  cases r with
  | error e => exact h.elim
  | ok fl =>
    cases fl with
    | next => exact h.elim
    | brk => exact h.elim
    | cont => exact h.elim
    | ret u =>
      obtain ⟨v, H', os, bare, un, hok', r', q⟩ := h
      have q' : v = .bl true := q
      subst q'
      have eu : u = Value.bool true := r'
      subst eu
      refine ⟨rfl, OldK.of_keep ?_, os, bare⟩
      intro b o e
      cases q : H b with
      | none => exact un.keep b o e q (fun z => nomatch (show b ∈ ([] : List Addr) from z)) (fun z => nomatch z)
      | some u =>
        rcases hO b with z | ⟨ob, xs, z⟩
        · rw [q] at z
          exact nomatch z
        · obtain ⟨e1, _⟩ := hok b _ z
          obtain ⟨e2, _⟩ := hok' b _ (un.frzs b ob _ z)
          rw [e] at e1
          cases e1
          exact e2
theorem endCall (KX : K.In s₁.heap) (hns : s₁.heap.Ns mainGlobals mg) (hb : s₁.heap.Ns builtinsNs mb)
    (hbb : ∀ x : Str, x ≠ "__name__" → mb x = bootBuiltins x) (hlim : s₁.heap.NoLimit) (hg : s₁.gens = #[])
    (ha : s₁.heap.get? a = some { cls := .type "list", data := .seq vs.toArray }) (hi : IntsAre vs ns) (hl : ns.length ≤ sizeLine) (hr : Room k callerA)
    (F : ∀ base : Heap, K.In base → base.Ns mainGlobals mg → FnG P w K mg base k fa fd [x] sp)
    (hbind : ∀ (s : Shared) (u : Value), BindsTo s fd ⟨[u], []⟩ [(x, u)])
    (hsp : ∀ H : Hp, Only H → SqL K H a (ns.map V.int) → sp [.ref a] H (fun v _ => v = .bl true) fun _ _ _ => False) :
    codeAny (model P w) callerA (.call (.ref fa) ⟨[.ref a], []⟩)
      (fun r s' => r = .ok (.ret (.bool true)) ∧ OldK s₁.heap s'.heap ∧ s'.os = s₁.os ∧ AllBare s'.gens) s₁ := by
  have rv := vals_ints hi
  have lenV := hi.length
  cases hk : K.lookup a with
  | some o =>
    have e := KX a o hk
    rw [ha] at e
    cases e
    have hS : SqL K (fun _ => none) a (ns.map V.int) :=
      .inr ⟨_, vs.toArray, _, hk, rfl, rfl, rfl, by rw [List.size_toArray, lenV]; exact hl, by simpa using rv⟩
    exact endCore KX hns hb hbb hlim hg ha hr F hbind (fun _ => none) (fun _ => .inl rfl) (fun b u z => nomatch (show (none : Option HO) = some u from z))
      (fun b z => absurd rfl z) (fun z => absurd rfl z) (hsp _ (fun _ => .inl rfl) hS)
  | none =>
    let Hs : Hp := fun b => if b = a then some (.frz { cls := .type "list", data := .seq vs.toArray } (.lst (ns.map V.int))) else none
    have at_a : Hs a = some (.frz { cls := .type "list", data := .seq vs.toArray } (.lst (ns.map V.int))) := if_pos rfl
    have off : ∀ b, b ≠ a → Hs b = none := fun b hb => if_neg hb
    have hO : Only Hs := by
      intro b
      by_cases hb : b = a
      · exact .inr ⟨_, _, by rw [hb]; exact at_a⟩
      · exact .inl (off b hb)
    refine endCore KX hns hb hbb hlim hg ha hr F hbind Hs hO ?_ ?_ (fun _ => hk) (hsp _ hO (.inl (.inr ⟨_, at_a⟩)))
    · intro b u z
      by_cases hb : b = a
      · subst hb
        rw [at_a] at z
        cases z
        exact ⟨ha, by rw [List.length_map]; exact hl, vs, _, rv, ha⟩
      · rw [off b hb] at z
        exact nomatch z
    · intro b z
      by_cases hb : b = a
      · exact hb
      · exact absurd (off b hb) z
end
theorem walkG {l : PySem.W.OpenLaw} {n k : Nat} {q : Program} {loose : List Str} {XP : (Str → Option Value) → Heap → Prop} {YP : World → Heap → Prop}
    {d : DefRec} {K : Params → PySem.W.Frag} {sp : PySem.W.Frag → Sp} {x : Str}
    (hn : l.most = some n) (hn2 : n ≤ sizeLine) (hdf : d.params.defaults = []) (hr : Room k callerA)
    (hY : ∀ (w : World) (h : Heap), YP w h → (K w.params).In h)
    (F : ∀ (w : World) (mg : Str → Option Value) (fa : Addr) (h : Heap), (K w.params).In h → h.Ns mainGlobals mg → mg d.name = some (.ref fa) →
      ∃ fd : FuncData, (∀ (s : Shared) (u : Value), BindsTo s fd ⟨[u], []⟩ [(x, u)]) ∧
        ∀ base : Heap, (K w.params).In base → base.Ns mainGlobals mg → FnG l.prog w (K w.params) mg base k fa fd [x] (sp (K w.params)))
    (hsp : ∀ (K : PySem.W.Frag) (H : Hp) (a : Addr) (ns : List Int), ns.length ≤ n → Only H → SqL K H a (ns.map V.int) →
      sp K [.ref a] H (fun v _ => v = .bl true) fun _ _ _ => False) :
    PySem.W.WalkO q loose XP YP l.row.toRowW d [] (fun f vs => PySem.call f vs) := by
  refine Att.attach_call hn hdf ?_
  intro w s₀ s₁ mg mb fa o pm cd doc a vs ns G Y ho hd hcd hmg hobj hints hlen hg
  have KX := hY w _ Y
  obtain ⟨fd, hb, hF⟩ := F w mg fa _ KX G.T.g hmg
  exact endCall KX G.T.g G.T.b G.T.builtins G.T.nolimit hg hobj hints (Nat.le_trans hlen hn2) hr hF hb fun H hO hS => hsp _ H a ns hlen hO hS
end K26
namespace K26
open PySem PySem.Spec PyProof.Rows L2

/-! ## the text by places -/
def topS (i : Nat) : Stmt := PySem.Challenge.pw_firstterms_k26_whole_edges_and_widths.main.body.getD i (.Pass ⟨0, 0, 0, 0⟩)
/-- a def of the module under its name, every parameter given -/
def At (K : PySem.W.Frag) (mg : Str → Option Value) (x : Str) (st : Stmt) (ps : List Str) : Prop :=
  ∃ (f : Addr) (fd : FuncData), Fun K x x st f fd ∧ Binds K fd ps [] ∧ mg x = some (.ref f)
/-- what the top has left -/
structure Txt (K : PySem.W.Frag) (mg : Str → Option Value) : Prop where
  isint : At K mg "is_integer" (topS 3) ["thing"]
  isbtw : At K mg "is_between" (topS 4) ["thing", "least", "most"]
  islev : At K mg "is_level" (topS 5) ["thing"]
  divs : At K mg "divisors_of" (topS 6) ["number"]
  prms : At K mg "primes_of" (topS 7) ["number"]
  need : At K mg "need_level" (topS 12) ["level"]
  rawix : At K mg "raw_index" (topS 14) ["level"]
  free : At K mg "free_count" (topS 15) ["number"]
  rawed : At K mg "raw_edges" (topS 16) ["level"]
  indexof : At K mg "index_of" (topS 17) ["level"]
  edgesof : At K mg "edges_of" (topS 18) ["level"]
  ldeck : At K mg "_law_deck" (topS 20) ["_law_script"]
  ldraw : At K mg "_law_draw" (topS 21) ["_law_deck_here", "_law_many"]
  lpick : At K mg "_law_pick" (topS 22) ["_law_deck_here", "_law_some"]
  lsame : At K mg "_law_same" (topS 23) ["_law_told", "_law_due"]
  ldivr : At K mg "_law_divisor" (topS 24) ["_law_one", "_law_other"]
  ldivs : At K mg "_law_divisors" (topS 25) ["_law_n"]
  ledges : At K mg "_law_edges" (topS 26) ["_law_level"]
  lpoints : At K mg "_law_points" (topS 27) ["_law_level"]
  lrounds : At K mg "_law_rounds" (topS 28) ["_law_level", "_law_points_here"]
  lcount : At K mg "_law_is_counted_right" (topS 29) ["_law_level"]
  ltold : At K mg "_law_is_told_right" (topS 30) ["_law_level"]
  gcd : mg "gcd" = some (.builtin "math.gcd")
  most : ∃ t, mg "MOST_LEVEL" = some (.int 400 t)
  bisi : mg "isinstance" = none
  bint : mg "int" = none
  bbool : mg "bool" = none
  btuple : mg "tuple" = none
  blist : mg "list" = none
  bmax : mg "max" = none
  bmin : mg "min" = none
  blen : mg "len" = none
  brepr : mg "repr" = none
  babs : mg "abs" = none
  brange : mg "range" = none
  bsum : mg "sum" = none
  bsorted : mg "sorted" = none

section
variable {P : Program} {w : World} {K : PySem.W.Frag} {mg : Str → Option Value} {base : Heap}
theorem At.cal {x : Str} {st : Stmt} {ps : List Str} {k : Nat} {sp : Sp} (D : At K mg x st ps)
    (h : ∀ (f : Addr) (fd : FuncData), Fun K x x st f fd → FnOk P w K mg base CX0 k f fd ps sp) : C8.Cal P w K mg base k x sp [] := by
  obtain ⟨f, fd, F, b, g⟩ := D
  exact ⟨f, fd, ps, [], h f fd F, g, F.kp, b, .nil⟩
end

/-! ## small things -/
theorem iteD {p A B : Prop} [Decidable p] (h1 : p → A) (h2 : ¬ p → B) : if decide p = true then A else B := by
  by_cases h : p
  · rw [if_pos (decide_eq_true h)]
    exact h1 h
  · rw [if_neg (by rw [decide_eq_false h]; exact Bool.false_ne_true)]
    exact h2 h
theorem iteDT {p A B : Prop} [Decidable p] (h : p) (a : A) : if decide p = true then A else B := iteD (fun _ => a) fun z => absurd h z
theorem iteDF {p A B : Prop} [Decidable p] (h : ¬ p) (b : B) : if decide p = true then A else B := iteD (fun z => absurd z h) fun _ => b
theorem iteV {i j : Int} {A B : Prop} (h1 : i = j → A) (h2 : ¬ i = j → B) : if decide (V.int i = V.int j) = true then A else B :=
  iteD (fun e => h1 (V.int.inj e)) fun e => h2 fun z => e (by rw [z])
theorem iteN {p A B : Prop} [Decidable p] (h1 : ¬ p → A) (h2 : p → B) : if (!decide p) = true then A else B := by
  by_cases h : p
  · rw [decide_eq_true h]
    exact h2 h
  · rw [decide_eq_false h]
    exact h1 h
theorem same_new {H : Hp} {p : Addr} {o : HO} (h : H p = none) : Same H (upd H p o) := fun b x e => by
  rw [upd_ne (ne_of_none e h)]
  exact e
theorem same_upd {H0 H : Hp} {p : Addr} {o : HO} (s : Same H0 H) (h : H0 p = none) : Same H0 (upd H p o) := fun b x e => by
  rw [upd_ne (ne_of_none e h)]
  exact s b x e
theorem szl {n : Nat} (h : n ≤ 5000) : n < sizeLine := Nat.lt_of_le_of_lt h (by decide)
theorem szl' {n : Nat} (h : n ≤ 5000) : n ≤ sizeLine := Nat.le_of_lt (szl h)
/-- naturals as values -/
def nl (l : List Nat) : List V := l.map fun n : Nat => V.int (n : Int)
theorem nl_len (l : List Nat) : (nl l).length = l.length := by unfold nl; rw [List.length_map]
theorem nl_app (l m : List Nat) : nl (l ++ m) = nl l ++ nl m := by unfold nl; rw [List.map_append]
theorem nl_rev (l : List Nat) : nl l.reverse = (nl l).reverse := by unfold nl; rw [List.map_reverse]
theorem cmul {i j : Int} (h0 : 0 ≤ i) (h : i < 2 ^ 64) : CMul i j := .inl ⟨by omega, h⟩
theorem cdiv {i : Int} {j : Nat} (h0 : 1 ≤ j) (h : j ≤ 1000000) : CDiv i (j : Int) := ⟨by omega, by omega⟩

section
variable {P : Program} {w : World} {K : PySem.W.Frag} {mg : Str → Option Value} {base : Heap}
/-! ## looks -/
def spIsInt : Sp := fun vs H Q _ => ∃ i : Int, vs = [.int i] ∧ Q (.bl true) H
theorem c_isint (T : Txt K mg) : C8.Cal P w K mg base 1 "is_integer" spIsInt [] := T.isint.cal fun f fd F => by
  have sc : FnScope ["thing"] ["thing"] (defScope (topS 3)) := ⟨rfl, rfl, rfl, by decide +kernel, rfl, by decide +kernel, by decide +kernel⟩
  refine F.ok sc (fun vs H Q E h => ?_) (fun cdv A outer s H vs Q E hr h => ?_)
  · obtain ⟨i, rfl, _⟩ := h
    rfl
  · obtain ⟨i, rfl, q⟩ := h
    refine ⟨_, pss_one (ps_ret (pe_and
      (pe_callB call_isi (by rfl) T.bisi (by decide +kernel) (pa_cons (pv 0) (pa_cons (pe_bltn (by rfl) T.bint (by decide +kernel) (show RelV (.ty "int") _ from rfl)) pa_nil)))
      (pe_one (pe_not (pe_callB call_isi (by rfl) T.bisi (by decide +kernel) (pa_cons (pv 0) (pa_cons (pe_bltn (by rfl) T.bbool (by decide +kernel) (show RelV (.ty "bool") _ from rfl)) pa_nil))))))), ?_⟩
    refine ⟨.int i, rfl, .int i, .ty "int", .type "int", .type "int", true, rfl, .ty _, .base (.int i), kit_ty (by decide +kernel), true, rfl, ?_⟩
    refine iteT ?_
    exact ⟨.int i, rfl, .int i, .ty "bool", .type "int", .type "bool", false, rfl, .ty _, .base (.int i), kit_ty (by decide +kernel), false, rfl, q⟩
def spBtw : Sp := fun vs H Q _ => ∃ i a b : Int, vs = [.int i, .int a, .int b] ∧ a ≤ i ∧ i ≤ b ∧ Q (.bl true) H
theorem c_isbtw (T : Txt K mg) : C8.Cal P w K mg base 2 "is_between" spBtw [] := T.isbtw.cal fun f fd F => by
  have sc : FnScope ["thing", "least", "most"] ["thing", "least", "most"] (defScope (topS 4)) := ⟨rfl, rfl, rfl, by decide +kernel, rfl, by decide +kernel, by decide +kernel⟩
  refine F.ok sc (fun vs H Q E h => ?_) (fun cdv A outer s H vs Q E hr h => ?_)
  · obtain ⟨i, a, b, rfl, _⟩ := h
    rfl
  · obtain ⟨i, a, b, rfl, h1, h2, q⟩ := h
    refine ⟨_, pss_one (ps_ret (pe_and (C8.pe_c (c_isint T) hr (by decide) (by rfl) (pa_cons (pv 0) pa_nil)) (pe_one (pe_chain op_le op_le (pv 1) (pv 0) (pv 2))))), ?_⟩
    refine ⟨.int i, rfl, i, rfl, true, rfl, iteT ?_⟩
    refine ⟨.int a, rfl, .int i, rfl, a, i, rfl, rfl, _, rfl, iteDT h1 ?_⟩
    refine ⟨.int b, rfl, i, b, rfl, rfl, ?_⟩
    show Q (.bl (decide (i ≤ b))) H
    rw [decide_eq_true h2]
    exact q
def spLev : Sp := fun vs H Q _ => ∃ n : Nat, vs = [.int n] ∧ 1 ≤ n ∧ n ≤ 400 ∧ Q (.bl true) H
theorem c_islev (T : Txt K mg) : C8.Cal P w K mg base 3 "is_level" spLev [] := T.islev.cal fun f fd F => by
  have sc : FnScope ["thing"] ["thing"] (defScope (topS 5)) := ⟨rfl, rfl, rfl, by decide +kernel, rfl, by decide +kernel, by decide +kernel⟩
  refine F.ok sc (fun vs H Q E h => ?_) (fun cdv A outer s H vs Q E hr h => ?_)
  · obtain ⟨i, rfl, _⟩ := h
    rfl
  · obtain ⟨n, rfl, h1, h2, q⟩ := h
    obtain ⟨t, mm⟩ := T.most
    refine ⟨_, pss_one (ps_ret (C8.pe_c (c_isbtw T) hr (by decide) (by rfl) (pa_cons (pv 0) (pa_cons pe_int (pa_cons (pe_glob (v := .int 400) (by rfl) mm ⟨t, rfl⟩) pa_nil))))), ?_⟩
    exact ⟨.int n, rfl, n, 1, 400, rfl, by omega, by omega, q⟩
def spNeed : Sp := fun vs H Q _ => ∃ n : Nat, vs = [.int n] ∧ 1 ≤ n ∧ n ≤ 400 ∧ Q .non H
theorem c_need (T : Txt K mg) : C8.Cal P w K mg base 4 "need_level" spNeed [] := T.need.cal fun f fd F => by
  have sc : FnScope ["level"] ["level"] (defScope (topS 12)) := ⟨rfl, rfl, rfl, by decide +kernel, rfl, by decide +kernel, by decide +kernel⟩
  refine F.ok sc (fun vs H Q E h => ?_) (fun cdv A outer s H vs Q E hr h => ?_)
  · obtain ⟨i, rfl, _⟩ := h
    rfl
  · obtain ⟨n, rfl, h1, h2, q⟩ := h
    refine ⟨_, pss_one (ps_if (pt_not (pt_val (C8.pe_c (c_islev T) hr (by decide) (by rfl) (pa_cons (pv 0) pa_nil)))) (pss_one ps_never) pss_nil), ?_⟩
    exact ⟨.int n, rfl, n, rfl, h1, h2, true, rfl, iteF q⟩
/-! ## divisors -/
def spDivs : Sp := fun vs H Q _ => ∃ (n : Nat) (R : List Nat), vs = [.int n] ∧ dvs n = some R ∧
  ∀ H' p, Same H H' → H p = none → H' p = some (.lst (nl R)) → Q (.ref p) H'
theorem c_divs (T : Txt K mg) : C8.Cal P w K mg base 1 "divisors_of" spDivs [] := T.divs.cal fun f fd F => by
  have sc : FnScope ["number", "low", "high", "divisor"] ["number"] (defScope (topS 6)) := ⟨rfl, rfl, rfl, by decide +kernel, rfl, by decide +kernel, by decide +kernel⟩
  refine F.ok sc (fun vs H Q E h => ?_) (fun cdv A outer s H vs Q E hr h => ?_)
  · obtain ⟨i, R, rfl, _⟩ := h
    rfl
  · obtain ⟨n, R, rfl, hR, q⟩ := h
    refine ⟨_, pss_cons (ps_par3 (i := 1) (j := 2) (l := 3) rfl sc.nd rfl rfl rfl (by decide) (by decide) (by decide) rfl rfl rfl (pa_cons (pe_lst pa_nil) (pa_cons (pe_lst pa_nil) (pa_cons pe_int pa_nil))) (by rfl))
      (pss_cons (ps_while PassesOwn.never (pt_cmpR op_le (pe_op op_mul (pv 3) (pv 3)) (pv 0) (nomark _))
        (pss_cons (ps_if (pt_cmpR op_eq (pe_op op_mod (pv 0) (pv 3)) pe_int (nomark _))
          (pss_cons (ps_expr (pe_bm PySem.F.plainAttrs_list PySem.F.slot_list_append PySem.F.type_list_append mt_append (pv 1) (pa_cons (pv 3) pa_nil)))
          (pss_one (ps_if (pt_cmpR op_lt (pe_op op_mul (pv 3) (pv 3)) (pv 0) (nomark _))
            (pss_one (ps_expr (pe_bm PySem.F.plainAttrs_list PySem.F.slot_list_append PySem.F.type_list_append mt_append (pv 2) (pa_cons (pe_op op_fdiv (pv 0) (pv 3)) pa_nil)))) pss_nil))) pss_nil)
        (pss_one (ps_aug (i := 3) sc.nd rfl (.inl rfl) pe_int ip_add))))
      (pss_one (ps_ret (pe_op op_cat (pv 1) (pe_revL (pv 2)))))), ?_⟩
    refine ⟨Nat.zero_le _, fun a na => ⟨Nat.zero_le _, fun b nb => ⟨_, _, _, rfl, ?_⟩⟩⟩
    have nab : a ≠ b := fun e => by
      rw [← e, upd_same] at nb
      exact nomatch nb
    have nb0 : H b = none := (same_new na).free nb
    refine ⟨fun m σ H1 => ∃ (d : Nat) (lo hi : List Nat), σ = [some (.int n), some (.ref a), some (.ref b), some (.int d)] ∧ dvLoop n m d lo hi = some R ∧
        Same H H1 ∧ H1 a = some (.lst (nl lo)) ∧ H1 b = some (.lst (nl hi)) ∧ lo.length + m ≤ 30 ∧ hi.length + m ≤ 30 ∧ d + m = 31 ∧ 1 ≤ d,
      ⟨30, 1, [], [], rfl, hR, same_upd (same_new na) nb0, ?_, upd_same, Nat.le_refl _, Nat.le_refl _, rfl, Nat.le_refl _⟩, fun m σ H1 hW => ?_⟩
    · rw [upd_ne nab]
      exact upd_same
    · obtain ⟨d, lo, hi, rfl, hl, sm, ha, hb, l1, l2, ed, d1⟩ := hW
      cases m with
      | zero => exact nomatch hl
      | succ m =>
        have dd : (d : Int) * (d : Int) = ((d * d : Nat) : Int) := (Int.natCast_mul d d).symm
        have hd : d ≤ 31 := by omega
        have cm : CMul (d : Int) (d : Int) := cmul (by omega) (by omega)
        refine ⟨.int d, rfl, .int d, rfl, d, d, rfl, rfl, cm, .int n, rfl, _, n, rfl, rfl, _, rfl, iteD (fun hc => ?_) (fun hc => ?_)⟩
        · rw [dd] at hc
          have hc' : d * d ≤ n := by omega
          unfold dvLoop at hl
          rw [if_pos hc'] at hl
          refine ⟨fun σ' H' => ∃ (d : Nat) (lo hi : List Nat), σ' = [some (.int n), some (.ref a), some (.ref b), some (.int d)] ∧ dvLoop n m d lo hi = some R ∧
            Same H H' ∧ H' a = some (.lst (nl lo)) ∧ H' b = some (.lst (nl hi)) ∧ lo.length + m ≤ 30 ∧ hi.length + m ≤ 30 ∧ d + m = 31 ∧ 1 ≤ d,
            fun σ' H' hN => ⟨m, Nat.lt_succ_self m, hN⟩, ?_⟩
          refine ⟨.int n, rfl, .int d, rfl, n, d, rfl, rfl, (by show (0 : Int) < d; omega), rfl, _, rfl, iteV (fun e => ?_) (fun e => ?_)⟩
          · have e' : n % d = 0 := by
              have e1 : ((n % d : Nat) : Int) = 0 := e
              omega
            rw [if_pos e'] at hl
            refine ⟨.ref a, rfl, .inl ⟨rfl, _, SqL.of ha⟩, .int d, rfl, a, _, _, rfl, rfl, ha, szl (by rw [nl_len]; omega), ?_⟩
            have sm2 : Same H (upd H1 a (.lst (nl lo ++ [.int d]))) := same_upd sm na
            have ha2 : (upd H1 a (.lst (nl lo ++ [.int d]))) a = some (.lst (nl (lo ++ [d]))) := by
              rw [upd_same, nl_app]
              rfl
            have hb2 : (upd H1 a (.lst (nl lo ++ [.int d]))) b = some (.lst (nl hi)) := by
              rw [upd_ne nab.symm]
              exact hb
            refine ⟨.int d, rfl, .int d, rfl, d, d, rfl, rfl, cm, .int n, rfl, _, n, rfl, rfl, _, rfl, iteD (fun hc2 => ?_) (fun hc2 => ?_)⟩
            · rw [dd] at hc2
              rw [if_pos (show d * d < n by omega)] at hl
              refine ⟨.ref b, rfl, .inl ⟨rfl, _, SqL.of hb2⟩, .int n, rfl, .int d, rfl, n, d, rfl, rfl, cdiv (by omega) (by omega), b, _, _, rfl, rfl, hb2, szl (by rw [nl_len]; omega), ?_⟩
              refine ⟨.int d, rfl, d, 1, rfl, rfl, d + 1, _, _, rfl, hl, same_upd sm2 nb0, ?_, ?_, ?_, ?_, by omega, by omega⟩
              · rw [upd_ne nab]
                exact ha2
              · rw [upd_same, nl_app]
                rfl
              · rw [List.length_append]
                show lo.length + 1 + m ≤ 30
                omega
              · rw [List.length_append]
                show hi.length + 1 + m ≤ 30
                omega
            · rw [dd] at hc2
              rw [if_neg (show ¬ d * d < n by omega)] at hl
              refine ⟨.int d, rfl, d, 1, rfl, rfl, d + 1, _, _, rfl, hl, sm2, ha2, hb2, ?_, by omega, by omega, by omega⟩
              rw [List.length_append]
              show lo.length + 1 + m ≤ 30
              omega
          · have e' : ¬ n % d = 0 := fun z => e (by
              show ((n % d : Nat) : Int) = 0
              omega)
            rw [if_neg e'] at hl
            exact ⟨.int d, rfl, d, 1, rfl, rfl, d + 1, _, _, rfl, hl, sm, ha, hb, by omega, by omega, by omega, by omega⟩
        · rw [dd] at hc
          have hc' : ¬ d * d ≤ n := by omega
          unfold dvLoop at hl
          rw [if_neg hc'] at hl
          have hR2 : lo ++ hi.reverse = R := Option.some.inj hl
          have noH : ∀ p, H1 p = none → H p = none := fun p z => sm.free z
          refine ⟨.ref a, rfl, .ref b, rfl, b, _, rfl, SqL.of hb, fun r nr => ?_⟩
          have nar : a ≠ r := ne_of_none ha nr
          have ha3 : (upd H1 r (.lst (nl hi).reverse)) a = some (.lst (nl lo)) := by
            rw [upd_ne nar]
            exact ha
          refine ⟨a, r, _, _, rfl, rfl, ha3, upd_same, szl' (by rw [List.length_reverse, nl_len, nl_len]; omega), fun p np => ?_⟩
          have sm3 : Same H (upd H1 r (.lst (nl hi).reverse)) := same_upd sm (noH r nr)
          refine q _ p (same_upd sm3 (sm3.free np)) (sm3.free np) ?_
          rw [upd_same, ← hR2, nl_app, nl_rev]
end
end K26
namespace K26
open PySem PySem.Spec PyProof.Rows L2
section
variable {P : Program} {w : World} {K : PySem.W.Frag} {mg : Str → Option Value} {base : Heap}
theorem strip_succ (p f n : Nat) : strip p (f + 1) n = if n % p = 0 then strip p f (n / p) else some n := rfl
theorem prLoop_succ (f n p : Nat) (acc : List Nat) : prLoop (f + 1) n p acc =
    if 1 < n then
      if n % (if n < p * p then n else p) = 0 then
        match strip (if n < p * p then n else p) 30 n with
        | none => none
        | some m => prLoop f m ((if n < p * p then n else p) + 1) (acc ++ [if n < p * p then n else p])
      else prLoop f n ((if n < p * p then n else p) + 1) acc
    else some acc := rfl
/-! ## primes -/
def spPrms : Sp := fun vs H Q _ => ∃ (n : Nat) (R : List Nat), vs = [.int n] ∧ n ≤ 1000 ∧ prs n = some R ∧
  ∀ H' p, Same H H' → H p = none → H' p = some (.lst (nl R)) → Q (.ref p) H'
theorem c_prms (T : Txt K mg) : C8.Cal P w K mg base 1 "primes_of" spPrms [] := T.prms.cal fun f fd F => by
  have sc : FnScope ["number", "found", "prime"] ["number"] (defScope (topS 7)) := ⟨rfl, rfl, rfl, by decide +kernel, rfl, by decide +kernel, by decide +kernel⟩
  refine F.ok sc (fun vs H Q E h => ?_) (fun cdv A outer s H vs Q E hr h => ?_)
  · obtain ⟨i, R, rfl, _⟩ := h
    rfl
  · obtain ⟨n, R, rfl, hn, hR, q⟩ := h
    refine ⟨_, pss_cons (ps_par (i := 1) (j := 2) rfl sc.nd rfl rfl (by decide) rfl rfl (pa_cons (pe_lst pa_nil) (pa_cons pe_int pa_nil)) (by rfl))
      (pss_cons (ps_while PassesOwn.never (pt_cmpR op_gt (pv 0) pe_int (nomark _))
        (C8.pss_cut (ps_if (pt_cmpR op_gt (pe_op op_mul (pv 2) (pv 2)) (pv 0) (nomark _)) (pss_one (ps_set (i := 2) sc.nd rfl (.inl rfl) (pv 0))) pss_nil)
        (C8.pss_cut (ps_if (pt_cmpR op_eq (pe_op op_mod (pv 0) (pv 2)) pe_int (nomark _))
          (pss_cons (ps_expr (pe_bm PySem.F.plainAttrs_list PySem.F.slot_list_append PySem.F.type_list_append mt_append (pv 1) (pa_cons (pv 2) pa_nil)))
          (pss_one (ps_while PassesOwn.never (pt_cmpR op_eq (pe_op op_mod (pv 0) (pv 2)) pe_int (nomark _))
            (pss_one (ps_set (i := 0) sc.nd rfl (.inl rfl) (pe_op op_fdiv (pv 0) (pv 2))))))) pss_nil)
        (pss_one (ps_aug (i := 2) sc.nd rfl (.inl rfl) pe_int ip_add)))))
      (pss_one (ps_ret (pv 1)))), ?_⟩
    refine ⟨Nat.zero_le _, fun a na => ⟨_, _, rfl, ?_⟩⟩
    refine ⟨fun m σ H1 => ∃ (n p : Nat) (acc : List Nat), σ = [some (.int n), some (.ref a), some (.int p)] ∧ prLoop m n p acc = some R ∧
        Same H H1 ∧ H1 a = some (.lst (nl acc)) ∧ acc.length + m ≤ 60 ∧ n ≤ 1000 ∧ p + m ≤ 2000 ∧ 2 ≤ p,
      ⟨60, n, 2, [], rfl, hR, same_new na, upd_same, Nat.le_refl _, hn, by omega, Nat.le_refl _⟩, fun m σ H1 hW => ?_⟩
    obtain ⟨n, p, acc, rfl, hl, sm, ha, l1, hn, hp, h2⟩ := hW
    cases m with
    | zero => exact nomatch hl
    | succ m =>
      rw [prLoop_succ] at hl
      refine ⟨.int n, rfl, n, 1, rfl, rfl, _, rfl, iteD (fun hc => ?_) (fun hc => ?_)⟩
      · rw [if_pos (show 1 < n by omega)] at hl
        refine ⟨fun σ' H' => ∃ (n p : Nat) (acc : List Nat), σ' = [some (.int n), some (.ref a), some (.int p)] ∧ prLoop m n p acc = some R ∧
          Same H H' ∧ H' a = some (.lst (nl acc)) ∧ acc.length + m ≤ 60 ∧ n ≤ 1000 ∧ p + m ≤ 2000 ∧ 2 ≤ p,
          fun σ' H' hN => ⟨m, Nat.lt_succ_self m, hN⟩, ?_⟩
        have pp : (p : Int) * (p : Int) = ((p * p : Nat) : Int) := (Int.natCast_mul p p).symm
        have cm : CMul (p : Int) (p : Int) := cmul (by omega) (by omega)
        refine ⟨fun σ' H' => H' = H1 ∧ ∃ r : Nat, σ' = [some (.int n), some (.ref a), some (.int r)] ∧ r = (if n < p * p then n else p), ?_, ?_⟩
        · refine ⟨.int p, rfl, .int p, rfl, p, p, rfl, rfl, cm, .int n, rfl, _, n, rfl, rfl, _, rfl, iteD (fun hq => ?_) (fun hq => ?_)⟩
          · rw [pp] at hq
            exact ⟨.int n, rfl, rfl, n, rfl, (if_pos (by omega)).symm⟩
          · rw [pp] at hq
            exact ⟨rfl, p, rfl, (if_neg (by omega)).symm⟩
        · rintro σ' H' ⟨rfl, r, rfl, er⟩
          rw [← er] at hl
          have r2 : 2 ≤ r := by
            rw [er]
            split <;> omega
          have rb : r + m + 1 ≤ 2000 := by
            rw [er]
            split <;> omega
          refine ⟨fun σ' H' => ∃ (n : Nat) (acc : List Nat), σ' = [some (.int n), some (.ref a), some (.int r)] ∧ prLoop m n (r + 1) acc = some R ∧
            Same H H' ∧ H' a = some (.lst (nl acc)) ∧ acc.length + m ≤ 60 ∧ n ≤ 1000, ?_, ?_⟩
          · refine ⟨.int n, rfl, .int r, rfl, n, r, rfl, rfl, (by show (0 : Int) < r; omega), rfl, _, rfl, iteV (fun e => ?_) (fun e => ?_)⟩
            · have e' : n % r = 0 := by
                have e1 : ((n % r : Nat) : Int) = 0 := e
                omega
              rw [if_pos e'] at hl
              refine ⟨.ref a, rfl, .inl ⟨rfl, _, SqL.of ha⟩, .int r, rfl, a, _, _, rfl, rfl, ha, szl (by rw [nl_len]; omega), ?_⟩
              have sm2 : Same H (upd H' a (.lst (nl acc ++ [.int r]))) := same_upd sm na
              have ha2 : (upd H' a (.lst (nl acc ++ [.int r]))) a = some (.lst (nl (acc ++ [r]))) := by
                rw [upd_same, nl_app]
                rfl
              cases hs : strip r 30 n with
              | none =>
                rw [hs] at hl
                exact nomatch hl
              | some y =>
                rw [hs] at hl
                refine ⟨fun j σ2 H2 => H2 = upd H' a (.lst (nl acc ++ [.int r])) ∧ ∃ x : Nat, σ2 = [some (.int x), some (.ref a), some (.int r)] ∧ strip r j x = some y ∧ x ≤ 1000,
                  ⟨30, rfl, n, rfl, hs, hn⟩, fun j σ2 H2 hW => ?_⟩
                obtain ⟨rfl, x, rfl, hx, bx⟩ := hW
                cases j with
                | zero => exact nomatch hx
                | succ j =>
                  rw [strip_succ] at hx
                  refine ⟨.int x, rfl, .int r, rfl, x, r, rfl, rfl, (by show (0 : Int) < r; omega), rfl, _, rfl, iteV (fun e => ?_) (fun e => ?_)⟩
                  · have e' : x % r = 0 := by
                      have e1 : ((x % r : Nat) : Int) = 0 := e
                      omega
                    rw [if_pos e'] at hx
                    refine ⟨fun σ3 H3 => H3 = upd H' a (.lst (nl acc ++ [.int r])) ∧ ∃ x : Nat, σ3 = [some (.int x), some (.ref a), some (.int r)] ∧ strip r j x = some y ∧ x ≤ 1000,
                      fun σ3 H3 hN => ⟨j, Nat.lt_succ_self j, hN⟩, ?_⟩
                    exact ⟨.int x, rfl, .int r, rfl, x, r, rfl, rfl, cdiv (by omega) (by omega), rfl, x / r, rfl, hx, Nat.le_trans (Nat.div_le_self _ _) bx⟩
                  · have e' : ¬ x % r = 0 := fun z => e (by
                      show ((x % r : Nat) : Int) = 0
                      omega)
                    rw [if_neg e'] at hx
                    have ey : x = y := Option.some.inj hx
                    refine ⟨x, acc ++ [r], rfl, ?_, sm2, ha2, ?_, bx⟩
                    · rw [ey]
                      exact hl
                    · rw [List.length_append]
                      show acc.length + 1 + m ≤ 60
                      omega
            · have e' : ¬ n % r = 0 := fun z => e (by
                show ((n % r : Nat) : Int) = 0
                omega)
              rw [if_neg e'] at hl
              exact ⟨n, acc, rfl, hl, sm, ha, by omega, hn⟩
          · rintro σ2 H2 ⟨n2, acc2, rfl, hl2, sm2, ha2, l2, b2⟩
            exact ⟨.int r, rfl, r, 1, rfl, rfl, n2, r + 1, acc2, rfl, hl2, sm2, ha2, l2, b2, by omega, by omega⟩
      · rw [if_neg (show ¬ 1 < n by omega)] at hl
        have hR2 : acc = R := Option.some.inj hl
        exact ⟨.ref a, rfl, q H1 a sm na (by rw [← hR2]; exact ha)⟩
end
end K26
namespace K26
open PySem PySem.Spec PyProof.Rows L2
theorem cmulN {a : Nat} {j : Int} (h : a ≤ 10000000000) : CMul (a : Int) j := cmul (Int.natCast_nonneg _) (by omega)
/-- a list's loop by what is left of it -/
theorem forRest {α : Type} {K : PySem.W.Frag} {a : Addr} {f : α → V} {xs : List α} {g : TG} {tb : TS} {D : Ends} {σ : L2.St} {H : Hp}
    (Pr : List α → L2.St → Hp → Prop) (h0 : Pr xs σ H) (hl : ∀ r σ H, Pr r σ H → SqL K H a (xs.map f))
    (hs : ∀ x r σ H, Pr (x :: r) σ H → g (f x) σ H fun σ2 H2 => tb { D with nx := Pr r, ct := Pr r, bk := D.nx } σ2 H2)
    (hd : ∀ σ H, Pr [] σ H → D.nx σ H) : tFor (fun _ H R => R (Itl K a) H) g tb D σ H := by
  refine for_list (xs := xs.map f) (fun i σ H => Pr (xs.drop i) σ H) h0 (fun i σ H _ h => hl _ σ H h) (fun i x σ H e h => ?_) (fun σ H h => hd σ H ?_)
  · rw [List.getElem?_map] at e
    cases q : xs[i]? with
    | none =>
      rw [q] at e
      exact nomatch e
    | some y =>
      rw [q] at e
      have ey : f y = x := Option.some.inj e
      have hi : i < xs.length := (List.getElem?_eq_some_iff.mp q).1
      have hy : xs[i] = y := (List.getElem?_eq_some_iff.mp q).2
      have hd : xs.drop i = y :: xs.drop (i + 1) := by rw [List.drop_eq_getElem_cons hi, hy]
      rw [← ey]
      have h2 : Pr (xs.drop i) σ H := h
      rw [hd] at h2
      exact hs y _ σ H h2
  · have h2 : Pr (xs.drop (xs.map f).length) σ H := h
    rw [List.length_map, List.drop_length] at h2
    exact h2
section
variable {P : Program} {w : World} {K : PySem.W.Frag} {mg : Str → Option Value} {base : Heap}
theorem upLoop_cons (p : Nat) (ps : List Nat) (x : Nat) : upLoop (p :: ps) x = if 2 ≤ p ∧ p ≤ 1000 ∧ x ≤ 1000000 then upLoop ps (x / p * (p + 1)) else none := rfl
theorem downLoop_cons (p : Nat) (ps : List Nat) (x : Nat) : downLoop (p :: ps) x = if 2 ≤ p ∧ p ≤ 1000 ∧ x ≤ 1000000 then downLoop ps (x / p * (p - 1)) else none := rfl
theorem edLoop_cons (n c : Nat) (cs : List Nat) (acc : List Tri) : edLoop n (c :: cs) acc =
    if 1 ≤ c ∧ c ≤ 1000 ∧ 1 ≤ Nat.gcd c (n / c) ∧ Nat.gcd c (n / c) ≤ 400 ∧ 1 ≤ Nat.gcd (c * c) n ∧ Nat.gcd (c * c) n ≤ 1000 ∧ acc.length ≤ 1000 then
      match fre (Nat.gcd c (n / c)) with
      | none => none
      | some m => edLoop n cs (acc ++ [(c, m, n / Nat.gcd (c * c) n)])
    else none := rfl
/-! ## the index, the free numbers -/
def spIdx : Sp := fun vs H Q _ => ∃ (n i : Nat), vs = [.int n] ∧ n ≤ 1000 ∧ idx n = some i ∧ ∀ H', Same H H' → Q (.int i) H'
theorem c_rawix (T : Txt K mg) : C8.Cal P w K mg base 2 "raw_index" spIdx [] := T.rawix.cal fun f fd F => by
  have sc : FnScope ["level", "found", "prime"] ["level"] (defScope (topS 14)) := ⟨rfl, rfl, rfl, by decide +kernel, rfl, by decide +kernel, by decide +kernel⟩
  refine F.ok sc (fun vs H Q E h => ?_) (fun cdv A outer s H vs Q E hr h => ?_)
  · obtain ⟨n, i, rfl, _⟩ := h
    rfl
  · obtain ⟨n, i, rfl, hn, hi, q⟩ := h
    unfold idx at hi
    cases hp : prs n with
    | none =>
      rw [hp] at hi
      exact nomatch hi
    | some ps =>
      rw [hp] at hi
      have hu : upLoop ps n = some i := hi
      refine ⟨_, pss_cons (ps_set (i := 1) sc.nd rfl (.inl rfl) (pv 0))
        (pss_cons (ps_for PassesOwn.never rfl (pi_list (C8.pe_c (c_prms T) hr (by decide) (by rfl) (pa_cons (pv 0) pa_nil))) (pg_name (i := 2) sc.nd rfl (.inl rfl))
          (pss_one (ps_set (i := 1) sc.nd rfl (.inl rfl) (pe_op op_mul (pe_op op_fdiv (pv 1) (pv 2)) (pe_op op_add (pv 2) pe_int)))))
        (pss_one (ps_ret (pv 1)))), ?_⟩
      refine ⟨.int n, rfl, .int n, rfl, n, ps, rfl, hn, hp, fun H1 l sm nl0 hl => ?_⟩
      refine ⟨l, rfl, ⟨_, SqL.of hl⟩, ?_⟩
      refine forRest (f := fun n : Nat => V.int (n : Int)) (xs := ps) (fun r σ H2 => H2 = H1 ∧ ∃ (x : Nat) (y : Option V), σ = [some (.int n), some (.int x), y] ∧ upLoop r x = some i)
        ⟨rfl, n, none, rfl, hu⟩ (fun r σ H2 h => by rw [h.1]; exact SqL.of hl) (fun p r σ H2 h => ?_) (fun σ H2 h => ?_)
      · obtain ⟨rfl, x, y, rfl, hx⟩ := h
        rw [upLoop_cons] at hx
        by_cases hc : 2 ≤ p ∧ p ≤ 1000 ∧ x ≤ 1000000
        · rw [if_pos hc] at hx
          have hd : x / p ≤ x := Nat.div_le_self _ _
          exact ⟨.int x, rfl, .int p, rfl, x, p, rfl, rfl, cdiv (by omega) (by omega), .int p, rfl, p, 1, rfl, rfl, ((x / p : Nat) : Int), ((p + 1 : Nat) : Int), rfl, rfl,
            cmulN (a := x / p) (by omega), rfl, x / p * (p + 1), _, rfl, hx⟩
        · rw [if_neg hc] at hx
          exact nomatch hx
      · obtain ⟨rfl, x, y, rfl, hx⟩ := h
        have ex : x = i := Option.some.inj hx
        exact ⟨.int x, rfl, by rw [ex]; exact q _ sm⟩
def spFre : Sp := fun vs H Q _ => ∃ (n i : Nat), vs = [.int n] ∧ n ≤ 1000 ∧ fre n = some i ∧ ∀ H', Same H H' → Q (.int i) H'
theorem c_free (T : Txt K mg) : C8.Cal P w K mg base 2 "free_count" spFre [] := T.free.cal fun f fd F => by
  have sc : FnScope ["number", "found", "prime"] ["number"] (defScope (topS 15)) := ⟨rfl, rfl, rfl, by decide +kernel, rfl, by decide +kernel, by decide +kernel⟩
  refine F.ok sc (fun vs H Q E h => ?_) (fun cdv A outer s H vs Q E hr h => ?_)
  · obtain ⟨n, i, rfl, _⟩ := h
    rfl
  · obtain ⟨n, i, rfl, hn, hi, q⟩ := h
    unfold fre at hi
    cases hp : prs n with
    | none =>
      rw [hp] at hi
      exact nomatch hi
    | some ps =>
      rw [hp] at hi
      have hu : downLoop ps n = some i := hi
      refine ⟨_, pss_cons (ps_set (i := 1) sc.nd rfl (.inl rfl) (pv 0))
        (pss_cons (ps_for PassesOwn.never rfl (pi_list (C8.pe_c (c_prms T) hr (by decide) (by rfl) (pa_cons (pv 0) pa_nil))) (pg_name (i := 2) sc.nd rfl (.inl rfl))
          (pss_one (ps_set (i := 1) sc.nd rfl (.inl rfl) (pe_op op_mul (pe_op op_fdiv (pv 1) (pv 2)) (pe_op op_sub (pv 2) pe_int)))))
        (pss_one (ps_ret (pv 1)))), ?_⟩
      refine ⟨.int n, rfl, .int n, rfl, n, ps, rfl, hn, hp, fun H1 l sm nl0 hl => ?_⟩
      refine ⟨l, rfl, ⟨_, SqL.of hl⟩, ?_⟩
      refine forRest (f := fun n : Nat => V.int (n : Int)) (xs := ps) (fun r σ H2 => H2 = H1 ∧ ∃ (x : Nat) (y : Option V), σ = [some (.int n), some (.int x), y] ∧ downLoop r x = some i)
        ⟨rfl, n, none, rfl, hu⟩ (fun r σ H2 h => by rw [h.1]; exact SqL.of hl) (fun p r σ H2 h => ?_) (fun σ H2 h => ?_)
      · obtain ⟨rfl, x, y, rfl, hx⟩ := h
        rw [downLoop_cons] at hx
        by_cases hc : 2 ≤ p ∧ p ≤ 1000 ∧ x ≤ 1000000
        · rw [if_pos hc] at hx
          have hd : x / p ≤ x := Nat.div_le_self _ _
          have e1 : (p : Int) - 1 = ((p - 1 : Nat) : Int) := by omega
          refine ⟨.int x, rfl, .int p, rfl, x, p, rfl, rfl, cdiv (by omega) (by omega), .int p, rfl, p, 1, rfl, rfl, ((x / p : Nat) : Int), (p : Int) - 1, rfl, rfl,
            cmulN (a := x / p) (by omega), rfl, x / p * (p - 1), some (.int p), ?_, hx⟩
          rw [e1]
          rfl
        · rw [if_neg hc] at hx
          exact nomatch hx
      · obtain ⟨rfl, x, y, rfl, hx⟩ := h
        have ex : x = i := Option.some.inj hx
        exact ⟨.int x, rfl, by rw [ex]; exact q _ sm⟩
/-! ## edges -/
/-- a triple's items -/
def tv (t : Tri) : List V := [.int t.1, .int t.2.1, .int t.2.2]
/-- the list of addresses stands for the triples -/
def Tups (H : Hp) (as : List Addr) (ts : List Tri) : Prop := Paired (fun a t => H a = some (.tup (tv t))) as ts
theorem Tups.app {H : Hp} {as bs : List Addr} {ts us : List Tri} (h : Tups H as ts) (g : Tups H bs us) : Tups H (as ++ bs) (ts ++ us) := by
  induction h with
  | nil => exact g
  | cons r _ ih => exact .cons r ih
theorem Tups.same {H H' : Hp} {as : List Addr} {ts : List Tri} (s : ∀ b xs, H b = some (.tup xs) → H' b = some (.tup xs)) (h : Tups H as ts) : Tups H' as ts :=
  Paired.mapP h fun _ _ r => s _ _ r
theorem Tups.len {H : Hp} {as : List Addr} {ts : List Tri} (h : Tups H as ts) : as.length = ts.length := Paired.length h
def rl (as : List Addr) : List V := as.map V.ref
def spRawEd : Sp := fun vs H Q _ => ∃ (n : Nat) (e : List Tri), vs = [.int n] ∧ 1 ≤ n ∧ n ≤ 1000 ∧ edg n = some e ∧
  ∀ H' p as, Same H H' → H p = none → H' p = some (.lst (rl as)) → Tups H' as e → Q (.ref p) H'
theorem c_rawed (T : Txt K mg) : C8.Cal P w K mg base 3 "raw_edges" spRawEd [] := T.rawed.cal fun f fd F => by
  have sc : FnScope ["level", "found", "c"] ["level"] (defScope (topS 16)) := ⟨rfl, rfl, rfl, by decide +kernel, rfl, by decide +kernel, by decide +kernel⟩
  refine F.ok sc (fun vs H Q E h => ?_) (fun cdv A outer s H vs Q E hr h => ?_)
  · obtain ⟨n, i, rfl, _⟩ := h
    rfl
  · obtain ⟨n, e, rfl, h1, hn, hi, q⟩ := h
    unfold edg at hi
    cases hp : dvs n with
    | none =>
      rw [hp] at hi
      exact nomatch hi
    | some ds =>
      rw [hp] at hi
      have hu : edLoop n ds [] = some e := hi
      refine ⟨_, pss_cons (ps_set (i := 1) sc.nd rfl (.inl rfl) (pe_lst pa_nil))
        (pss_cons (ps_for PassesOwn.never rfl (pi_list (C8.pe_c (c_divs T) hr (by decide) (by rfl) (pa_cons (pv 0) pa_nil))) (pg_name (i := 2) sc.nd rfl (.inl rfl))
          (pss_one (ps_expr (pe_bm PySem.F.plainAttrs_list PySem.F.slot_list_append PySem.F.type_list_append mt_append (pv 1)
            (pa_cons (pe_tup (pa_cons (pv 2)
              (pa_cons (C8.pe_c (c_free T) hr (by decide) (by rfl) (pa_cons (pe_callBfun cr_gcd (by rfl) T.gcd (pa_cons (pv 2) (pa_cons (pe_op op_fdiv (pv 0) (pv 2)) pa_nil))) pa_nil))
              (pa_cons (pe_op op_fdiv (pv 0) (pe_callBfun cr_gcd (by rfl) T.gcd (pa_cons (pe_op op_mul (pv 2) (pv 2)) (pa_cons (pv 0) pa_nil)))) pa_nil)))) pa_nil)))))
        (pss_one (ps_ret (pv 1)))), ?_⟩
      refine ⟨Nat.zero_le _, fun a na => ?_⟩
      refine ⟨.int n, rfl, n, ds, rfl, hp, fun H1 l sm nl0 hl => ?_⟩
      have ha1 : H1 a = some (.lst []) := sm _ _ upd_same
      have nal : a ≠ l := fun z => by
        rw [← z, upd_same] at nl0
        exact nomatch nl0
      have sH1 : Same H H1 := (same_new na).trans sm
      have lH : H l = none := (same_new na).free nl0
      refine ⟨l, rfl, ⟨_, SqL.of hl⟩, ?_⟩
      refine forRest (f := fun n : Nat => V.int (n : Int)) (xs := ds) (fun r σ H2 => ∃ (as : List Addr) (acc : List Tri) (y : Option V), σ = [some (.int n), some (.ref a), y] ∧
          edLoop n r acc = some e ∧ Same H H2 ∧ H2 l = some (.lst (nl ds)) ∧ H2 a = some (.lst (rl as)) ∧ Tups H2 as acc)
        ⟨[], [], none, rfl, hu, sH1, hl, ha1, .nil⟩ (fun r σ H2 h => ?_) (fun c r σ H2 h => ?_) (fun σ H2 h => ?_)
      · obtain ⟨_, _, _, _, _, _, z, _⟩ := h
        exact SqL.of z
      · obtain ⟨as, acc, y, rfl, hx, s2, hl2, ha2, tu⟩ := h
        rw [edLoop_cons] at hx
        split at hx
        · rename_i hc
          obtain ⟨c1, c2, c3, c4, c5, c6, c7⟩ := hc
          cases hf : fre (Nat.gcd c (n / c)) with
          | none =>
            rw [hf] at hx
            exact nomatch hx
          | some m =>
            rw [hf] at hx
            have g2 : Nat.gcd ((c : Int) * (c : Int)).natAbs (n : Int).natAbs = Nat.gcd (c * c) n := by
              rw [show ((c : Int) * (c : Int)) = ((c * c : Nat) : Int) from (Int.natCast_mul c c).symm]
              rfl
            refine ⟨.ref a, rfl, .inl ⟨rfl, _, SqL.of ha2⟩, .int c, rfl, .int c, rfl, .int n, rfl, .int c, rfl, n, c, rfl, rfl, cdiv (by omega) (by omega), c, ((n / c : Nat) : Int), rfl, ?_⟩
            refine ⟨Nat.gcd c (n / c), m, rfl, by omega, hf, fun H3 s3 => ?_⟩
            refine ⟨.int n, rfl, .int c, rfl, .int c, rfl, c, c, rfl, rfl, cmul (by omega) (by omega), .int n, rfl, _, n, rfl, ?_⟩
            refine ⟨n, ((Nat.gcd (c * c) n : Nat) : Int), rfl, by rw [g2], cdiv (by omega) (by omega), ?_⟩
            refine ⟨(by show 3 ≤ sizeLine; decide), fun t nt => ?_⟩
            have s4 : Same H2 (upd H3 t (.tup (tv (c, m, n / Nat.gcd (c * c) n)))) := same_upd s3 (s3.free nt)
            have ha3 := s4 _ _ ha2
            have s5 : Same H (upd H3 t (.tup (tv (c, m, n / Nat.gcd (c * c) n)))) := s2.trans s4
            refine ⟨a, _, _, rfl, rfl, ha3, szl (by unfold rl; rw [List.length_map, tu.len]; omega), ?_⟩
            have keepT : ∀ b xs, (upd H3 t (.tup (tv (c, m, n / Nat.gcd (c * c) n)))) b = some (.tup xs) →
                (upd (upd H3 t (.tup (tv (c, m, n / Nat.gcd (c * c) n)))) a (.lst (rl as ++ [.ref t]))) b = some (.tup xs) := fun b xs z => by
              rw [upd_ne (ne_of z ha3 (fun k => nomatch k))]
              exact z
            refine ⟨as ++ [t], _, _, rfl, hx, same_upd s5 na, ?_, ?_, ?_⟩
            · rw [upd_ne nal.symm]
              exact s4 _ _ hl2
            · rw [upd_same]
              unfold rl
              rw [List.map_append]
              rfl
            · exact ((tu.same fun b xs z => s4 _ _ z).app (.cons upd_same .nil)).same keepT
        · exact nomatch hx
      · obtain ⟨as, acc, y, rfl, hx, s2, hl2, ha2, tu⟩ := h
        have ee : acc = e := Option.some.inj hx
        rw [ee] at tu
        exact ⟨.ref a, rfl, q H2 a as s2 na ha2 tu⟩
end
end K26
namespace K26
open PySem PySem.Spec PyProof.Rows L2
section
variable {X : Cx} {k : Nat} {f : Addr} {fd : FuncData} {sp : Sp} {x q : Str} {p pos kpos : Pos} {e : Expr} {te : TE}
/-- f(q = e) of a def of the one parameter q -/
theorem callK1 (F : FnOk X.prog X.w X.K X.mg X.base CX0 k f fd [q] sp) (hr : Room k X.A) (hg : Gl X x) (hm : X.mg x = some (.ref f)) (hk : PySem.W.keepIn X.K (.ref f) = true)
    (hb : ∀ (s : Shared) (v : Value), BindsTo s fd ⟨[], [(q, v)]⟩ [(q, v)]) (he : PE X e te)
    (hall : (backToKw pos (keywordEach [⟨some q, e, kpos⟩] X.env)).all (·.1.isSome) = true := by rfl)
    (hks : (backToKw pos (keywordEach [⟨some q, e, kpos⟩] X.env)).filterMap (·.1) = [q] := by rfl) (hdb : (x == ("__debug__" : Str)) = false := by decide)
    (hpl : ((backTo pos (starEach [] X.env)).any (·.1) || (backToKw pos (keywordEach [⟨some q, e, kpos⟩] X.env)).any (·.1.isNone)) = false := by rfl) :
    PE X (.Call (.Name x p) [] [⟨some q, e, kpos⟩] pos) (tCall sp [] E0 (tCons te tNil)) := by
  constructor
  intro pins s σ H Q I h
  refine wpAny_Call_Name_kw (ld_glob I hg hm ?_ hdb)
  refine PySem.W.callWith_KW0 (h₀ := X.base) I.ok.mod.kin hk hall ?_ hpl
  have hkw : PK X [⟨some q, e, kpos⟩] (tCons te tNil) := pk_cons he pk_nil
  refine thn (hkw.run pos pins s σ H _ I h) ?_
  rintro ws s2 ⟨zs, H2, I2, rz, q2⟩
  refine ⟨I2.kIn, ?_⟩
  rw [hks]
  rw [List.append_nil] at q2
  have hl := F.len _ _ _ _ q2
  cases rz with
  | nil => exact nomatch hl
  | @cons vz uz zs' ws' r1 r2 =>
    cases r2 with
    | cons _ _ => exact nomatch hl
    | nil =>
      refine wpAny_call (codeAny_mono (F.run X.A X.stack s2 H2 ⟨[], [(q, uz)]⟩ [uz] [vz] Q E0 hr I2.env0 (hb s2 uz) (.cons r1 .nil) q2) ?_)
      intro rr s' hq
      cases rr with
      | error e => exact hq.elim
      | ok fl =>
        cases fl with
        | ret u => exact I2.after hq
        | next => exact hq.elim
        | brk => exact hq.elim
        | cont => exact hq.elim
end
section
variable {P : Program} {w : World} {K : PySem.W.Frag} {mg : Str → Option Value} {base : Heap}
/-- a def of the parameter level, called by position or by name -/
structure Cal1 (P : Program) (w : World) (K : PySem.W.Frag) (mg : Str → Option Value) (base : Heap) (k : Nat) (x : Str) (sp : Sp) : Prop where
  ex : ∃ (f : Addr) (fd : FuncData), FnOk P w K mg base CX0 k f fd ["level"] sp ∧ mg x = some (.ref f) ∧ PySem.W.keepIn K (.ref f) = true ∧ Binds K fd ["level"] [] ∧
    ∀ (s : Shared) (v : Value), BindsTo s fd ⟨[], [("level", v)]⟩ [("level", v)]
theorem Cal1.cal {k : Nat} {x : Str} {sp : Sp} (c : Cal1 P w K mg base k x sp) : C8.Cal P w K mg base k x sp [] := by
  obtain ⟨f, fd, F, g, kp, b, _⟩ := c.ex
  exact ⟨f, fd, _, [], F, g, kp, b, .nil⟩
theorem peKw {X : Cx} {j k : Nat} {x : Str} {sp : Sp} {p pos kpos : Pos} {e : Expr} {te : TE} (c : Cal1 X.prog X.w X.K X.mg X.base k x sp) (hr : Room j X.A) (hk : k ≤ j) (hg : Gl X x) (he : PE X e te)
    (hall : (backToKw pos (keywordEach [⟨some "level", e, kpos⟩] X.env)).all (·.1.isSome) = true := by rfl)
    (hks : (backToKw pos (keywordEach [⟨some "level", e, kpos⟩] X.env)).filterMap (·.1) = [("level" : Str)] := by rfl) (hdb : (x == ("__debug__" : Str)) = false := by decide)
    (hpl : ((backTo pos (starEach [] X.env)).any (·.1) || (backToKw pos (keywordEach [⟨some "level", e, kpos⟩] X.env)).any (·.1.isNone)) = false := by rfl) :
    PE X (.Call (.Name x p) [] [⟨some "level", e, kpos⟩] pos) (tCall sp [] E0 (tCons te tNil)) := by
  obtain ⟨f, fd, F, g, kp, _, b⟩ := c.ex
  exact callK1 F (hr.mono hk) hg g kp b he hall hks hdb hpl
def spIndex : Sp := fun vs H Q _ => ∃ (n i : Nat), vs = [.int n] ∧ 1 ≤ n ∧ n ≤ 400 ∧ idx n = some i ∧ ∀ H', Same H H' → Q (.int i) H'
theorem c_index (T : Txt K mg) : Cal1 P w K mg base 5 "index_of" spIndex := by
  obtain ⟨f, fd, F, b, g⟩ := T.indexof
  have kw : ∀ (s : Shared) (v : Value), BindsTo s fd ⟨[], [("level", v)]⟩ [("level", v)] := by
    obtain ⟨oc, od, kV, doc, pm, an, cdv, ct, osl, rfl, _, _⟩ := F.ex
    exact fun s v => .of_eq rfl
  refine ⟨f, fd, ?_, g, F.kp, b, kw⟩
  have sc : FnScope ["level"] ["level"] (defScope (topS 17)) := ⟨rfl, rfl, rfl, by decide +kernel, rfl, by decide +kernel, by decide +kernel⟩
  refine F.ok sc (fun vs H Q E h => ?_) (fun cdv A outer s H vs Q E hr h => ?_)
  · obtain ⟨n, i, rfl, _⟩ := h
    rfl
  · obtain ⟨n, i, rfl, h1, h2, hi, q⟩ := h
    refine ⟨_, pss_cons (ps_expr (C8.pe_c (c_need T) hr (by decide) (by rfl) (pa_cons (pv 0) pa_nil)))
      (pss_one (ps_ret (C8.pe_c (c_rawix T) hr (by decide) (by rfl) (pa_cons (pv 0) pa_nil)))), ?_⟩
    refine ⟨.int n, rfl, n, rfl, h1, h2, ?_⟩
    exact ⟨.int n, rfl, n, i, rfl, by omega, hi, q⟩
def spEdges : Sp := fun vs H Q _ => ∃ (n : Nat) (e : List Tri), vs = [.int n] ∧ 1 ≤ n ∧ n ≤ 400 ∧ edg n = some e ∧
  ∀ H' p as, Same H H' → H p = none → H' p = some (.tup (rl as)) → Tups H' as e → Q (.ref p) H'
theorem c_edges (T : Txt K mg) : Cal1 P w K mg base 5 "edges_of" spEdges := by
  obtain ⟨f, fd, F, b, g⟩ := T.edgesof
  have kw : ∀ (s : Shared) (v : Value), BindsTo s fd ⟨[], [("level", v)]⟩ [("level", v)] := by
    obtain ⟨oc, od, kV, doc, pm, an, cdv, ct, osl, rfl, _, _⟩ := F.ex
    exact fun s v => .of_eq rfl
  refine ⟨f, fd, ?_, g, F.kp, b, kw⟩
  have sc : FnScope ["level"] ["level"] (defScope (topS 18)) := ⟨rfl, rfl, rfl, by decide +kernel, rfl, by decide +kernel, by decide +kernel⟩
  refine F.ok sc (fun vs H Q E h => ?_) (fun cdv A outer s H vs Q E hr h => ?_)
  · obtain ⟨n, i, rfl, _⟩ := h
    rfl
  · obtain ⟨n, e, rfl, h1, h2, hi, q⟩ := h
    refine ⟨_, pss_cons (ps_expr (C8.pe_c (c_need T) hr (by decide) (by rfl) (pa_cons (pv 0) pa_nil)))
      (pss_one (ps_ret (pe_callTy call_tuple_of (by rfl) T.btuple (by decide +kernel) (pa_cons (C8.pe_c (c_rawed T) hr (by decide) (by rfl) (pa_cons (pv 0) pa_nil)) pa_nil)))), ?_⟩
    refine ⟨.int n, rfl, n, rfl, h1, h2, ?_⟩
    refine ⟨.int n, rfl, n, e, rfl, h1, by omega, hi, fun H1 l as s1 nl0 hl tu => ?_⟩
    refine ⟨l, rl as, rfl, .inl ⟨SqL.of hl, fun p np => ?_⟩⟩
    exact q _ p as (same_upd s1 (s1.free np)) (s1.free np) upd_same (tu.same fun b xs z => by
      rw [upd_ne (ne_of_none z np)]
      exact z)
end
end K26
namespace K26
open PySem PySem.Spec PyProof.Rows L2
theorem upd2 {H : Hp} {p : Addr} {o u : HO} : upd (upd H p o) p u = upd H p u := upd_upd
theorem fltYes {p : Nat → Bool} {s i : Nat} (h : p (s + i) = true) : (List.range' s (i + 1)).filter p = (List.range' s i).filter p ++ [s + i] := by
  rw [List.range'_1_concat, List.filter_append, List.filter_cons, if_pos h]
  rfl
theorem fltNo {p : Nat → Bool} {s i : Nat} (h : p (s + i) = false) : (List.range' s (i + 1)).filter p = (List.range' s i).filter p := by
  rw [List.range'_1_concat, List.filter_append, List.filter_cons, if_neg (by rw [h]; exact Bool.false_ne_true)]
  exact List.append_nil _
theorem fltLen (p : Nat → Bool) (s i : Nat) : ((List.range' s i).filter p).length ≤ i := Nat.le_trans (List.length_filter_le _ _) (by rw [List.length_range']; exact Nat.le_refl _)
section
variable {P : Program} {w : World} {K : PySem.W.Frag} {mg : Str → Option Value} {base : Heap}
/-! ## the law's greatest common divisor -/
def spDivr : Sp := fun vs H Q _ => ∃ (a b : Nat), vs = [.int a, .int b] ∧ Q (.int ((Nat.gcd a b : Nat) : Int)) H
theorem c_divr (T : Txt K mg) : C8.Cal P w K mg base 1 "_law_divisor" spDivr [] := T.ldivr.cal fun f fd F => by
  have sc : FnScope ["_law_one", "_law_other"] ["_law_one", "_law_other"] (defScope (topS 24)) := ⟨rfl, rfl, rfl, by decide +kernel, rfl, by decide +kernel, by decide +kernel⟩
  refine F.ok sc (fun vs H Q E h => ?_) (fun cdv A outer s H vs Q E hr h => ?_)
  · obtain ⟨a, b, rfl, _⟩ := h
    rfl
  · obtain ⟨a, b, rfl, q⟩ := h
    refine ⟨_, pss_cons (ps_par (i := 0) (j := 1) rfl sc.nd rfl rfl (by decide) rfl rfl
        (pa_cons (pe_callB call_abs (by rfl) T.babs (by decide +kernel) (pa_cons (pv 0) pa_nil)) (pa_cons (pe_callB call_abs (by rfl) T.babs (by decide +kernel) (pa_cons (pv 1) pa_nil)) pa_nil)) (by rfl))
      (pss_cons (ps_while PassesOwn.never (pt_cmpR op_gt (pv 1) pe_int (nomark _))
        (pss_one (ps_par (i := 0) (j := 1) rfl sc.nd rfl rfl (by decide) rfl rfl
          (pa_cons (pv 1) (pa_cons (pe_op op_mod (pe_callTy call_int1 (by rfl) T.bint (by decide +kernel) (pa_cons (pv 0) pa_nil)) (pv 1)) pa_nil)) (by rfl))))
      (pss_one (ps_ret (pv 0)))), ?_⟩
    have nn : ∀ x : Nat, (if (x : Int) < 0 then -(x : Int) else (x : Int)) = (x : Int) := fun x => if_neg (by omega)
    refine ⟨.int a, rfl, a, rfl, .int b, rfl, b, rfl, _, _, rfl, ?_⟩
    refine ⟨fun m σ H1 => H1 = H ∧ ∃ x y : Nat, σ = [some (.int x), some (.int y)] ∧ Nat.gcd x y = Nat.gcd a b ∧ y = m, ⟨b, rfl, a, b, ?_, rfl, rfl⟩, fun m σ H1 hW => ?_⟩
    · show [some (V.int (if (a : Int) < 0 then -(a : Int) else (a : Int))), some (V.int (if (b : Int) < 0 then -(b : Int) else (b : Int)))] = _
      rw [nn, nn]
    · obtain ⟨rfl, x, y, rfl, hg, rfl⟩ := hW
      refine ⟨.int y, rfl, y, 0, rfl, rfl, _, rfl, iteD (fun hc => ?_) (fun hc => ?_)⟩
      · have hy : 0 < y := by omega
        refine ⟨fun σ' H' => H' = H1 ∧ ∃ x' y' : Nat, σ' = [some (.int x'), some (.int y')] ∧ Nat.gcd x' y' = Nat.gcd a b ∧ y' < y,
          fun σ' H' ⟨h1, x', y', h2, h3, h4⟩ => ⟨y', h4, h1, x', y', h2, h3, rfl⟩, ?_⟩
        refine ⟨.int y, rfl, .int x, rfl, .inl ⟨x, rfl, .int y, rfl, x, y, rfl, rfl, (by show (0 : Int) < y; omega), _, _, rfl, rfl, y, x % y, rfl, ?_, Nat.mod_lt _ hy⟩⟩
        rw [← hg, Nat.gcd_comm x y, Nat.gcd_rec y x, Nat.gcd_comm]
      · have hy : y = 0 := by omega
        rw [hy, Nat.gcd_zero_right] at hg
        exact ⟨.int x, rfl, by rw [hg]; exact q⟩
/-! ## the law's divisors -/
def spLdivs : Sp := fun vs H Q _ => ∃ n : Nat, vs = [.int n] ∧ n ≤ 1000 ∧ ∀ D, H D = none → Q (.ref D) (upd H D (.lst (nl (ldivs n))))
theorem c_ldivs (T : Txt K mg) : C8.Cal P w K mg base 1 "_law_divisors" spLdivs [] := T.ldivs.cal fun f fd F => by
  have sc : FnScope ["_law_n", "_law_d"] ["_law_n"] (defScope (topS 25)) := ⟨rfl, rfl, rfl, by decide +kernel, rfl, by decide +kernel, by decide +kernel⟩
  refine F.ok sc (fun vs H Q E h => ?_) (fun cdv A outer s H vs Q E hr h => ?_)
  · obtain ⟨a, rfl, _⟩ := h
    rfl
  · obtain ⟨n, rfl, hn, q⟩ := h
    refine ⟨_, pss_one (ps_ret (pe_lc (own := [("_law_d", 1)]) (g := gName 1) rfl sc.nd
      (pi_range2 (by rfl) T.brange (pa_cons pe_int (pa_cons (pe_op op_add (pv 0) pe_int) pa_nil)))
      (blkOk_by (own := [("_law_d", 1)]) (N := ["_law_n", "_law_d"]) (sc := defScope (topS 25)) (by decide +kernel))
      (fun _ _ _ _ _ => pg_name (i := 1) sc.nd rfl (Or.inl rfl))
      (fun _ _ _ _ _ => pts_one (pt_cmpR op_eq (pe_op op_mod (pe_callTy call_int1 (by rfl) T.bint (by decide +kernel) (pa_cons (pv 0) pa_nil)) (pv 1)) pe_int (nomark _)))
      (fun _ _ _ _ _ => pv 1))), ?_⟩
    refine ⟨.int n, rfl, n, 1, rfl, rfl, 1, (n : Int) + 1, rfl, ⟨by omega, by omega, by omega, by omega⟩, fun D nD => ?_⟩
    have en : ((n : Int) + 1 - 1).toNat = n := by omega
    rw [en]
    refine lc_range (lo := 1) (n := n) (fun i H1 => H1 = upd H D (.lst (nl ((List.range' 1 i).filter fun d => n % d == 0)))) rfl (fun i H1 hi e => ?_) (fun H1 e => ?_)
    · subst e
      refine ⟨rfl, ?_⟩
      refine ⟨.int n, rfl, .inl ⟨n, rfl, .int (1 + i), rfl, n, 1 + i, rfl, rfl, (by show (0 : Int) < 1 + i; omega), rfl, _, rfl, iteV (fun e => ?_) (fun e => ?_)⟩⟩
      · have e' : n % (1 + i) = 0 := by
          have e1 : ((n % (1 + i) : Nat) : Int) = 0 := e
          omega
        refine ⟨.int (1 + i), rfl, _, upd_same, szl (by rw [nl_len]; have := fltLen (fun d => n % d == 0) 1 i; omega), ?_⟩
        rw [upd2, fltYes (show (n % (1 + i) == 0) = true from beq_iff_eq.mpr e'), nl_app]
        rfl
      · have e' : ¬ n % (1 + i) = 0 := fun z => e (by
          show ((n % (1 + i) : Nat) : Int) = 0
          omega)
        show _ = _
        rw [fltNo (show (n % (1 + i) == 0) = false from beq_false_of_ne e')]
    · subst e
      exact q D nD
end
end K26
namespace K26
open PySem PySem.Spec PyProof.Rows L2
theorem leLoop_cons (n c : Nat) (cs : List Nat) (acc : List Tri) : leLoop n (c :: cs) acc =
    if 1 ≤ c ∧ c ≤ 1000 ∧ Nat.gcd c (n / c) ≤ 1000 ∧ 1 ≤ Nat.gcd (c * c) n ∧ Nat.gcd (c * c) n ≤ 1000 ∧ acc.length ≤ 1000 then
      leLoop n cs (acc ++ [(c, lmany (Nat.gcd c (n / c)), n / Nat.gcd (c * c) n)])
    else none := rfl
def ones (k : Nat) : List V := List.replicate k (.int 1)
theorem ones_len (k : Nat) : (ones k).length = k := List.length_replicate
theorem ones_app (k : Nat) : ones k ++ [.int 1] = ones (k + 1) := (List.replicate_succ' (n := k) (a := V.int 1)).symm
section
variable {P : Program} {w : World} {K : PySem.W.Frag} {mg : Str → Option Value} {base : Heap}
def spLedges : Sp := fun vs H Q _ => ∃ (n : Nat) (e : List Tri), vs = [.int n] ∧ n ≤ 1000 ∧ ledg n = some e ∧
  ∀ H' p as, Same H H' → H p = none → H' p = some (.lst (rl as)) → Tups H' as e → Q (.ref p) H'
theorem c_ledges (T : Txt K mg) : C8.Cal P w K mg base 2 "_law_edges" spLedges [] := T.ledges.cal fun f fd F => by
  have sc : FnScope ["_law_level", "_law_found", "_law_c", "_law_g", "_law_many", "_law_x"] ["_law_level"] (defScope (topS 26)) :=
    ⟨rfl, rfl, rfl, by decide +kernel, rfl, by decide +kernel, by decide +kernel⟩
  refine F.ok sc (fun vs H Q E h => ?_) (fun cdv A outer s H vs Q E hr h => ?_)
  · obtain ⟨n, i, rfl, _⟩ := h
    rfl
  · obtain ⟨n, e, rfl, hn, hi, q⟩ := h
    refine ⟨_, pss_cons (ps_set (i := 1) sc.nd rfl (.inl rfl) (pe_lst pa_nil))
      (pss_cons (ps_for PassesOwn.never rfl (pi_list (C8.pe_c (c_ldivs T) hr (by decide) (by rfl) (pa_cons (pv 0) pa_nil))) (pg_name (i := 2) sc.nd rfl (.inl rfl))
        (pss_cons (ps_set (i := 3) sc.nd rfl (.inr rfl) (C8.pe_c (c_divr T) hr (by decide) (by rfl) (pa_cons (pv 2) (pa_cons (pe_op op_fdiv (pv 0) (pv 2)) pa_nil))))
        (pss_cons (ps_set (i := 4) sc.nd rfl (.inl rfl) (pe_callB call_len_seq (by rfl) T.blen (by decide +kernel) (pa_cons
          (pe_lc (own := [("_law_x", 5)]) (g := gName 5) rfl sc.nd
            (pi_range2 (by rfl) T.brange (pa_cons pe_int (pa_cons (pe_op op_add (pv 3) pe_int) pa_nil)))
            (blkOk_by (own := [("_law_x", 5)]) (N := ["_law_level", "_law_found", "_law_c", "_law_g", "_law_many", "_law_x"]) (sc := defScope (topS 26)) (by decide +kernel))
            (fun _ _ _ _ _ => pg_name (i := 5) sc.nd rfl (Or.inl rfl))
            (fun _ _ _ _ _ => pts_one (pt_cmpR op_eq (C8.pe_c (c_divr T) hr (by decide) (by rfl) (pa_cons (pv 5) (pa_cons (pv 3) pa_nil))) pe_int (nomark _)))
            (fun _ _ _ _ _ => pe_int)) pa_nil)))
        (pss_one (ps_expr (pe_bm PySem.F.plainAttrs_list PySem.F.slot_list_append PySem.F.type_list_append mt_append (pv 1)
          (pa_cons (pe_tup (pa_cons (pv 2) (pa_cons (pv 4)
            (pa_cons (pe_op op_fdiv (pv 0) (C8.pe_c (c_divr T) hr (by decide) (by rfl) (pa_cons (pe_op op_mul (pv 2) (pv 2)) (pa_cons (pv 0) pa_nil)))) pa_nil)))) pa_nil)))))))
      (pss_one (ps_ret (pv 1)))), ?_⟩
    refine ⟨Nat.zero_le _, fun a na => ?_⟩
    refine ⟨.int n, rfl, n, rfl, hn, fun l nl0 => ?_⟩
    have nal : a ≠ l := fun z => by
      rw [← z, upd_same] at nl0
      exact nomatch nl0
    have lH : H l = none := (same_new na).free nl0
    refine ⟨l, rfl, ⟨_, SqL.of upd_same⟩, ?_⟩
    refine forRest (f := fun n : Nat => V.int (n : Int)) (xs := ldivs n) (fun r σ H2 => ∃ (as : List Addr) (acc : List Tri) (y z u : Option V), σ = [some (.int n), some (.ref a), y, z, u, none] ∧
        leLoop n r acc = some e ∧ Same H H2 ∧ H2 l = some (.lst (nl (ldivs n))) ∧ H2 a = some (.lst (rl as)) ∧ Tups H2 as acc)
      ⟨[], [], none, none, none, rfl, hi, same_upd (same_new na) lH, upd_same, ?_, .nil⟩ (fun r σ H2 h => ?_) (fun c r σ H2 h => ?_) (fun σ H2 h => ?_)
    · rw [upd_ne nal]
      exact upd_same
    · obtain ⟨_, _, _, _, _, _, _, _, z, _⟩ := h
      exact SqL.of z
    · obtain ⟨as, acc, y, z, u, rfl, hx, s2, hl2, ha2, tu⟩ := h
      rw [leLoop_cons] at hx
      split at hx
      · rename_i hc
        obtain ⟨c1, c2, c3, c5, c6, c7⟩ := hc
        refine ⟨.int c, rfl, .int n, rfl, .int c, rfl, n, c, rfl, rfl, cdiv (by omega) (by omega), c, n / c, rfl, ?_⟩
        generalize hgg : Nat.gcd c (n / c) = g at hx c3
        refine ⟨.int g, rfl, g, 1, rfl, rfl, 1, (g : Int) + 1, rfl, ⟨by omega, by omega, by omega, by omega⟩, fun D nD => ?_⟩
        have en : ((g : Int) + 1 - 1).toNat = g := by omega
        rw [en]
        refine lc_range (lo := 1) (n := g) (fun i H3 => H3 = upd H2 D (.lst (ones ((List.range' 1 i).filter fun x => Nat.gcd x g == 1).length))) rfl (fun i H3 hi e3 => ?_) (fun H3 e3 => ?_)
        · subst e3
          refine ⟨rfl, ?_⟩
          refine ⟨.int (1 + i), rfl, .int g, rfl, 1 + i, g, ?_, rfl, _, rfl, iteV (fun e4 => ?_) (fun e4 => ?_)⟩
          · show [V.int (1 + (i : Int)), V.int (g : Int)] = [V.int ((1 + i : Nat) : Int), V.int (g : Int)]
            rw [Int.natCast_add]
            rfl
          · have e' : Nat.gcd (1 + i) g = 1 := by omega
            refine ⟨_, upd_same, szl (by rw [ones_len]; have := fltLen (fun x => Nat.gcd x g == 1) 1 i; omega), ?_⟩
            rw [upd2, fltYes (show (Nat.gcd (1 + i) g == 1) = true from beq_iff_eq.mpr e'), List.length_append]
            exact congrArg (fun k => upd H2 D (.lst k)) (ones_app _)
          · have e' : ¬ Nat.gcd (1 + i) g = 1 := fun z => e4 (by rw [z]; rfl)
            show _ = _
            rw [fltNo (show (Nat.gcd (1 + i) g == 1) = false from beq_false_of_ne e')]
        · subst e3
          have lc : (ones ((List.range' 1 g).filter fun x => Nat.gcd x g == 1).length).length = lmany g := ones_len _
          refine ⟨D, _, rfl, .inl (SqL.of upd_same), ?_⟩
          rw [lc]
          have s3 : Same H2 (upd H2 D (.lst (ones ((List.range' 1 g).filter fun x => Nat.gcd x g == 1).length))) := same_new nD
          have g2 : Nat.gcd (c * c) n = Nat.gcd (c * c) n := rfl
          refine ⟨.ref a, rfl, .inl ⟨rfl, _, SqL.of (s3 _ _ ha2)⟩, .int c, rfl, .int (lmany g : Nat), rfl, .int n, rfl, .int c, rfl, .int c, rfl, c, c, rfl, rfl, cmulN (by omega), .int n, rfl, ?_⟩
          refine ⟨c * c, n, ?_, n, ((Nat.gcd (c * c) n : Nat) : Int), rfl, rfl, cdiv (by omega) (by omega), ?_⟩
          · show [V.int ((c : Int) * (c : Int)), V.int (n : Int)] = [V.int ((c * c : Nat) : Int), V.int (n : Int)]
            rw [Int.natCast_mul]
          refine ⟨(by show 3 ≤ sizeLine; decide), fun t nt => ?_⟩
          have s4 := same_upd (o := .tup (tv (c, lmany g, n / Nat.gcd (c * c) n))) s3 (s3.free nt)
          have ha3 := s4 _ _ ha2
          refine ⟨a, _, _, rfl, rfl, ha3, szl (by unfold rl; rw [List.length_map, tu.len]; omega), ?_⟩
          refine ⟨as ++ [t], _, _, _, _, rfl, hx, same_upd (s2.trans s4) na, ?_, ?_, ?_⟩
          · rw [upd_ne nal.symm]
            exact s4 _ _ hl2
          · rw [upd_same]
            unfold rl
            rw [List.map_append]
            rfl
          · refine ((tu.same fun b xs z => s4 _ _ z).app (.cons upd_same .nil)).same fun b xs z => ?_
            rw [upd_ne (ne_of z ha3 (fun k => nomatch k))]
            exact z
      · exact nomatch hx
    · obtain ⟨as, acc, y, z, u, rfl, hx, s2, hl2, ha2, tu⟩ := h
      have ee : acc = e := Option.some.inj hx
      rw [ee] at tu
      exact ⟨.ref a, rfl, q H2 a as s2 na ha2 tu⟩
end
end K26
namespace K26
open PySem PySem.Spec PyProof.Rows L2
/-! ## defs of the text under no guards, called by name -/
structure CalG (P : Program) (w : World) (K : PySem.W.Frag) (mg : Str → Option Value) (base : Heap) (k : Nat) (x : Str) (sp : Sp) : Prop where
  ex : ∃ (f : Addr) (fd : FuncData) (ps : List Str), FnG P w K mg base k f fd ps sp ∧ mg x = some (.ref f) ∧ PySem.W.keepIn K (.ref f) = true ∧ Binds K fd ps []
theorem At.calG {P : Program} {w : World} {K : PySem.W.Frag} {mg : Str → Option Value} {base : Heap} {x : Str} {st : Stmt} {ps : List Str} {k : Nat} {sp : Sp} (D : At K mg x st ps)
    (h : ∀ (f : Addr) (fd : FuncData), Fun K x x st f fd → FnG P w K mg base k f fd ps sp) : CalG P w K mg base k x sp := by
  obtain ⟨f, fd, F, b, g⟩ := D
  exact ⟨f, fd, ps, h f fd F, g, F.kp, b⟩
theorem FnG.mono {P : Program} {w : World} {K : PySem.W.Frag} {mg : Str → Option Value} {base : Heap} {j k : Nat} {f : Addr} {fd : FuncData} {ps : List Str} {sp : Sp} (F : FnG P w K mg base j f fd ps sp) (h : j ≤ k) :
    FnG P w K mg base k f fd ps sp := ⟨F.ln, fun A outer s H args us vs Q E hg hr => F.go A outer s H args us vs Q E hg (hr.mono h)⟩
theorem peG {X : Cx} {j k : Nat} {x : Str} {sp : Sp} {p pos : Pos} {e : Expr} {es : List Expr} {t : TA} (c : CalG X.prog X.w X.K X.mg X.base k x sp) (hgd : X.A.guards = some []) (hr : Room j X.A) (hk : k ≤ j) (hg : Gl X x)
    (ha : PA X (e :: es) t) (hdb : (x == ("__debug__" : Str)) = false := by decide)
    (he : starEach (e :: es) X.env = (false, eval e X.env) :: starEach es X.env := by rfl)
    (hpl : (backTo pos (starEach es X.env)).any (·.1) = false := by rfl) :
    PE X (.Call (.Name x p) (e :: es) [] pos) (tCall sp [] E0 t) := by
  obtain ⟨f, fd, ps, F, hm, kp, b⟩ := c.ex
  exact callG (F.mono hk) hgd hr hg hm kp b ha hdb he hpl
section
variable {P : Program} {w : World} {K : PySem.W.Frag} {mg : Str → Option Value} {base : Heap}
/-! ## the same text -/
def spSame (K : PySem.W.Frag) : Sp := fun vs H Q _ => ∃ (a b : Addr) (d : PyData), vs = [.ref a, .ref b] ∧ Dp K H (.ref a) d ∧ Dp K H (.ref b) d ∧ d.showable = true ∧ d.hasDict = false ∧
  d.depth ≤ 40 ∧ d.shown.length ≤ sizeLine ∧ Q (.bl true) H
theorem c_same (T : Txt K mg) : CalG P w K mg base 1 "_law_same" (spSame K) := T.lsame.calG fun f fd F => by
  have sc : FnScope ["_law_told", "_law_due"] ["_law_told", "_law_due"] (defScope (topS 23)) := ⟨rfl, rfl, rfl, by decide +kernel, rfl, by decide +kernel, by decide +kernel⟩
  refine okG F sc (fun vs H Q E h => ?_) (fun cdv A outer s H vs Q E hg hr h => ?_)
  · obtain ⟨a, b, d, rfl, _⟩ := h
    rfl
  · obtain ⟨a, b, d, rfl, h1, h2, h3, h4, h5, h6, q⟩ := h
    have hu := hr.units
    refine ⟨_, pss_one (ps_ret (pe_cmpR op_eq (pe_callB (reprRule (by exact hg) (by exact hu)) (by rfl) T.brepr (by decide +kernel) (pa_cons (pv 0) pa_nil))
      (pe_callB (reprRule (by exact hg) (by exact hu)) (by rfl) T.brepr (by decide +kernel) (pa_cons (pv 1) pa_nil)) (nomark _))), ?_⟩
    refine ⟨.ref a, rfl, a, d, rfl, h1, h3, h4, h5, h6, ?_⟩
    refine ⟨.ref b, rfl, b, d, rfl, h2, h3, h4, h5, h6, rfl, ?_⟩
    show Q (.bl (decide (V.str d.shown = V.str d.shown))) H
    rw [decide_eq_true rfl]
    exact q
/-! ## the deck -/
abbrev kLeft : Key := .inr "left"
abbrev kMixed : Key := .inr "mixed"
abbrev kDraws : Key := .inr "draws"
theorem kLM : ¬ kLeft = kMixed := by decide +kernel
theorem kLD : ¬ kLeft = kDraws := by decide +kernel
theorem kMD : ¬ kMixed = kDraws := by decide +kernel
theorem kML : ¬ kMixed = kLeft := by decide +kernel
theorem kDL : ¬ kDraws = kLeft := by decide +kernel
theorem kDM : ¬ kDraws = kMixed := by decide +kernel
/-- a deck at d, its cells at l, c draws done -/
def Deck (H : Hp) (d l : Addr) (c : Nat) : Prop := ∃ (kvs : List (Key × V)) (m : Int) (ls : List Int), H d = some (.dK kvs) ∧ valV kvs kLeft = some (.ref l) ∧ valV kvs kMixed = some (.int m) ∧
  valV kvs kDraws = some (.int (c : Int)) ∧ kvs.length ≤ 3 + c ∧ H l = some (.lst (ls.map V.int)) ∧ ls.length ≤ 63
/-- all stands but the deck -/
def Kept (H H' : Hp) (d l : Addr) : Prop := ∀ b o, H b = some o → b ≠ d → b ≠ l → H' b = some o
theorem cut63 (ns : List Int) (h : ns.length ≤ 63) : cutV (ns.map V.int) none (some 63) = ns.map V.int := by
  unfold cutV
  rw [HT.sIx_none, show HT.sIx (ns.map V.int).length (ns.map V.int).length (some 63) = min 63 (ns.map V.int).length from HT.sIx_nat _ _ 63, List.length_map]
  rw [show min 63 ns.length = ns.length by omega, Nat.sub_zero, List.drop_zero]
  exact List.take_of_length_le (by rw [List.length_map]; exact Nat.le_refl _)
def spDeck (K : PySem.W.Frag) : Sp := fun vs H Q _ => ∃ (a : Addr) (ns : List Int), vs = [.ref a] ∧ SqL K H a (ns.map V.int) ∧ ns.length ≤ 63 ∧
  ∀ H' d l, Same H H' → Deck H' d l 0 → Q (.ref d) H'
theorem c_deck (T : Txt K mg) : C8.Cal P w K mg base 1 "_law_deck" (spDeck K) [] := T.ldeck.cal fun f fd F => by
  have sc : FnScope ["_law_script", "_law_mixed", "_law_cell"] ["_law_script"] (defScope (topS 20)) := ⟨rfl, rfl, rfl, by decide +kernel, rfl, by decide +kernel, by decide +kernel⟩
  refine F.ok sc (fun vs H Q E h => ?_) (fun cdv A outer s H vs Q E hr h => ?_)
  · obtain ⟨a, ns, rfl, _⟩ := h
    rfl
  · obtain ⟨a, ns, rfl, hS, hl, q⟩ := h
    refine ⟨_, pss_cons (ps_set (i := 1) sc.nd rfl (.inl rfl) pe_int)
      (pss_cons (ps_for PassesOwn.never rfl (pi_list (pe_slice sl_list (pv 0) po_none (po_some pe_int))) (pg_name (i := 2) sc.nd rfl (.inl rfl))
        (pss_one (ps_set (i := 1) sc.nd rfl (.inl rfl) (pe_op op_mod (pe_callTy call_int1 (by rfl) T.bint (by decide +kernel)
          (pa_cons (pe_op op_add (pe_op op_add (pe_op op_mul (pv 1) pe_int) (pe_op op_mod (pe_callTy call_int1 (by rfl) T.bint (by decide +kernel) (pa_cons (pv 2) pa_nil)) pe_int)) pe_int) pa_nil)) pe_int))))
      (pss_one (ps_ret (pe_disp (pps_cons pe_str (pe_revL (pe_callTy call_list_of (by rfl) T.blist (by decide +kernel) (pa_cons (pe_slice sl_list (pv 0) po_none (po_some pe_int)) pa_nil)))
        (pps_cons pe_str (pv 1) (pps_cons pe_str pe_int pps_nil))) (by rfl) (by rfl) (fun z => by cases z) (by decide))))), ?_⟩
    refine ⟨.ref a, rfl, 63, rfl, a, ns.map V.int, rfl, hS, fun p np => ?_⟩
    rw [cut63 ns hl]
    have s1 : Same H (upd H p (.lst (ns.map V.int))) := same_new np
    refine ⟨p, rfl, ⟨_, SqL.of upd_same⟩, ?_⟩
    refine forRest (f := V.int) (xs := ns) (fun r σ H2 => H2 = upd H p (.lst (ns.map V.int)) ∧ ∃ (m : Int) (y : Option V), σ = [some (.ref a), some (.int m), y])
      ⟨rfl, _, none, rfl⟩ (fun r σ H2 h => by rw [h.1]; exact SqL.of upd_same) (fun x r σ H2 h => ?_) (fun σ H2 h => ?_)
    · obtain ⟨rfl, m, y, rfl⟩ := h
      refine ⟨.int m, rfl, m, 40692, rfl, rfl, .inr ⟨by decide, by decide⟩, .int x, rfl, .inl ⟨x, rfl, x, 2147483629, rfl, rfl, (by show (0 : Int) < 2147483629; decide), _, _, rfl, rfl, _, 73, rfl, rfl, ?_⟩⟩
      exact .inl ⟨_, rfl, _, 2147483587, rfl, rfl, (by show (0 : Int) < 2147483587; decide), rfl, _, _, rfl⟩
    · obtain ⟨rfl, m, y, rfl⟩ := h
      refine fun d nd => ?_
      refine ⟨.ref a, rfl, 63, rfl, a, ns.map V.int, rfl, same_upd (o := .dK []) s1 (s1.free nd) |>.seq hS, fun p2 np2 => ?_⟩
      rw [cut63 ns hl]
      refine ⟨p2, _, rfl, .inl (SqL.of upd_same), fun p3 np3 => ?_⟩
      refine ⟨p3, _, rfl, SqL.of upd_same, fun l nl0 => ?_⟩
      have nd2 : d ≠ p2 := fun z => by
        rw [← z, upd_same] at np2
        exact nomatch np2
      have nd3 : d ≠ p3 := fun z => by
        rw [← z, upd_ne nd2, upd_same] at np3
        exact nomatch np3
      have ndl : d ≠ l := fun z => by
        rw [← z, upd_ne nd3, upd_ne nd2, upd_same] at nl0
        exact nomatch nl0
      refine ⟨.int m, rfl, ?_⟩
      refine ⟨?_, [(kLeft, .ref l), (kMixed, .int m), (kDraws, .int 0)], rfl, (by show 3 ≤ 15; decide), ?_⟩
      · rw [upd_ne ndl, upd_ne nd3, upd_ne nd2]
        exact upd_same
      · have s2 := same_upd (o := .dK []) s1 (s1.free nd)
        have s3 := same_upd (o := .lst (ns.map V.int)) s2 (s2.free np2)
        have s4 := same_upd (o := .lst (ns.map V.int)) s3 (s3.free np3)
        have s5 := same_upd (o := .lst (ns.map V.int).reverse) s4 (s4.free nl0)
        refine q _ d l (same_upd s5 (s1.free nd)) ⟨_, m, ns.reverse, upd_same, ?_, ?_, ?_, ?_, ?_, ?_⟩
        · show valV (putK (putK (putK [] kLeft (.ref l)) kMixed (.int m)) kDraws (.int 0)) kLeft = _
          rw [valV_put, if_neg kLD, valV_put, if_neg kLM, valV_put, if_pos rfl]
        · show valV (putK (putK (putK [] kLeft (.ref l)) kMixed (.int m)) kDraws (.int 0)) kMixed = _
          rw [valV_put, if_neg kMD, valV_put, if_pos rfl]
        · show valV (putK (putK (putK [] kLeft (.ref l)) kMixed (.int m)) kDraws (.int 0)) kDraws = _
          rw [valV_put, if_pos rfl]
          rfl
        · exact length_mergeK _ []
        · rw [upd_ne ndl.symm, upd_same, List.map_reverse]
        · rw [List.length_reverse]
          exact hl
end
end K26
namespace K26
open PySem PySem.Spec PyProof.Rows L2
theorem dget {H : Hp} {a : Addr} {kvs : List (Key × V)} {k : Key} {v : V} (h : H a = some (.dK kvs)) (e : valV kvs k = some v) : DGet H a (kV k) (some v) := by
  rw [← e]
  exact DGet.k h
theorem dp_ints {K : PySem.W.Frag} {H : Hp} : ∀ ls : List Int, DpAll K H (ls.map V.int) (ls.map PyData.int)
  | [] => .nil
  | x :: r => .cons (.int x) (dp_ints r)
theorem shaped_ints (ls : List Int) : SeqAt.shaped (.list (ls.map PyData.int)) = true := by
  unfold SeqAt.shaped
  rw [Bool.and_eq_true]
  refine ⟨canLayAll_ints ls, decide_eq_true ?_⟩
  show PyData.depthAll (ls.map PyData.int) + 1 ≤ 64
  rw [depthAll_ints]
  decide
theorem eqv_nil (ls : List Int) : PyData.eqv (.list (ls.map PyData.int)) (.list []) = decide (ls = []) := by
  cases ls with
  | nil => rfl
  | cons x r => rfl
section
variable {P : Program} {w : World} {K : PySem.W.Frag} {mg : Str → Option Value} {base : Heap}
def spDraw : Sp := fun vs H Q _ => ∃ (d l : Addr) (c n : Nat), vs = [.ref d, .int n] ∧ Deck H d l c ∧ c ≤ 1000 ∧ 1 ≤ n ∧ n ≤ 1000 ∧
  ∀ H' (r : Nat), r < n → Deck H' d l (c + 1) → Kept H H' d l → Q (.int r) H'
theorem c_draw (T : Txt K mg) : C8.Cal P w K mg base 1 "_law_draw" spDraw [] := T.ldraw.cal fun f fd F => by
  have sc : FnScope ["_law_deck_here", "_law_many", "_law_figure", "_law_cell"] ["_law_deck_here", "_law_many"] (defScope (topS 21)) :=
    ⟨rfl, rfl, rfl, by decide +kernel, rfl, by decide +kernel, by decide +kernel⟩
  refine F.ok sc (fun vs H Q E h => ?_) (fun cdv A outer s H vs Q E hr h => ?_)
  · obtain ⟨d, l, c, n, rfl, _⟩ := h
    rfl
  · obtain ⟨d, l, c, n, rfl, D0, hc, h1, hn, q⟩ := h
    have hu := hu_of hr
    have hu64 := hr.units
    refine ⟨_, pss_cons (ps_dput hu (pv 0) pe_str (pe_op op_add (pe_dget hu (pv 0) pe_str (fun _ _ => rfl)) pe_int) rfl)
      (pss_cons (ps_set (i := 2) sc.nd rfl (.inl rfl) (pe_op op_add (pe_dget hu (pv 0) pe_str (fun _ _ => rfl)) (pe_op op_mul pe_int (pe_dget hu (pv 0) pe_str (fun _ _ => rfl)))))
      (C8.pss_cut (ps_if (pt_cmpR (op_neD (by exact hu64)) (pe_dget hu (pv 0) pe_str (fun _ _ => rfl)) (pe_lst pa_nil) (nomark _))
        (pss_cons (ps_set (i := 3) sc.nd rfl (.inl rfl) (pe_bm0 PySem.F.plainAttrs_list PySem.F.slot_list_pop PySem.F.type_list_pop mt_pop (pe_dget hu (pv 0) pe_str (fun _ _ => rfl))))
        (pss_cons (ps_if (pt_cmpR op_ge (pv 3) (pe_op op_pow pe_int pe_int) (nomark _))
          (pss_cons (ps_expr (pe_bm PySem.F.plainAttrs_list PySem.F.slot_list_append PySem.F.type_list_append mt_append (pe_dget hu (pv 0) pe_str (fun _ _ => rfl))
              (pa_cons (pe_op op_fdivW (pv 3) (pe_callB (call_max2 rfl) (by rfl) T.bmax (by decide +kernel) (pa_cons pe_int (pa_cons (pv 1) pa_nil)))) pa_nil)))
          (pss_one (ps_ret (pe_op op_mod (pe_callTy call_int1 (by rfl) T.bint (by decide +kernel) (pa_cons (pv 3) pa_nil)) (pv 1))))) pss_nil)
        (pss_one (ps_set (i := 2) sc.nd rfl (.inl rfl) (pe_op op_add (pv 2) (pe_op op_mod (pe_callTy call_int1 (by rfl) T.bint (by decide +kernel) (pa_cons (pv 3) pa_nil)) pe_int)))))) pss_nil)
      (pss_cons (ps_set (i := 2) sc.nd rfl (.inl rfl) (pe_op op_mod (pe_callTy call_int1 (by rfl) T.bint (by decide +kernel) (pa_cons (pe_op op_add (pe_op op_mul (pv 2) pe_int) pe_int) pa_nil)) pe_int))
      (pss_cons (ps_set (i := 2) sc.nd rfl (.inl rfl) (pe_op op_mod (pe_callTy call_int1 (by rfl) T.bint (by decide +kernel)
          (pa_cons (pe_op op_add (pe_op op_add (pe_op op_mul (pv 2) (pv 2)) (pe_op op_mul pe_int (pe_dget hu (pv 0) pe_str (fun _ _ => rfl)))) pe_int) pa_nil)) pe_int))
      (pss_cons (ps_set (i := 2) sc.nd rfl (.inl rfl) (pe_op op_mod (pe_callTy call_int1 (by rfl) T.bint (by decide +kernel) (pa_cons (pe_op op_mul (pv 2) pe_int) pa_nil)) pe_int))
      (pss_one (ps_ret (pe_op op_mod (pe_callTy call_int1 (by rfl) T.bint (by decide +kernel) (pa_cons (pe_op op_fdiv (pv 2) pe_int) pa_nil)) (pv 1))))))))), ?_⟩
    obtain ⟨kvs, m, ls, hd, g1, g2, g3, g4, hl, g5⟩ := D0
    have ndl : d ≠ l := ne_of hd hl (fun z => nomatch z)
    have npos : (0 : Int) < (n : Int) := by omega
    -- draws
    refine ⟨.ref d, rfl, d, .int c, rfl, dget (k := kDraws) hd g3, c, 1, rfl, rfl, .ref d, rfl, d, _, rfl, DPut.k (k := kDraws) hd (szl (by omega)), ?_⟩
    have hd1 : (upd H d (.dK (putK kvs kDraws (.int ((c : Int) + 1))))) d = some (.dK (putK kvs kDraws (.int ((c : Int) + 1)))) := upd_same
    have e1 : valV (putK kvs kDraws (.int ((c : Int) + 1))) kLeft = some (.ref l) := by rw [valV_put, if_neg kLD]; exact g1
    have e2 : valV (putK kvs kDraws (.int ((c : Int) + 1))) kMixed = some (.int m) := by rw [valV_put, if_neg kMD]; exact g2
    have e3 : valV (putK kvs kDraws (.int ((c : Int) + 1))) kDraws = some (.int ((c + 1 : Nat) : Int)) := by rw [valV_put, if_pos rfl]; rfl
    have e4 : (putK kvs kDraws (.int ((c : Int) + 1))).length ≤ 3 + (c + 1) := by have := length_putK kvs kDraws (.int ((c : Int) + 1)); omega
    have hl1 : (upd H d (.dK (putK kvs kDraws (.int ((c : Int) + 1))))) l = some (.lst (ls.map V.int)) := by rw [upd_ne ndl.symm]; exact hl
    have k1 : Kept H (upd H d (.dK (putK kvs kDraws (.int ((c : Int) + 1))))) d l := fun b o z h2 _ => by rw [upd_ne h2]; exact z
    generalize upd H d (.dK (putK kvs kDraws (.int ((c : Int) + 1)))) = H1 at hd1 hl1 k1
    generalize putK kvs kDraws (.int ((c : Int) + 1)) = kv1 at hd1 e1 e2 e3 e4
    -- figure
    refine ⟨.ref d, rfl, d, _, rfl, dget (k := kMixed) hd1 e2, .ref d, rfl, d, _, rfl, dget (k := kDraws) hd1 e3, 60013, _, rfl, rfl, .inl ⟨by decide, by decide⟩, m, _, rfl, rfl, ?_⟩
    have DeckOf : ∀ (H' : Hp) (zs : List Int), H' d = some (.dK kv1) → H' l = some (.lst (zs.map V.int)) → zs.length ≤ 63 → Deck H' d l (c + 1) :=
      fun H' zs z1 z2 z3 => ⟨kv1, m, zs, z1, e1, e2, e3, e4, z2, z3⟩
    refine ⟨fun σ' H' => ∃ (fig : Int) (y : Option V), σ' = [some (.ref d), some (.int n), some (.int fig), y] ∧ Deck H' d l (c + 1) ∧ Kept H H' d l, ?_, ?_⟩
    · refine ⟨.ref d, rfl, d, _, rfl, dget (k := kLeft) hd1 e1, Nat.zero_le _, fun p np => ?_⟩
      have npd : d ≠ p := ne_of_none hd1 np
      have npl : l ≠ p := ne_of_none hl1 np
      have hd2 : (upd H1 p (.lst [])) d = some (.dK kv1) := by rw [upd_ne npd]; exact hd1
      have hl2 : (upd H1 p (.lst [])) l = some (.lst (ls.map V.int)) := by rw [upd_ne npl]; exact hl1
      have k2 : Kept H (upd H1 p (.lst [])) d l := fun b o z h2 h3 => by
        have z1 := k1 b o z h2 h3
        rw [upd_ne (ne_of_none z1 np)]
        exact z1
      have hp2 : (upd H1 p (.lst [])) p = some (.lst []) := upd_same
      generalize upd H1 p (.lst []) = H2 at hd2 hl2 k2 hp2
      refine ⟨.list (ls.map PyData.int), .list [], .lst (SqL.of hl2) (dp_ints ls), .lst (SqL.of hp2) .nil, shaped_ints ls, rfl, _, rfl, ?_⟩
      rw [eqv_nil]
      refine iteN (fun hne => ?_) (fun he => ?_)
      · obtain ⟨x, hx⟩ : ∃ x, ls[ls.length - 1]? = some x := by
          cases ls with
          | nil => exact absurd rfl hne
          | cons z r => exact ⟨_, List.getElem?_eq_getElem (by show (z :: r).length - 1 < (z :: r).length; rw [List.length_cons]; omega)⟩
        have hx2 : (ls.map V.int)[(ls.map V.int).length - 1]? = some (.int x) := by
          rw [List.length_map, List.getElem?_map, hx]
          rfl
        refine ⟨.ref d, rfl, d, _, rfl, dget (k := kLeft) hd2 e1, .inl ⟨rfl, _, SqL.of hl2⟩, l, _, _, rfl, rfl, hl2, hx2, ?_⟩
        have dl : (ls.map V.int).dropLast = ls.dropLast.map V.int := by rw [List.map_dropLast]
        rw [dl]
        have hd3 : (upd H2 l (.lst (ls.dropLast.map V.int))) d = some (.dK kv1) := by rw [upd_ne ndl]; exact hd2
        have hl3 : (upd H2 l (.lst (ls.dropLast.map V.int))) l = some (.lst (ls.dropLast.map V.int)) := upd_same
        have k3 : Kept H (upd H2 l (.lst (ls.dropLast.map V.int))) d l := fun b o z h2 h3 => by rw [upd_ne h3]; exact k2 b o z h2 h3
        have ll : ls.dropLast.length ≤ 62 := by rw [List.length_dropLast]; omega
        generalize upd H2 l (.lst (ls.dropLast.map V.int)) = H3 at hd3 hl3 k3
        refine ⟨.int x, rfl, 10, 18, rfl, rfl, ⟨by decide, by decide, by decide⟩, x, _, rfl, rfl, _, rfl, iteD (fun hge => ?_) (fun hge => ?_)⟩
        · refine ⟨.ref d, rfl, d, _, rfl, dget (k := kLeft) hd3 e1, .inl ⟨rfl, _, SqL.of hl3⟩, .int x, rfl, .int n, rfl, 2, n, rfl, x, _, rfl, rfl, ?_, ?_⟩
          · refine wide_div (b := 64) ?_ ?_ (by decide) (by decide)
            · split <;> omega
            · split
              · omega
              · decide
          · refine ⟨l, _, _, rfl, rfl, hl3, szl (by rw [List.length_map]; omega), ?_⟩
            refine ⟨.int x, rfl, .inl ⟨x, rfl, .int n, rfl, x, n, rfl, rfl, npos, ?_⟩⟩
            have b1 := Int.emod_nonneg x (show (n : Int) ≠ 0 by omega)
            have b2 := Int.emod_lt_of_pos x npos
            have er : x % (n : Int) = (((x % (n : Int)).toNat : Nat) : Int) := by omega
            show Q (.int (x % (n : Int))) _
            rw [er]
            refine q _ _ (by omega) (DeckOf _ (ls.dropLast ++ [x / (if (n : Int) > 2 then (n : Int) else 2)]) ?_ ?_ ?_) ?_
            · rw [upd_ne ndl]
              exact hd3
            · rw [upd_same, List.map_append]
              rfl
            · rw [List.length_append]
              show ls.dropLast.length + 1 ≤ 63
              omega
            · exact fun b o z h2 h3 => by rw [upd_ne h3]; exact k3 b o z h2 h3
        · refine ⟨.int _, rfl, .int x, rfl, .inl ⟨x, rfl, x, 2147483629, rfl, rfl, (by show (0 : Int) < 2147483629; decide), _, _, rfl, rfl, ?_⟩⟩
          exact ⟨_, _, rfl, DeckOf _ _ hd3 hl3 (by omega), k3⟩
      · exact ⟨_, _, rfl, DeckOf _ _ hd2 hl2 g5, k2⟩
    · rintro σ' H' ⟨fig, y, rfl, D1, k4⟩
      obtain ⟨kv2, m2, zs, a1, a2, a3, a4, a5, a6, a7⟩ := id D1
      refine ⟨.int fig, rfl, fig, 40014, rfl, rfl, .inr ⟨by decide, by decide⟩, _, 91, rfl, rfl, .inl ⟨_, rfl, _, 2147483563, rfl, rfl, (by show (0 : Int) < 2147483563; decide), ?_⟩⟩
      have f0 := Int.emod_nonneg (fig * 40014 + 91) (show (2147483563 : Int) ≠ 0 by decide)
      have f1 := Int.emod_lt_of_pos (fig * 40014 + 91) (show (0 : Int) < 2147483563 by decide)
      have key : ∀ x : Int, Q (.int (x % (n : Int))) H' := fun x => by
        have b1 := Int.emod_nonneg x (show (n : Int) ≠ 0 by omega)
        have b2 := Int.emod_lt_of_pos x npos
        have er : x % (n : Int) = (((x % (n : Int)).toNat : Nat) : Int) := by omega
        rw [er]
        exact q _ _ (by omega) D1 k4
      refine ⟨.int _, rfl, .int _, rfl, (fig * 40014 + 91) % 2147483563, _, rfl, rfl, .inl ⟨by omega, by omega⟩, .ref d, rfl, d, _, rfl, dget (k := kDraws) a1 a4, 52774, _, rfl, rfl, .inl ⟨by decide, by decide⟩, _, _, rfl, rfl, _, 17, rfl, rfl, ?_⟩
      refine .inl ⟨_, rfl, _, 2147483399, rfl, rfl, (by show (0 : Int) < 2147483399; decide), ?_⟩
      refine ⟨.int _, rfl, _, 39373, rfl, rfl, .inr ⟨by decide, by decide⟩, .inl ⟨_, rfl, _, 2147483647, rfl, rfl, (by show (0 : Int) < 2147483647; decide), ?_⟩⟩
      refine ⟨.int _, rfl, _, 64, rfl, rfl, ⟨by decide, by decide⟩, .inl ⟨_, rfl, .int n, rfl, _, n, rfl, rfl, npos, ?_⟩⟩
      exact key _
end
end K26
namespace K26
open PySem PySem.Spec PyProof.Rows L2
/-! ## codes and keys -/
def ck (L c : Nat) : List Key := [.inl ((c / L : Nat) : Int), .inl ((c % L : Nat) : Int)]
def kvOf (L : Nat) (t : Tr) (l : List Nat) : List (List Key × V) := l.map fun c => (ck L c, V.int (((look 10 t c).getD 0 : Nat) : Int))
theorem ck_inj {L c e : Nat} (h : ck L c = ck L e) : c = e := by
  unfold ck at h
  injection h with h1 h2
  injection h2 with h2 _
  have e1 : ((c / L : Nat) : Int) = ((e / L : Nat) : Int) := Sum.inl.inj h1
  have e2 : ((c % L : Nat) : Int) = ((e % L : Nat) : Int) := Sum.inl.inj h2
  have d1 := Nat.div_add_mod c L
  have d2 := Nat.div_add_mod e L
  have e3 : c / L = e / L := by omega
  have e4 : c % L = e % L := by omega
  rw [← d1, ← d2, e3, e4]
theorem ck_ab {L a b : Nat} (hb : b < L) : ck L (a * L + b) = [.inl (a : Int), .inl (b : Int)] := by
  unfold ck
  have e1 : (a * L + b) / L = a := by
    rw [Nat.mul_comm, Nat.mul_add_div (by omega), Nat.div_eq_of_lt hb, Nat.add_zero]
  have e2 : (a * L + b) % L = b := by
    rw [Nat.mul_comm, Nat.mul_add_mod, Nat.mod_eq_of_lt hb]
  rw [e1, e2]
theorem val_kv (L : Nat) (g : Nat → V) (c : Nat) : ∀ l : List Nat, valV (l.map fun e => (ck L e, g e)) (ck L c) = if c ∈ l then some (g c) else none
  | [] => rfl
  | e :: r => by
    rw [List.map_cons]
    by_cases h : e = c
    · subst h
      rw [valV_pos rfl, if_pos List.mem_cons_self]
    · rw [valV_neg (fun z => h (ck_inj z)), val_kv L g c r]
      by_cases hm : c ∈ r
      · rw [if_pos hm, if_pos (List.mem_cons_of_mem _ hm)]
      · rw [if_neg hm, if_neg (fun z => (List.mem_cons.mp z).elim (fun q => h q.symm) hm)]
/-- the table and the list of codes go together -/
structure Good (L : Nat) (f : Pts) : Prop where
  mem : ∀ c, c < 1024 → ((look 10 f.t c).isSome = true ↔ c ∈ f.ks)
  lt : ∀ c ∈ f.ks, c < L * L
  len : f.ks.length = f.n
theorem Good.nil (L : Nat) : Good L ⟨.nil, [], 0⟩ where
  mem := fun c _ => by
    rw [look_nil]
    constructor
    · intro z
      exact nomatch z
    · intro z
      exact nomatch z
  lt := fun c z => (nomatch z)
  len := rfl
theorem Good.val {L : Nat} {f : Pts} (G : Good L f) {c : Nat} (hc : c < 1024) : valV (kvOf L f.t f.ks.reverse) (ck L c) = (look 10 f.t c).map fun i => V.int (i : Int) := by
  unfold kvOf
  rw [val_kv L (fun c => V.int (((look 10 f.t c).getD 0 : Nat) : Int))]
  cases e : look 10 f.t c with
  | none =>
    rw [if_neg]
    · rfl
    · intro z
      have := (G.mem c hc).mpr (List.mem_reverse.mp z)
      rw [e] at this
      exact nomatch this
  | some i =>
    rw [if_pos (List.mem_reverse.mpr ((G.mem c hc).mp (by rw [e]; rfl)))]
    rfl
theorem Good.put {L : Nat} {f : Pts} (G : Good L f) (hL : L * L < 1024) {c m : Nat} (hc : c < L * L) (hn : look 10 f.t c = none) :
    Good L ⟨place 10 f.t c m, c :: f.ks, f.n + 1⟩ ∧ putK (kvOf L f.t f.ks.reverse) (ck L c) (.int (m : Int)) = kvOf L (place 10 f.t c m) (c :: f.ks).reverse := by
  have hc10 : c < 2 ^ 10 := by omega
  have nm : c ∉ f.ks := fun z => by
    have := (G.mem c (by omega)).mpr z
    rw [hn] at this
    exact nomatch this
  refine ⟨⟨fun e he => ?_, fun e he => ?_, ?_⟩, ?_⟩
  · rw [look_place 10 f.t c e m hc10 (by omega)]
    by_cases h : e = c
    · rw [if_pos h, h]
      exact ⟨fun _ => List.mem_cons_self, fun _ => rfl⟩
    · rw [if_neg h]
      refine ⟨fun z => List.mem_cons_of_mem _ ((G.mem e he).mp z), fun z => (G.mem e he).mpr ?_⟩
      exact (List.mem_cons.mp z).elim (fun q => absurd q h) id
  · rcases List.mem_cons.mp he with z | z
    · rw [z]
      exact hc
    · exact G.lt e z
  · show f.ks.length + 1 = f.n + 1
    rw [G.len]
  · have hv : valV (kvOf L f.t f.ks.reverse) (ck L c) = none := by rw [G.val (by omega), hn]; rfl
    rw [putK_new _ hv]
    unfold kvOf
    rw [List.reverse_cons, List.map_append]
    have e1 : ∀ l : List Nat, (∀ e ∈ l, e < 1024 ∧ e ≠ c) → (l.map fun e => (ck L e, V.int (((look 10 f.t e).getD 0 : Nat) : Int))) = l.map fun e => (ck L e, V.int (((look 10 (place 10 f.t c m) e).getD 0 : Nat) : Int)) := by
      intro l hl
      refine List.map_congr_left fun e he => ?_
      rw [look_place 10 f.t c e m hc10 (by have := (hl e he).1; omega), if_neg (hl e he).2]
    rw [e1 f.ks.reverse fun e he => ⟨by have := G.lt e (List.mem_reverse.mp he); omega, fun z => nm (z ▸ List.mem_reverse.mp he)⟩]
    rw [List.map_cons, look_place 10 f.t c c m hc10 hc10, if_pos rfl]
    rfl
theorem kvOf_len (L : Nat) (t : Tr) (l : List Nat) : (kvOf L t l).length = l.length := List.length_map _
theorem code_lt {L a b : Nat} (ha : a < L) (hb : b < L) : a * L + b < L * L := by
  have : (a + 1) * L ≤ L * L := Nat.mul_le_mul_right L ha
  rw [Nat.add_mul, Nat.one_mul] at this
  omega
section
variable {P : Program} {w : World} {K : PySem.W.Frag} {mg : Str → Option Value} {base : Heap}
/-! ## one of several -/
def spPick : Sp := fun vs H Q _ => ∃ (d l t : Addr) (c : Nat) (zs : List Nat), vs = [.ref d, .ref t] ∧ H t = some (.tup (nl zs)) ∧ 1 ≤ zs.length ∧ zs.length ≤ 1000 ∧ Deck H d l c ∧ c ≤ 1000 ∧
  ∀ H' (z : Nat), z ∈ zs → Deck H' d l (c + 1) → Kept H H' d l → Q (.int z) H'
theorem c_pick (T : Txt K mg) : C8.Cal P w K mg base 2 "_law_pick" spPick [] := T.lpick.cal fun f fd F => by
  have sc : FnScope ["_law_deck_here", "_law_some"] ["_law_deck_here", "_law_some"] (defScope (topS 22)) := ⟨rfl, rfl, rfl, by decide +kernel, rfl, by decide +kernel, by decide +kernel⟩
  refine F.ok sc (fun vs H Q E h => ?_) (fun cdv A outer s H vs Q E hr h => ?_)
  · obtain ⟨d, l, t, c, zs, rfl, _⟩ := h
    rfl
  · obtain ⟨d, l, t, c, zs, rfl, ht, h1, h2, D0, hc, q⟩ := h
    refine ⟨_, pss_one (ps_ret (pe_ix ix_tup (pv 1) (C8.pe_c (c_draw T) hr (by decide) (by rfl) (pa_cons (pv 0) (pa_cons (pe_callB call_len_seq (by rfl) T.blen (by decide +kernel) (pa_cons (pv 1) pa_nil)) pa_nil))) (fun _ _ => rfl))), ?_⟩
    refine ⟨.ref t, rfl, .ref d, rfl, .ref t, rfl, t, _, rfl, .inr (SqT.of ht), ?_⟩
    rw [nl_len]
    refine ⟨d, l, c, zs.length, rfl, D0, hc, h1, h2, fun H' r hr2 D1 k => ?_⟩
    have ntd : t ≠ d := by
      obtain ⟨_, _, _, z, _⟩ := D0
      exact ne_of ht z (fun k => nomatch k)
    have ntl : t ≠ l := by
      obtain ⟨_, _, _, _, _, _, _, _, z, _⟩ := D0
      exact ne_of ht z (fun k => nomatch k)
    have ht' := k t _ ht ntd ntl
    have hz : (nl zs)[r]? = some (.int (zs[r] : Nat)) := by
      unfold nl
      rw [List.getElem?_map, List.getElem?_eq_getElem hr2]
      rfl
    exact ⟨t, _, r, _, rfl, rfl, SqT.of ht', atI_nat hz, q H' _ (List.getElem_mem hr2) D1 k⟩
end
end K26
namespace K26
open PySem PySem.Spec PyProof.Rows L2
theorem putAll_cons (L a b m u : Nat) (us : List Nat) (f : Pts) : putAll L a b m (u :: us) f =
    match look 10 f.t (u * a % L * L + u * b % L) with
    | some _ => none
    | none => match Nat.ble f.n 1000 with
      | true => putAll L a b m us ⟨place 10 f.t (u * a % L * L + u * b % L) m, (u * a % L * L + u * b % L) :: f.ks, f.n + 1⟩
      | false => none := rfl
theorem ptB_succ (L a : Nat) (us : List Nat) (r b : Nat) (f : Pts) (m : Nat) : ptB L a us (r + 1) b f m =
    match look 10 f.t (a * L + b) with
    | some _ => ptB L a us r (b + 1) f m
    | none =>
      match Nat.beq (Nat.gcd (Nat.gcd a b) L) 1 with
      | true => match putAll L a b m us f with
        | none => none
        | some f' => ptB L a us r (b + 1) f' (m + 1)
      | false => ptB L a us r (b + 1) f m := rfl
theorem ptA_succ (L : Nat) (us : List Nat) (r a : Nat) (f : Pts) (m : Nat) : ptA L us (r + 1) a f m =
    match ptB L a us L 0 f m with
    | none => none
    | some (f', m') => ptA L us r (a + 1) f' m' := rfl
theorem range_flt (L i : Nat) : ((List.range i).filter fun x => Nat.gcd x L == 1) = (List.range' 0 i).filter fun x => Nat.gcd x L == 1 := by
  rw [List.range_eq_range']
section
variable {P : Program} {w : World} {K : PySem.W.Frag} {mg : Str → Option Value} {base : Heap}
def spPoints : Sp := fun vs H Q _ => ∃ (L m : Nat) (f : Pts), vs = [.int L] ∧ 1 ≤ L ∧ L ≤ 31 ∧ points L = some (f, m) ∧
  ∀ H' p dd, Same H H' → H' p = some (.tup [.ref dd, .int m]) → H' dd = some (.dT (kvOf L f.t f.ks.reverse)) → H dd = none → Good L f → Q (.ref p) H'
theorem c_points (T : Txt K mg) : C8.Cal P w K mg base 2 "_law_points" spPoints [] := T.lpoints.cal fun f fd F => by
  have sc : FnScope ["_law_level", "_law_units", "_law_found", "_law_many", "_law_a", "_law_b", "_law_unit", "_law_x"] ["_law_level"] (defScope (topS 27)) :=
    ⟨rfl, rfl, rfl, by decide +kernel, rfl, by decide +kernel, by decide +kernel⟩
  refine F.ok sc (fun vs H Q E h => ?_) (fun cdv A outer s H vs Q E hr h => ?_)
  · obtain ⟨n, m, f, rfl, _⟩ := h
    rfl
  · obtain ⟨L, M, F1, rfl, h1, hL, hp, q⟩ := h
    have hu := hu_of hr
    refine ⟨_, pss_cons (ps_setLc (i := 1) (own := [("_law_x", 7)]) (g := gName 7) rfl sc.nd rfl rfl (sw_true rfl rfl rfl (by decide +kernel))
        (pi_range1 (by rfl) T.brange (pa_cons (pv 0) pa_nil))
        (blkOk_by (own := [("_law_x", 7)]) (N := ["_law_level", "_law_units", "_law_found", "_law_many", "_law_a", "_law_b", "_law_unit", "_law_x"]) (sc := defScope (topS 27)) (by decide +kernel))
        (fun _ _ _ _ _ => pg_name (i := 7) sc.nd rfl (Or.inl rfl))
        (fun _ _ _ _ _ => pts_one (pt_cmpR op_eq (C8.pe_c (c_divr T) hr (by decide) (by rfl) (pa_cons (pv 7) (pa_cons (pv 0) pa_nil))) pe_int (nomark _)))
        (fun _ _ _ _ _ => pv 7))
      (pss_cons (ps_par (i := 2) (j := 3) rfl sc.nd rfl rfl (by decide) rfl rfl (pa_cons pe_dnewT (pa_cons pe_int pa_nil)) (by rfl))
      (pss_cons (ps_for PassesOwn.never rfl (pi_range1 (by rfl) T.brange (pa_cons (pv 0) pa_nil)) (pg_name (i := 4) sc.nd rfl (.inl rfl))
        (pss_one (ps_for PassesOwn.never rfl (pi_range1 (by rfl) T.brange (pa_cons (pv 0) pa_nil)) (pg_name (i := 5) sc.nd rfl (.inl rfl))
          (pss_one (ps_if (PW.pt (pw_and (pt_cmp (pc_dnotin hu (pe_tup (pa_cons (pv 4) (pa_cons (pv 5) pa_nil))) (pv 2)))
              (pw_and1 (pt_cmpR op_eq (C8.pe_c (c_divr T) hr (by decide) (by rfl) (pa_cons (C8.pe_c (c_divr T) hr (by decide) (by rfl) (pa_cons (pv 4) (pa_cons (pv 5) pa_nil))) (pa_cons (pv 0) pa_nil))) pe_int (nomark _)))))
            (pss_cons (ps_for PassesOwn.never rfl (pi_list (pv 1)) (pg_name (i := 6) sc.nd rfl (.inl rfl))
              (pss_one (ps_dput hu (pv 2) (pe_tup (pa_cons (pe_op op_mod (pe_callTy call_int1 (by rfl) T.bint (by decide +kernel) (pa_cons (pe_op op_mul (pv 6) (pv 4)) pa_nil)) (pv 0))
                (pa_cons (pe_op op_mod (pe_callTy call_int1 (by rfl) T.bint (by decide +kernel) (pa_cons (pe_op op_mul (pv 6) (pv 5)) pa_nil)) (pv 0)) pa_nil))) (pv 3) rfl)))
            (pss_one (ps_set (i := 3) sc.nd rfl (.inl rfl) (pe_op op_add (pv 3) pe_int)))) pss_nil)))))
      (pss_one (ps_ret (pe_tup (pa_cons (pv 2) (pa_cons (pv 3) pa_nil))))))), ?_⟩
    refine ⟨.int L, rfl, L, rfl, by omega, by omega, fun lu nu => ?_⟩
    rw [Int.toNat_natCast]
    refine lc_range (lo := 0) (n := L) (fun i H3 => H3 = upd H lu (.lst (nl ((List.range' 0 i).filter fun x => Nat.gcd x L == 1)))) rfl (fun i H3 hi e3 => ?_) (fun H3 e3 => ?_)
    · subst e3
      refine ⟨rfl, ?_⟩
      refine ⟨.int (0 + i), rfl, .int L, rfl, i, L, ?_, rfl, _, rfl, iteV (fun e4 => ?_) (fun e4 => ?_)⟩
      · show [V.int (0 + (i : Int)), V.int (L : Int)] = _
        rw [Int.zero_add]
      · have e' : Nat.gcd i L = 1 := by omega
        refine ⟨.int (0 + i), rfl, _, upd_same, szl (by rw [nl_len]; have := fltLen (fun x => Nat.gcd x L == 1) 0 i; omega), ?_⟩
        rw [upd2, fltYes (show (Nat.gcd (0 + i) L == 1) = true by rw [Nat.zero_add]; exact beq_iff_eq.mpr e'), nl_app]
        rfl
      · have e' : ¬ Nat.gcd i L = 1 := fun z => e4 (by rw [z]; rfl)
        show _ = _
        rw [fltNo (show (Nat.gcd (0 + i) L == 1) = false by rw [Nat.zero_add]; exact beq_false_of_ne e')]
    · subst e3
      rw [← range_flt]
      have eu : ((List.range L).filter fun x => Nat.gcd x L == 1) = units L := rfl
      rw [eu]
      have s1 : Same H (upd H lu (.lst (nl (units L)))) := same_new nu
      refine fun dd nd => ⟨_, _, rfl, ?_⟩
      have ndl : lu ≠ dd := fun z => by
        rw [← z, upd_same] at nd
        exact nomatch nd
      have nd0 : H dd = none := s1.free nd
      have s2 : Same H (upd (upd H lu (.lst (nl (units L)))) dd (.dT [])) := same_upd s1 nd0
      have hp' : ptA L (units L) L 0 ⟨.nil, [], 0⟩ 0 = some (F1, M) := hp
      have hLL : L * L < 1024 := Nat.lt_of_le_of_lt (Nat.mul_le_mul hL hL) (by decide)
      -- what stands between two turns
      let St0 (f : Pts) (m : Nat) (H' : Hp) : Prop := Same H H' ∧ H' lu = some (.lst (nl (units L))) ∧ H' dd = some (.dT (kvOf L f.t f.ks.reverse)) ∧ Good L f
      refine ⟨.int L, rfl, L, rfl, by omega, by omega, ?_⟩
      rw [Int.toNat_natCast]
      refine for_range (lo := 0) (n := L) (fun i σ H' => ∃ (f : Pts) (m : Nat) (y4 y5 y6 : Option V), σ = [some (.int L), some (.ref lu), some (.ref dd), some (.int m), y4, y5, y6, none] ∧
          ptA L (units L) (L - i) i f m = some (F1, M) ∧ St0 f m H') ⟨⟨.nil, [], 0⟩, 0, none, none, none, rfl, hp', s2, ?_, upd_same, Good.nil L⟩ (fun a σ H' ha hW => ?_) (fun σ H' hW => ?_)
      · rw [upd_ne ndl]
        exact upd_same
      · obtain ⟨f, m, y4, y5, y6, rfl, hx, st⟩ := hW
        rw [show L - a = (L - (a + 1)) + 1 by omega, ptA_succ] at hx
        cases hb : ptB L a (units L) L 0 f m with
        | none =>
          rw [hb] at hx
          exact nomatch hx
        | some fm =>
          obtain ⟨f2, m2⟩ := fm
          rw [hb] at hx
          have hx2 : ptA L (units L) (L - (a + 1)) (a + 1) f2 m2 = some (F1, M) := hx
          rw [Int.zero_add]
          refine ⟨.int L, rfl, L, rfl, by omega, by omega, ?_⟩
          rw [Int.toNat_natCast]
          refine for_range (lo := 0) (n := L) (fun j σ H' => ∃ (f : Pts) (m : Nat) (y5 y6 : Option V), σ = [some (.int L), some (.ref lu), some (.ref dd), some (.int m), some (.int a), y5, y6, none] ∧
            ptB L a (units L) (L - j) j f m = some (f2, m2) ∧ St0 f m H') ⟨f, m, y5, y6, rfl, hb, st⟩ (fun b σ H' hbL hW => ?_) (fun σ H' hW => ?_)
          · obtain ⟨f, m, y5, y6, rfl, hy, sm, hlu, hdd, G⟩ := hW
            rw [show L - b = (L - (b + 1)) + 1 by omega, ptB_succ] at hy
            rw [Int.zero_add]
            have hc : a * L + b < L * L := code_lt ha hbL
            refine ⟨.int a, rfl, .int b, rfl, (by show 2 ≤ sizeLine; decide), fun t nt => ?_⟩
            have ndt : dd ≠ t := ne_of_none hdd nt
            have nlt : lu ≠ t := ne_of_none hlu nt
            have hdd1 : (upd H' t (.tup [.int a, .int b])) dd = some (.dT (kvOf L f.t f.ks.reverse)) := by rw [upd_ne ndt]; exact hdd
            have hlu1 : (upd H' t (.tup [.int a, .int b])) lu = some (.lst (nl (units L))) := by rw [upd_ne nlt]; exact hlu
            have sm1 : Same H (upd H' t (.tup [.int a, .int b])) := same_upd sm (sm.free nt)
            have ht1 : (upd H' t (.tup [.int a, .int b])) t = some (.tup ((ck L (a * L + b)).map kV)) := by rw [upd_same, ck_ab hbL]; rfl
            generalize upd H' t (.tup [.int a, .int b]) = H1 at hdd1 hlu1 sm1 ht1
            have dg : DGet H1 dd (.ref t) ((look 10 f.t (a * L + b)).map fun i => V.int (i : Int)) := by
              rw [← G.val (by omega)]
              exact DGet.t hdd1 ht1
            refine ⟨.ref dd, rfl, dd, _, rfl, dg, _, rfl, ?_⟩
            cases hk : look 10 f.t (a * L + b) with
            | some i =>
              rw [hk] at hy
              refine iteF ?_
              exact ⟨f, m, _, _, rfl, hy, sm1, hlu1, hdd1, G⟩
            | none =>
              rw [hk] at hy
              refine iteT ?_
              refine ⟨.int a, rfl, .int b, rfl, a, b, rfl, .int L, rfl, Nat.gcd a b, L, rfl, rfl, _, rfl, iteV (fun e => ?_) (fun e => ?_)⟩
              · have e1 : Nat.gcd (Nat.gcd a b) L = 1 := by omega
                have e2 : Nat.beq (Nat.gcd (Nat.gcd a b) L) 1 = true := by rw [e1]; rfl
                rw [e2] at hy
                cases hpu : putAll L a b m (units L) f with
                | none =>
                  rw [hpu] at hy
                  exact nomatch hy
                | some f3 =>
                  rw [hpu] at hy
                  have hy2 : ptB L a (units L) (L - (b + 1)) (b + 1) f3 (m + 1) = some (f2, m2) := hy
                  refine ⟨.ref lu, rfl, lu, rfl, ⟨_, SqL.of hlu1⟩, ?_⟩
                  refine forRest (f := fun n : Nat => V.int (n : Int)) (xs := units L) (fun r σ H' => ∃ (f : Pts) (y6 : Option V), σ = [some (.int L), some (.ref lu), some (.ref dd), some (.int m), some (.int a), some (.int b), y6, none] ∧
                    putAll L a b m r f = some f3 ∧ St0 f m H') ⟨f, y6, rfl, hpu, sm1, hlu1, hdd1, G⟩ (fun r σ H' h => ?_) (fun u r σ H' h => ?_) (fun σ H' h => ?_)
                  · obtain ⟨_, _, _, _, _, z, _⟩ := h
                    exact SqL.of z
                  · obtain ⟨f, y6, rfl, hz, sm, hlu, hdd, G⟩ := h
                    rw [putAll_cons] at hz
                    have l1 : u * a % L < L := Nat.mod_lt _ (by omega)
                    have l2 : u * b % L < L := Nat.mod_lt _ (by omega)
                    have hc2 := code_lt l1 l2
                    cases hk2 : look 10 f.t (u * a % L * L + u * b % L) with
                    | some i =>
                      rw [hk2] at hz
                      exact nomatch hz
                    | none =>
                      rw [hk2] at hz
                      cases hn : Nat.ble f.n 1000 with
                      | false =>
                        rw [hn] at hz
                        exact nomatch hz
                      | true =>
                        rw [hn] at hz
                        have hn' : f.n ≤ 1000 := Nat.le_of_ble_eq_true hn
                        obtain ⟨G2, ep⟩ := G.put hLL (m := m) hc2 hk2
                        refine ⟨.int m, rfl, .ref dd, rfl, .int u, rfl, .int a, rfl, u, a, rfl, rfl, .inr ⟨by omega, by omega⟩, .inl ⟨_, rfl, .int L, rfl, _, L, rfl, rfl, (by show (0 : Int) < L; omega), ?_⟩⟩
                        refine ⟨.int u, rfl, .int b, rfl, u, b, rfl, rfl, .inr ⟨by omega, by omega⟩, .inl ⟨_, rfl, .int L, rfl, _, L, rfl, rfl, (by show (0 : Int) < L; omega), ?_⟩⟩
                        refine ⟨(by show 2 ≤ sizeLine; decide), fun t nt => ?_⟩
                        have ek : ([.int ((u : Int) * (a : Int) % (L : Int)), .int ((u : Int) * (b : Int) % (L : Int))] : List V) = (ck L (u * a % L * L + u * b % L)).map kV := by
                          rw [ck_ab l2, ← Int.natCast_mul, ← Int.natCast_mul]
                          rfl
                        have ndt : dd ≠ t := ne_of_none hdd nt
                        have nlt : lu ≠ t := ne_of_none hlu nt
                        have hdd1 : (upd H' t (.tup [.int ((u : Int) * (a : Int) % (L : Int)), .int ((u : Int) * (b : Int) % (L : Int))])) dd = some (.dT (kvOf L f.t f.ks.reverse)) := by rw [upd_ne ndt]; exact hdd
                        have ht1 : (upd H' t (.tup [.int ((u : Int) * (a : Int) % (L : Int)), .int ((u : Int) * (b : Int) % (L : Int))])) t = some (.tup ((ck L (u * a % L * L + u * b % L)).map kV)) := by rw [upd_same, ek]
                        refine ⟨dd, _, rfl, DPut.t (k := ck L (u * a % L * L + u * b % L)) hdd1 ht1 (szl (by rw [kvOf_len, List.length_reverse, G.len]; omega)), ?_⟩
                        rw [ep]
                        refine ⟨_, _, rfl, hz, same_upd (same_upd sm (sm.free nt)) nd0, ?_, upd_same, G2⟩
                        rw [upd_ne ndl, upd_ne nlt]
                        exact hlu
                  · obtain ⟨f, y6, rfl, hz, st⟩ := h
                    have ef : f = f3 := Option.some.inj hz
                    rw [ef] at st
                    exact ⟨.int m, rfl, m, 1, rfl, rfl, f3, m + 1, _, _, rfl, hy2, st⟩
              · have e1 : ¬ Nat.gcd (Nat.gcd a b) L = 1 := fun z => e (by rw [z]; rfl)
                have e2 : Nat.beq (Nat.gcd (Nat.gcd a b) L) 1 = false := by
                  cases qq : Nat.beq (Nat.gcd (Nat.gcd a b) L) 1 with
                  | false => rfl
                  | true => exact absurd (Nat.eq_of_beq_eq_true qq) e1
                rw [e2] at hy
                exact ⟨f, m, _, _, rfl, hy, sm1, hlu1, hdd1, G⟩
          · obtain ⟨f, m, y5, y6, rfl, hy, st⟩ := hW
            rw [Nat.sub_self] at hy
            have e1 : (f, m) = (f2, m2) := Option.some.inj hy
            injection e1 with e2 e3
            rw [e2, e3] at st
            exact ⟨f2, m2, _, _, _, by rw [e3], hx2, st⟩
      · obtain ⟨f, m, y4, y5, y6, rfl, hx, sm, hlu, hdd, G⟩ := hW
        rw [Nat.sub_self] at hx
        have e1 : (f, m) = (F1, M) := Option.some.inj hx
        injection e1 with e2 e3
        subst e2 e3
        refine ⟨.ref dd, rfl, .int m, rfl, (by show 2 ≤ sizeLine; decide), fun p np => ?_⟩
        exact q _ p dd (same_upd sm (sm.free np)) upd_same (by rw [upd_ne (ne_of_none hdd np)]; exact hdd) nd0 G
end
end K26
namespace K26
open PySem PySem.Spec PyProof.Rows L2
theorem rWh_succ (L a : Nat) (f : Tr) (k size pl : Nat) (met : Tr) (n : Nat) : rWh L a f (k + 1) size pl met n =
    match look 10 f (a * L + pl) with
    | none => none
    | some id =>
      match Nat.ble id 1000 && Nat.ble n 1000 with
      | false => none
      | true => match look 10 met id with
        | some _ => some (size, met, n)
        | none => rWh L a f k (size + 1) ((pl + a) % L) (place 10 met id 1) (n + 1) := rfl
theorem rLoop_cons (L : Nat) (f : Tr) (c : Nat) (r : List Nat) (met : Tr) (n : Nat) (fo : List (Nat × Nat)) : rLoop L f (c :: r) met n fo =
    match rWh L (c / L) f 40 0 (c % L) met n with
    | none => none
    | some (size, met', n') =>
      match Nat.ble fo.length 1000 with
      | true => rLoop L f r met' n' (match Nat.beq size 0 with | true => fo | false => fo ++ [(Nat.gcd (c / L) L, size)])
      | false => none := rfl
/-- pairs of naturals at addresses -/
def pr (p : Nat × Nat) : List V := [.int p.1, .int p.2]
def Prs (H : Hp) (as : List Addr) (ps : List (Nat × Nat)) : Prop := Paired (fun a p => H a = some (.tup (pr p))) as ps
theorem Prs.app {H : Hp} {as bs : List Addr} {ts us : List (Nat × Nat)} (h : Prs H as ts) (g : Prs H bs us) : Prs H (as ++ bs) (ts ++ us) := by
  induction h with
  | nil => exact g
  | cons r _ ih => exact .cons r ih
theorem Prs.same {H H' : Hp} {as : List Addr} {ts : List (Nat × Nat)} (s : ∀ b xs, H b = some (.tup xs) → H' b = some (.tup xs)) (h : Prs H as ts) : Prs H' as ts :=
  Paired.mapP h fun _ _ r => s _ _ r
theorem Prs.len {H : Hp} {as : List Addr} {ts : List (Nat × Nat)} (h : Prs H as ts) : as.length = ts.length := Paired.length h
/-- the table of what is met, and the dict -/
structure MetOk (kvm : List (Key × V)) (mt : Tr) (n : Nat) : Prop where
  val : ∀ i : Nat, i ≤ 1000 → (valV kvm (.inl (i : Int))).isSome = (look 10 mt i).isSome
  len : kvm.length ≤ n
theorem MetOk.put {kvm : List (Key × V)} {mt : Tr} {n : Nat} (M : MetOk kvm mt n) {i : Nat} (hi : i ≤ 1000) (v : V) : MetOk (putK kvm (.inl (i : Int)) v) (place 10 mt i 1) (n + 1) where
  val := fun j hj => by
    rw [valV_put, look_place 10 mt i j 1 (Nat.lt_of_le_of_lt hi (by decide)) (Nat.lt_of_le_of_lt hj (by decide))]
    by_cases e : j = i
    · rw [if_pos e, if_pos (by rw [e])]
      rfl
    · rw [if_neg e, if_neg (fun z => e (by have := Sum.inl.inj z; omega))]
      exact M.val j hj
  len := by
    have h1 := length_putK kvm (.inl (i : Int)) v
    have h2 := M.len
    omega
/-- a walk over a dict of tuple keys by what is left -/
theorem forKeysT {d : Addr} {o : Obj} {kvs : List (List Key × V)} {g : TG} {tb : TS} {D : Ends} {σ : L2.St} {H : Hp}
    (Pr : List (List Key × V) → L2.St → Hp → Prop) (h0 : Pr kvs σ H) (hl : ∀ r σ H, Pr r σ H → H d = some (.frz o (.dT kvs)))
    (hs : ∀ k v r σ H q, Pr ((k, v) :: r) σ H → H q = some (.tup (k.map kV)) → g (.ref q) σ H fun σ2 H2 => tb { D with nx := Pr r, ct := Pr r, bk := D.nx } σ2 H2)
    (hd : ∀ σ H, Pr [] σ H → D.nx σ H) : tFor (fun _ H R => R (Itkt d o kvs) H) g tb D σ H := by
  refine ⟨fun i m σ H => m = kvs.length - i ∧ i ≤ kvs.length ∧ Pr (kvs.drop i) σ H, ⟨kvs.length, by rw [Nat.sub_zero], Nat.zero_le _, h0⟩, fun i m σ H hW => ?_⟩
  obtain ⟨rfl, hi, p⟩ := hW
  by_cases hlt : i < kvs.length
  · refine .inr ⟨⟨hl _ σ H p, hlt⟩, Pr (kvs.drop (i + 1)), fun σ' H' p' => ⟨kvs.length - (i + 1), by omega, rfl, hlt, p'⟩, fun x H' y => ?_⟩
    obtain ⟨rfl, k, v, q, hk, rfl, hq⟩ := y
    have hd : kvs.drop i = (k, v) :: kvs.drop (i + 1) := by
      rw [List.drop_eq_getElem_cons hlt]
      rw [(List.getElem?_eq_some_iff.mp hk).2]
    rw [hd] at p
    exact hs k v _ σ _ q p hq
  · have e : i = kvs.length := by omega
    subst e
    rw [List.drop_length] at p
    exact .inl ⟨⟨hl _ σ H p, Nat.le_refl _⟩, hd σ H p⟩
section
variable {P : Program} {w : World} {K : PySem.W.Frag} {mg : Str → Option Value} {base : Heap}
def spRounds : Sp := fun vs H Q _ => ∃ (L : Nat) (f : Pts) (dd : Addr) (ro : List (Nat × Nat)), vs = [.int L, .ref dd] ∧ 1 ≤ L ∧ L ≤ 31 ∧ Good L f ∧ H dd = some (.dT (kvOf L f.t f.ks.reverse)) ∧
  rounds L f = some ro ∧ ∀ H' p as, Same H H' → H' p = some (.lst (rl as)) → Prs H' as ro → Q (.ref p) H'
theorem c_rounds (T : Txt K mg) : C8.Cal P w K mg base 2 "_law_rounds" spRounds [] := T.lrounds.cal fun f fd F => by
  have sc : FnScope ["_law_level", "_law_points_here", "_law_met", "_law_found", "_law_a", "_law_b", "_law_size", "_law_place"] ["_law_level", "_law_points_here"] (defScope (topS 28)) :=
    ⟨rfl, rfl, rfl, by decide +kernel, rfl, by decide +kernel, by decide +kernel⟩
  refine F.ok sc (fun vs H Q E h => ?_) (fun cdv A outer s H vs Q E hr h => ?_)
  · obtain ⟨n, m, f, dd, rfl, _⟩ := h
    rfl
  · obtain ⟨L, f, dd, RO, rfl, h1, hL, G, hdd, hro, q⟩ := h
    have hu := hu_of hr
    refine ⟨_, pss_cons (ps_par (i := 2) (j := 3) rfl sc.nd rfl rfl (by decide) rfl rfl (pa_cons pe_dnewK (pa_cons (pe_lst pa_nil) pa_nil)) (by rfl))
      (pss_cons (ps_lock (ps_for PassesOwn.never rfl (pi_keys (pv 1)) (pg_tup rfl (pgs_cons (pg_name (i := 4) sc.nd rfl (.inl rfl)) (pgs_cons (pg_name (i := 5) sc.nd rfl (.inl rfl)) pgs_nil)))
        (pss_cons (ps_par (i := 6) (j := 7) rfl sc.nd rfl rfl (by decide) rfl rfl (pa_cons pe_int (pa_cons (pv 5) pa_nil)) (by rfl))
        (pss_cons (ps_while PassesOwn.never (pt_cmp (pc_dnotin hu (pe_dget hu (pv 1) (pe_tup (pa_cons (pv 4) (pa_cons (pv 7) pa_nil))) (fun _ _ => rfl)) (pv 2)))
          (pss_cons (ps_dput hu (pv 2) (pe_dget hu (pv 1) (pe_tup (pa_cons (pv 4) (pa_cons (pv 7) pa_nil))) (fun _ _ => rfl)) pe_bl rfl)
          (pss_one (ps_par (i := 6) (j := 7) rfl sc.nd rfl rfl (by decide) rfl rfl (pa_cons (pe_op op_add (pv 6) pe_int)
            (pa_cons (pe_op op_mod (pe_callTy call_int1 (by rfl) T.bint (by decide +kernel) (pa_cons (pe_op op_add (pv 7) (pv 4)) pa_nil)) (pv 0)) pa_nil)) (by rfl)))))
        (pss_one (ps_if (pt_cmpR op_gt (pv 6) pe_int (nomark _))
          (pss_one (ps_expr (pe_bm PySem.F.plainAttrs_list PySem.F.slot_list_append PySem.F.type_list_append mt_append (pv 3)
            (pa_cons (pe_tup (pa_cons (C8.pe_c (c_divr T) hr (by decide) (by rfl) (pa_cons (pv 4) (pa_cons (pv 0) pa_nil))) (pa_cons (pv 6) pa_nil))) pa_nil)))) pss_nil))))))
      (pss_one (ps_ret (pv 3)))), ?_⟩
    refine fun dm nm => ⟨Nat.zero_le _, fun df nf => ⟨_, _, rfl, ?_⟩⟩
    have nmf : dm ≠ df := fun z => by
      rw [← z, upd_same] at nf
      exact nomatch nf
    have nf0 : H df = none := (same_new nm).free nf
    have nd1 : dd ≠ dm := ne_of_none hdd nm
    have nd2 : dd ≠ df := ne_of_none hdd nf0
    have hdd1 : (upd (upd H dm (.dK [])) df (.lst [])) dd = some (.dT (kvOf L f.t f.ks.reverse)) := by rw [upd_ne nd2, upd_ne nd1]; exact hdd
    refine ⟨dd, _, hdd1, trivial, fun od => ?_⟩
    -- what stands between turns
    let RI (H' : Hp) (kvm : List (Key × V)) (as : List Addr) (fo : List (Nat × Nat)) : Prop := (∀ b o, H b = some o → b ≠ dd → H' b = some o) ∧
      H' dd = some (.frz od (.dT (kvOf L f.t f.ks.reverse))) ∧ H' dm = some (.dK kvm) ∧ H' df = some (.lst (rl as)) ∧ Prs H' as fo
    have riNew : ∀ H' kvm as fo t xs, RI H' kvm as fo → H' t = none → RI (upd H' t (.tup xs)) kvm as fo := fun H' kvm as fo t xs ⟨a1, a2, a3, a4, a5⟩ nt =>
      ⟨fun b o z hb => by rw [upd_ne (ne_of_none (a1 b o z hb) nt)]; exact a1 b o z hb, by rw [upd_ne (ne_of_none a2 nt)]; exact a2, by rw [upd_ne (ne_of_none a3 nt)]; exact a3,
        by rw [upd_ne (ne_of_none a4 nt)]; exact a4, a5.same fun b ys z => by rw [upd_ne (ne_of_none z nt)]; exact z⟩
    have riMet : ∀ H' kvm as fo kv2, RI H' kvm as fo → RI (upd H' dm (.dK kv2)) kv2 as fo := fun H' kvm as fo kv2 ⟨a1, a2, a3, a4, a5⟩ =>
      ⟨fun b o z hb => by rw [upd_ne (ne_of_none z nm)]; exact a1 b o z hb, by rw [upd_ne nd1]; exact a2, upd_same, by rw [upd_ne nmf.symm]; exact a4,
        a5.same fun b ys z => by rw [upd_ne (ne_of z a3 (fun k => nomatch k))]; exact z⟩
    -- the point's number
    have ptAt : ∀ (H' : Hp) kvm as fo (a pl t : Nat) (id : Nat), RI H' kvm as fo → a < L → pl < L → look 10 f.t (a * L + pl) = some id → H' t = some (.tup [.int a, .int pl]) → DGet H' dd (.ref t) (some (.int id)) := by
      intro H' kvm as fo a pl t id ri ha hpl hk ht
      have hv := G.val (c := a * L + pl) (by have := code_lt ha hpl; have : L * L ≤ 31 * 31 := Nat.mul_le_mul hL hL; omega)
      rw [hk] at hv
      have hv2 : valV (kvOf L f.t f.ks.reverse) (ck L (a * L + pl)) = some (.int (id : Int)) := hv
      rw [← hv2]
      refine .inr ⟨_, ck L (a * L + pl), t, .inr ⟨od, ri.2.1⟩, rfl, ?_, rfl⟩
      rw [ck_ab hpl]
      exact ht
    refine ⟨.ref dd, rfl, dd, od, rfl, .inr ⟨_, upd_same, ?_⟩⟩
    refine forKeysT (fun r σ H' => ∃ (cs : List Nat) (mt : Tr) (n : Nat) (kvm : List (Key × V)) (as : List Addr) (fo : List (Nat × Nat)) (y4 y5 y6 y7 : Option V),
        r = kvOf L f.t cs ∧ σ = [some (.int L), some (.ref dd), some (.ref dm), some (.ref df), y4, y5, y6, y7] ∧ (∀ c ∈ cs, c < L * L) ∧
        rLoop L f.t cs mt n fo = some RO ∧ MetOk kvm mt n ∧ RI H' kvm as fo)
      ⟨f.ks.reverse, .nil, 0, [], [], [], none, none, none, none, rfl, rfl, fun c hc => G.lt c (List.mem_reverse.mp hc), hro, ⟨fun i _ => by rw [look_nil]; rfl, Nat.le_refl _⟩, ?_⟩
      (fun r σ H' h => ?_) (fun k v r σ H' q2 h hq => ?_) (fun σ H' h => ?_)
    · refine ⟨fun b o z hb => ?_, upd_same, ?_, ?_, .nil⟩
      · rw [upd_ne hb, upd_ne (ne_of_none z nf0), upd_ne (ne_of_none z nm)]
        exact z
      · rw [upd_ne nd1.symm, upd_ne nmf]
        exact upd_same
      · rw [upd_ne nd2.symm]
        exact upd_same
    · obtain ⟨_, _, _, _, _, _, _, _, _, _, _, _, _, _, _, ri⟩ := h
      exact ri.2.1
    · obtain ⟨cs, mt, n, kvm, as, fo, y4, y5, y6, y7, er, rfl, hcs, hx, M, ri⟩ := h
      cases cs with
      | nil => exact nomatch er
      | cons c cs =>
        injection er with ek er2
        injection ek with ek1 ek2
        have hcL := hcs c List.mem_cons_self
        have ha : c / L < L := Nat.div_lt_of_lt_mul hcL
        have hb : c % L < L := Nat.mod_lt _ (by omega)
        rw [ek1] at hq
        have hq' : H' q2 = some (.tup [.int ((c / L : Nat) : Int), .int ((c % L : Nat) : Int)]) := hq
        generalize hga : c / L = a at ha hq' hx
        generalize hgb : c % L = b at hb hq' hx
        rw [rLoop_cons, hga, hgb] at hx
        refine ⟨q2, _, rfl, SqT.of hq', rfl, _, _, rfl, _, _, rfl, rfl, ?_⟩
        refine ⟨.int b, rfl, _, _, rfl, ?_⟩
        cases hw : rWh L a f.t 40 0 b mt n with
        | none =>
          rw [hw] at hx
          exact nomatch hx
        | some res =>
          obtain ⟨size, mt2, n2⟩ := res
          rw [hw] at hx
          refine ⟨fun m σ H' => ∃ (sz pl : Nat) (mt : Tr) (n : Nat) (kvm : List (Key × V)), σ = [some (.int L), some (.ref dd), some (.ref dm), some (.ref df), some (.int a), some (.int b), some (.int sz), some (.int pl)] ∧
              rWh L a f.t m sz pl mt n = some (size, mt2, n2) ∧ pl < L ∧ MetOk kvm mt n ∧ RI H' kvm as fo, ⟨40, 0, b, mt, n, kvm, rfl, hw, hb, M, ri⟩, fun m σ H' hW => ?_⟩
          obtain ⟨sz, pl, mt, n, kvm, rfl, hz, hpl, M, ri⟩ := hW
          cases m with
          | zero => exact nomatch hz
          | succ m =>
            rw [rWh_succ] at hz
            cases hk : look 10 f.t (a * L + pl) with
            | none =>
              rw [hk] at hz
              exact nomatch hz
            | some id =>
              rw [hk] at hz
              refine ⟨.ref dd, rfl, .int a, rfl, .int pl, rfl, (by show 2 ≤ sizeLine; decide), fun t nt => ?_⟩
              have ri1 := riNew H' kvm as fo t [.int a, .int pl] ri nt
              refine ⟨dd, .int id, rfl, ptAt _ kvm as fo a pl t id ri1 ha hpl hk upd_same, ?_⟩
              generalize upd H' t (.tup [.int a, .int pl]) = H1 at ri1
              refine ⟨.ref dm, rfl, dm, _, rfl, DGet.k (k := .inl (id : Int)) ri1.2.2.1, _, rfl, ?_⟩
              have hz0 : (match Nat.ble id 1000 && Nat.ble n 1000 with
                | false => none
                | true => match look 10 mt id with
                  | some _ => some (sz, mt, n)
                  | none => rWh L a f.t m (sz + 1) ((pl + a) % L) (place 10 mt id 1) (n + 1)) = some (size, mt2, n2) := hz
              cases hb2 : (Nat.ble id 1000 && Nat.ble n 1000) with
              | false =>
                rw [hb2] at hz0
                exact nomatch hz0
              | true =>
                rw [hb2] at hz0
                have hz' : (match look 10 mt id with
                  | some _ => some (sz, mt, n)
                  | none => rWh L a f.t m (sz + 1) ((pl + a) % L) (place 10 mt id 1) (n + 1)) = some (size, mt2, n2) := hz0
                have hid : id ≤ 1000 := Nat.le_of_ble_eq_true (Bool.and_eq_true_iff.mp hb2).1
                have hn : n ≤ 1000 := Nat.le_of_ble_eq_true (Bool.and_eq_true_iff.mp hb2).2
                rw [M.val id hid]
                cases hm : look 10 mt id with
                | some u =>
                  rw [hm] at hz'
                  have e1 : (sz, mt, n) = (size, mt2, n2) := Option.some.inj hz'
                  injection e1 with e2 e3
                  injection e3 with e3 e4
                  subst e2 e3 e4
                  refine iteF ?_
                  refine ⟨.int sz, rfl, sz, 0, rfl, rfl, _, rfl, ?_⟩
                  cases hbl : Nat.ble fo.length 1000 with
                  | false =>
                    have hx' : (match Nat.ble fo.length 1000 with
                      | true => rLoop L f.t cs mt n (match Nat.beq sz 0 with | true => fo | false => fo ++ [(Nat.gcd a L, sz)])
                      | false => none) = some RO := hx
                    rw [hbl] at hx'
                    exact nomatch hx'
                  | true =>
                    have hx' : (match Nat.ble fo.length 1000 with
                      | true => rLoop L f.t cs mt n (match Nat.beq sz 0 with | true => fo | false => fo ++ [(Nat.gcd a L, sz)])
                      | false => none) = some RO := hx
                    rw [hbl] at hx'
                    have hbl' : fo.length ≤ 1000 := Nat.le_of_ble_eq_true hbl
                    refine iteD (fun hpos => ?_) (fun hpos => ?_)
                    · have e5 : Nat.beq sz 0 = false := by
                        cases qq : Nat.beq sz 0 with
                        | false => rfl
                        | true =>
                          have := Nat.eq_of_beq_eq_true qq
                          omega
                      rw [e5] at hx'
                      have hx3 : rLoop L f.t cs mt n (fo ++ [(Nat.gcd a L, sz)]) = some RO := hx'
                      refine ⟨.ref df, rfl, .inl ⟨rfl, _, SqL.of ri1.2.2.2.1⟩, .int a, rfl, .int L, rfl, a, L, rfl, .int sz, rfl, (by show 2 ≤ sizeLine; decide), fun t2 nt2 => ?_⟩
                      have ri2 := riNew H1 kvm as fo t2 (pr (Nat.gcd a L, sz)) ri1 nt2
                      have ht2 : (upd H1 t2 (.tup (pr (Nat.gcd a L, sz)))) t2 = some (.tup (pr (Nat.gcd a L, sz))) := upd_same
                      refine ⟨df, _, _, rfl, rfl, ri2.2.2.2.1, szl (by unfold rl; rw [List.length_map, ri2.2.2.2.2.len]; omega), ?_⟩
                      obtain ⟨a1, a2, a3, a4, a5⟩ := ri2
                      have a4' : (upd H1 t2 (.tup (pr (Nat.gcd a L, sz)))) df = some (.lst (rl as)) := a4
                      refine ⟨cs, mt, n, kvm, as ++ [t2], _, _, _, _, _, er2, rfl, fun c hc => hcs c (List.mem_cons_of_mem _ hc), hx3, M, fun b o z hb => ?_, ?_, ?_, ?_, ?_⟩
                      · rw [upd_ne (ne_of_none z nf0)]
                        exact a1 b o z hb
                      · rw [upd_ne nd2]
                        exact a2
                      · rw [upd_ne nmf]
                        exact a3
                      · rw [upd_same]
                        unfold rl
                        rw [List.map_append]
                        rfl
                      · refine (a5.app (.cons ht2 .nil)).same fun b ys z => ?_
                        rw [upd_ne (ne_of z a4' (fun k => nomatch k))]
                        exact z
                    · have e5 : sz = 0 := by omega
                      rw [e5] at hx'
                      exact ⟨cs, mt, n, kvm, as, fo, _, _, _, _, er2, rfl, fun c hc => hcs c (List.mem_cons_of_mem _ hc), hx', M, ri1⟩
                | none =>
                  rw [hm] at hz'
                  refine iteT ?_
                  have hz3 : rWh L a f.t m (sz + 1) ((pl + a) % L) (place 10 mt id 1) (n + 1) = some (size, mt2, n2) := hz'
                  refine ⟨fun σ H' => ∃ (sz pl : Nat) (mt : Tr) (n : Nat) (kvm : List (Key × V)), σ = [some (.int L), some (.ref dd), some (.ref dm), some (.ref df), some (.int a), some (.int b), some (.int sz), some (.int pl)] ∧
                      rWh L a f.t m sz pl mt n = some (size, mt2, n2) ∧ pl < L ∧ MetOk kvm mt n ∧ RI H' kvm as fo, fun σ' H' hN => ⟨m, Nat.lt_succ_self m, hN⟩, ?_⟩
                  refine ⟨.ref dm, rfl, .ref dd, rfl, .int a, rfl, .int pl, rfl, (by show 2 ≤ sizeLine; decide), fun t2 nt2 => ?_⟩
                  have ri2 := riNew H1 kvm as fo t2 [.int a, .int pl] ri1 nt2
                  refine ⟨dd, .int id, rfl, ptAt _ kvm as fo a pl t2 id ri2 ha hpl hk upd_same, ?_⟩
                  generalize upd H1 t2 (.tup [.int a, .int pl]) = H2 at ri2
                  have hl := M.len
                  refine ⟨dm, _, rfl, DPut.k (k := .inl (id : Int)) ri2.2.2.1 (szl (by omega)), ?_⟩
                  refine ⟨.int sz, rfl, sz, 1, rfl, rfl, .int pl, rfl, .int a, rfl, pl, a, rfl, rfl, .inl ⟨_, rfl, .int L, rfl, _, L, rfl, rfl, (by show (0 : Int) < L; omega), _, _, rfl, ?_⟩⟩
                  exact ⟨sz + 1, (pl + a) % L, _, _, _, rfl, hz3, Nat.mod_lt _ (by omega), M.put hid (.bl true), riMet H2 kvm as fo _ ri2⟩
    · obtain ⟨cs, mt, n, kvm, as, fo, y4, y5, y6, y7, er, rfl, hcs, hx, M, a1, a2, a3, a4, a5⟩ := h
      cases cs with
      | cons c cs => exact nomatch er
      | nil =>
        have efo : fo = RO := Option.some.inj hx
        rw [efo] at a5
        refine ⟨a2, ?_⟩
        refine ⟨.ref df, rfl, q _ df as (fun b o z => ?_) ?_ (a5.same fun b ys z => ?_)⟩
        · by_cases hb : b = dd
          · rw [hb] at z ⊢
            rw [hdd] at z
            rw [upd_same]
            exact z
          · rw [upd_ne hb]
            exact a1 b o z hb
        · rw [upd_ne nd2.symm]
          exact a4
        · rw [upd_ne (ne_of z a2 (fun k => nomatch k))]
          exact z
end
end K26
namespace K26
open PySem PySem.Spec PyProof.Rows L2
/-! ## the data that is shown -/
def tD (t : Tri) : PyData := .tuple [.int t.1, .int t.2.1, .int t.2.2]
def dat (i : Nat) (e : List Tri) : PyData := .list [.int i, .tuple (e.map tD)]
theorem small_of {e : List Tri} (h : small e = true) : e.length < 50 ∧ ∀ t ∈ e, t.1 ≤ 1000 ∧ t.2.1 ≤ 1000 ∧ t.2.2 ≤ 1000 := by
  unfold small at h
  rw [Bool.and_eq_true, List.all_eq_true] at h
  refine ⟨of_decide_eq_true h.1, fun t ht => ?_⟩
  have h2 := h.2 t ht
  simp only [Bool.and_eq_true, decide_eq_true_eq] at h2
  exact ⟨h2.1.1, h2.1.2, h2.2⟩
theorem int_show {n : Nat} (h : n ≤ 1000000) : PyData.showable (.int (n : Int)) = true := decide_eq_true (PySem.Flt.log2_lt_of (by decide) (by
  show n < 2 ^ 1920
  exact Nat.lt_of_le_of_lt h (by decide)))
theorem int_weight {n : Nat} (h : n ≤ 1000000) : PyData.weight (.int (n : Int)) ≤ 20 := by
  show (if ((n : Int) == 0) = true then 0 else (n : Int).natAbs.log2 + 1) ≤ 20
  split
  · omega
  · have : (n : Int).natAbs.log2 < 20 := PySem.Flt.log2_lt_of (by decide) (by
      show n < 2 ^ 20
      exact Nat.lt_of_le_of_lt h (by decide))
    omega
theorem int_short {n : Nat} (h : n ≤ 1000000) : PyData.leavesShort 13 (.int (n : Int)) = true := by
  show decide _ = true
  exact decide_eq_true (PyData.shown_int_le (by
    show n < 10 ^ 12
    exact Nat.lt_of_le_of_lt h (by decide)))
theorem tD_ok {t : Tri} (h : t.1 ≤ 1000 ∧ t.2.1 ≤ 1000 ∧ t.2.2 ≤ 1000) : PyData.showable (tD t) = true ∧ PyData.hasDict (tD t) = false ∧ PyData.depth (tD t) ≤ 1 ∧ PyData.leavesShort 13 (tD t) = true ∧ PyData.weight (tD t) ≤ 63 := by
  obtain ⟨h1, h2, h3⟩ := h
  have a1 := int_show (n := t.1) (by omega)
  have a2 := int_show (n := t.2.1) (by omega)
  have a3 := int_show (n := t.2.2) (by omega)
  have b1 := int_short (n := t.1) (by omega)
  have b2 := int_short (n := t.2.1) (by omega)
  have b3 := int_short (n := t.2.2) (by omega)
  have c1 := int_weight (n := t.1) (by omega)
  have c2 := int_weight (n := t.2.1) (by omega)
  have c3 := int_weight (n := t.2.2) (by omega)
  refine ⟨?_, rfl, ?_, ?_, ?_⟩
  · show (_ && (_ && (_ && true))) = true
    rw [a1, a2, a3]
    rfl
  · show max 0 (max 0 (max 0 0)) + 1 ≤ 1
    decide
  · show (_ && (_ && (_ && true))) = true
    rw [b1, b2, b3]
    rfl
  · show PyData.weight (.int (t.1 : Int)) + 1 + (PyData.weight (.int (t.2.1 : Int)) + 1 + (PyData.weight (.int (t.2.2 : Int)) + 1 + 0)) ≤ 63
    omega
theorem tDs_ok : ∀ e : List Tri, (∀ t ∈ e, t.1 ≤ 1000 ∧ t.2.1 ≤ 1000 ∧ t.2.2 ≤ 1000) → PyData.showableAll (e.map tD) = true ∧ PyData.hasDictAll (e.map tD) = false ∧ PyData.depthAll (e.map tD) ≤ 1 ∧
    PyData.leavesShortAll 13 (e.map tD) = true ∧ PyData.weightAll (e.map tD) ≤ 64 * e.length
  | [], _ => ⟨rfl, rfl, Nat.zero_le _, rfl, Nat.zero_le _⟩
  | t :: r, h => by
    obtain ⟨a1, a2, a3, a4, a5⟩ := tD_ok (h t List.mem_cons_self)
    obtain ⟨b1, b2, b3, b4, b5⟩ := tDs_ok r fun u hu => h u (List.mem_cons_of_mem _ hu)
    refine ⟨?_, ?_, ?_, ?_, ?_⟩
    · show (PyData.showable (tD t) && PyData.showableAll (r.map tD)) = true
      rw [a1, b1]
      rfl
    · show (PyData.hasDict (tD t) || PyData.hasDictAll (r.map tD)) = false
      rw [a2, b2]
      rfl
    · show max (PyData.depth (tD t)) (PyData.depthAll (r.map tD)) ≤ 1
      omega
    · show (PyData.leavesShort 13 (tD t) && PyData.leavesShortAll 13 (r.map tD)) = true
      rw [a4, b4]
      rfl
    · show PyData.weight (tD t) + 1 + PyData.weightAll (r.map tD) ≤ 64 * (r.length + 1)
      omega
theorem dat_ok {i : Nat} {e : List Tri} (hi : i ≤ 1000000) (he : small e = true) : (dat i e).showable = true ∧ (dat i e).hasDict = false ∧ (dat i e).depth ≤ 40 ∧ (dat i e).shown.length ≤ sizeLine := by
  obtain ⟨hl, hs⟩ := small_of he
  obtain ⟨b1, b2, b3, b4, b5⟩ := tDs_ok e hs
  have a1 := int_show hi
  have a2 := int_short hi
  have a3 := int_weight hi
  refine ⟨?_, ?_, ?_, PyData.shown_fits (B := 13) (by decide) (by decide) ?_ ?_⟩
  · show (_ && (PyData.showableAll (e.map tD) && true)) = true
    rw [a1, b1]
    rfl
  · show (false || (PyData.hasDictAll (e.map tD) || false)) = false
    rw [b2]
    rfl
  · show max 0 (max (PyData.depthAll (e.map tD) + 1) 0) + 1 ≤ 40
    omega
  · show (_ && (PyData.leavesShortAll 13 (e.map tD) && true)) = true
    rw [a2, b4]
    rfl
  · show PyData.weight (.int (i : Int)) + 1 + (PyData.weightAll (e.map tD) + 1 + 0) ≤ 2 ^ 20
    have : (2 : Nat) ^ 20 = 1048576 := by decide
    omega
theorem dp_tris {K : PySem.W.Frag} {H : Hp} : ∀ {as : List Addr} {e : List Tri}, Tups H as e → DpAll K H (rl as) (e.map tD)
  | _, _, .nil => .nil
  | _, _, .cons r t => .cons (.tup (SqT.of r) (.cons (.int _) (.cons (.int _) (.cons (.int _) .nil)))) (dp_tris t)
theorem dp_dat {K : PySem.W.Frag} {H : Hp} {p t : Addr} {as : List Addr} {i : Nat} {e : List Tri} (hp : H p = some (.lst [.int i, .ref t])) (ht : H t = some (.tup (rl as))) (tu : Tups H as e) : Dp K H (.ref p) (dat i e) :=
  .lst (SqL.of hp) (.cons (.int _) (.cons (.tup (SqT.of ht) (dp_tris tu)) .nil))
/-! ## comprehensions over a list, by what is left -/
theorem unz {α β : Type} {R : α → β → Prop} : ∀ {l : List α} {m : List β}, Paired R l m → ∃ ps : List (α × β), ps.map (·.1) = l ∧ ps.map (·.2) = m ∧ ∀ q ∈ ps, R q.1 q.2
  | _, _, .nil => ⟨[], rfl, rfl, fun q hq => (nomatch hq)⟩
  | _, _, .cons (a := a) (b := b) r t => by
    obtain ⟨ps, h1, h2, h3⟩ := unz t
    refine ⟨(a, b) :: ps, by rw [List.map_cons, h1], by rw [List.map_cons, h2], fun q hq => ?_⟩
    rcases List.mem_cons.mp hq with rfl | hq
    · exact r
    · exact h3 q hq
/-- what a comprehension over J has to show: D its new list, Qd what follows -/
def Over (J : It) (g : TG) (tt : TT) (te : TE) (vs : List Nat) (σ : L2.St) (D : Addr) (H1 : Hp) (Qd : Hp → Prop) : Prop :=
  ∃ W : Nat → Nat → Hp → Prop,
    (∃ m, W 0 m (upd H1 D (.lst []))) ∧
    ∀ i m H, W i m H →
      (J.stop i H ∧ Qd H) ∨
      (J.go i H ∧ ∃ Nx : Hp → Prop,
        (∀ H', Nx H' → ∃ m', m' < m ∧ W (i + 1) m' H') ∧
        ∀ x H', J.yld i H x H' →
          g x (wipe σ vs) H' fun σ2 H2 =>
            wipe σ2 vs = wipe σ vs ∧
            tt σ2 H2 fun b H3 =>
              if b = true then
                te σ2 H3 fun y H4 =>
                  ∃ acc, H4 D = some (.lst acc) ∧
                    acc.length < sizeLine ∧
                    Nx (upd H4 D (.lst (acc ++ [y])))
              else Nx H3)
theorem lcRest {α : Type} {K : PySem.W.Frag} {a : Addr} {f : α → V} {xs : List α} {g : TG} {tt : TT} {te : TE} {vs : List Nat} {σ : L2.St} {D : Addr} {H1 : Hp} {Qd : Hp → Prop}
    (Pr : List α → Hp → Prop) (h0 : Pr xs (upd H1 D (.lst []))) (hl : ∀ r H, Pr r H → SqL K H a (xs.map f))
    (hs : ∀ x r H, Pr (x :: r) H → g (f x) (wipe σ vs) H fun σ2 H2 => wipe σ2 vs = wipe σ vs ∧ tt σ2 H2 fun b H3 =>
      if b = true then te σ2 H3 fun y H4 => ∃ acc, H4 D = some (.lst acc) ∧ acc.length < sizeLine ∧ Pr r (upd H4 D (.lst (acc ++ [y]))) else Pr r H3)
    (hd : ∀ H, Pr [] H → Qd H) : Over (Itl K a) g tt te vs σ D H1 Qd := by
  refine lc_list (xs := xs.map f) (fun i H => Pr (xs.drop i) H) h0 (fun i H _ h => hl _ H h) (fun i x H e h => ?_) (fun H h => hd H ?_)
  · rw [List.getElem?_map] at e
    cases q : xs[i]? with
    | none =>
      rw [q] at e
      exact nomatch e
    | some y =>
      rw [q] at e
      have ey : f y = x := Option.some.inj e
      have hi : i < xs.length := (List.getElem?_eq_some_iff.mp q).1
      have hy : xs[i] = y := (List.getElem?_eq_some_iff.mp q).2
      have hd : xs.drop i = y :: xs.drop (i + 1) := by rw [List.drop_eq_getElem_cons hi, hy]
      rw [← ey]
      have h2 : Pr (xs.drop i) H := h
      rw [hd] at h2
      exact hs y _ H h2
  · have h2 : Pr (xs.drop (xs.map f).length) H := h
    rw [List.length_map, List.drop_length] at h2
    exact h2
theorem lcRestT {α : Type} {K : PySem.W.Frag} {a : Addr} {f : α → V} {xs : List α} {g : TG} {tt : TT} {te : TE} {vs : List Nat} {σ : L2.St} {D : Addr} {H1 : Hp} {Qd : Hp → Prop}
    (Pr : List α → Hp → Prop) (h0 : Pr xs (upd H1 D (.lst []))) (hl : ∀ r H, Pr r H → SqT K H a (xs.map f))
    (hs : ∀ x r H, Pr (x :: r) H → g (f x) (wipe σ vs) H fun σ2 H2 => wipe σ2 vs = wipe σ vs ∧ tt σ2 H2 fun b H3 =>
      if b = true then te σ2 H3 fun y H4 => ∃ acc, H4 D = some (.lst acc) ∧ acc.length < sizeLine ∧ Pr r (upd H4 D (.lst (acc ++ [y]))) else Pr r H3)
    (hd : ∀ H, Pr [] H → Qd H) : Over (Itt K a) g tt te vs σ D H1 Qd := by
  refine lc_tup (xs := xs.map f) (fun i H => Pr (xs.drop i) H) h0 (fun i H _ h => hl _ H h) (fun i x H e h => ?_) (fun H h => hd H ?_)
  · rw [List.getElem?_map] at e
    cases q : xs[i]? with
    | none =>
      rw [q] at e
      exact nomatch e
    | some y =>
      rw [q] at e
      have ey : f y = x := Option.some.inj e
      have hi : i < xs.length := (List.getElem?_eq_some_iff.mp q).1
      have hy : xs[i] = y := (List.getElem?_eq_some_iff.mp q).2
      have hd : xs.drop i = y :: xs.drop (i + 1) := by rw [List.drop_eq_getElem_cons hi, hy]
      rw [← ey]
      have h2 : Pr (xs.drop i) H := h
      rw [hd] at h2
      exact hs y _ H h2
  · have h2 : Pr (xs.drop (xs.map f).length) H := h
    rw [List.length_map, List.drop_length] at h2
    exact h2
end K26
namespace K26
open PySem PySem.Spec PyProof.Rows L2
theorem cLoop_cons (ro : List (Nat × Nat)) (c : Nat) (cs : List Nat) (due : List Tri) : cLoop ro (c :: cs) due =
    match (ro.filter fun p => p.1 == c).map (·.2) with
    | [] => none
    | s :: r => if r.all (· == s) && due.length ≤ 1000 then cLoop ro cs (due ++ [(c, r.length + 1, s)]) else none := rfl
/-- the sizes of those with the divisor c -/
def szs (c : Nat) (l : List (Addr × Nat × Nat)) : List Nat := ((l.map (·.2)).filter fun p => p.1 == c).map (·.2)
theorem szs_yes {c : Nat} {l : List (Addr × Nat × Nat)} {x : Addr × Nat × Nat} (h : x.2.1 = c) : szs c (l ++ [x]) = szs c l ++ [x.2.2] := by
  unfold szs
  rw [List.map_append, List.filter_append, List.map_append, List.map_cons, List.filter_cons, if_pos (beq_iff_eq.mpr h)]
  rfl
theorem szs_no {c : Nat} {l : List (Addr × Nat × Nat)} {x : Addr × Nat × Nat} (h : ¬ x.2.1 = c) : szs c (l ++ [x]) = szs c l := by
  unfold szs
  rw [List.map_append, List.filter_append, List.map_append, List.map_cons, List.filter_cons, if_neg (fun z => h (beq_iff_eq.mp z))]
  exact List.append_nil _
theorem szs_len (c : Nat) (l : List (Addr × Nat × Nat)) : (szs c l).length ≤ l.length := by
  unfold szs
  rw [List.length_map]
  exact Nat.le_trans (List.length_filter_le _ _) (by rw [List.length_map]; exact Nat.le_refl _)
/-- naturals as ints -/
def zl (l : List Nat) : List Int := l.map fun n : Nat => (n : Int)
theorem nl_zl (l : List Nat) : nl l = (zl l).map V.int := by
  unfold nl zl
  rw [List.map_map]
  rfl
section
variable {P : Program} {w : World} {K : PySem.W.Frag} {mg : Str → Option Value} {base : Heap}
def spCount : Sp := fun vs H Q _ => ∃ L : Nat, vs = [.int L] ∧ 1 ≤ L ∧ L ≤ 30 ∧ ∀ H', Same H H' → Q (.bl true) H'
theorem c_count (T : Txt K mg) : CalG P w K mg base 6 "_law_is_counted_right" spCount := T.lcount.calG fun f fd F => by
  have sc : FnScope ["_law_level", "_law_points_here", "_law_many", "_law_rounds_here", "_law_due", "_law_c", "_law_sizes", "_law_d", "_law_size"] ["_law_level"] (defScope (topS 29)) :=
    ⟨rfl, rfl, rfl, by decide +kernel, rfl, by decide +kernel, by decide +kernel⟩
  refine okG F sc (fun vs H Q E h => ?_) (fun cdv A outer s H vs Q E hg hr h => ?_)
  · obtain ⟨L, rfl, _⟩ := h
    rfl
  · obtain ⟨L, rfl, h1, h2, q⟩ := h
    have hu := hu_of hr
    have hu64 := hr.units
    -- what the mirror says of L
    have hcnt : counted L = true := by
      have := List.all_eq_true.mp counted_all L (by rw [List.mem_range']; exact ⟨L - 1, by omega, by omega⟩)
      exact this
    unfold counted at hcnt
    cases hp : points L with
    | none =>
      rw [hp] at hcnt
      exact nomatch hcnt
    | some fm =>
      obtain ⟨f, m⟩ := fm
      rw [hp] at hcnt
      cases hro : rounds L f with
      | none =>
        simp only [hro] at hcnt
        exact nomatch hcnt
      | some ro =>
        simp only [hro] at hcnt
        cases hcl : cLoop ro (ldivs L) [] with
        | none =>
          simp only [hcl] at hcnt
          exact nomatch hcnt
        | some due =>
          cases hix : idx L with
          | none =>
            simp only [hcl, hix] at hcnt
            exact nomatch hcnt
          | some ix =>
            cases hed : edg L with
            | none =>
              simp only [hcl, hix, hed] at hcnt
              exact nomatch hcnt
            | some e =>
              simp only [hcl, hix, hed, Bool.and_eq_true, decide_eq_true_eq, beq_iff_eq] at hcnt
              obtain ⟨⟨⟨⟨hrl, him⟩, hi6⟩, hsm⟩, hde⟩ := hcnt
              subst him hde
              obtain ⟨d1, d2, d3, d4⟩ := dat_ok hi6 hsm
              refine ⟨_, pss_cons (ps_asg (C8.pe_c (c_points T) hr (by decide) (by rfl) (pa_cons (pv 0) pa_nil)) (pg_tup rfl (pgs_cons (pg_name (i := 1) sc.nd rfl (.inl rfl)) (pgs_cons (pg_name (i := 2) sc.nd rfl (.inl rfl)) pgs_nil))))
                (pss_cons (ps_par (i := 3) (j := 4) rfl sc.nd rfl rfl (by decide) rfl rfl (pa_cons (C8.pe_c (c_rounds T) hr (by decide) (by rfl) (pa_cons (pv 0) (pa_cons (pv 1) pa_nil))) (pa_cons (pe_lst pa_nil) pa_nil)) (by rfl))
                (pss_cons (ps_for PassesOwn.never rfl (pi_list (C8.pe_c (c_ldivs T) hr (by decide) (by rfl) (pa_cons (pv 0) pa_nil))) (pg_name (i := 5) sc.nd rfl (.inr rfl))
                  (pss_cons (ps_setLc (i := 6) (own := [("_law_d", 7), ("_law_size", 8)]) (g := gTup K 2 (gCons (gName 7) (gCons (gName 8) gNil))) rfl sc.nd rfl rfl (sw_true rfl rfl rfl (by decide +kernel)) (pi_list (pv 3))
                    (blkOk_by (own := [("_law_d", 7), ("_law_size", 8)]) (N := ["_law_level", "_law_points_here", "_law_many", "_law_rounds_here", "_law_due", "_law_c", "_law_sizes", "_law_d", "_law_size"]) (sc := defScope (topS 29)) (by decide +kernel))
                    (fun _ _ _ _ _ => by exact pg_tup rfl (pgs_cons (pg_name (i := 7) sc.nd rfl (Or.inl rfl)) (pgs_cons (pg_name (i := 8) sc.nd rfl (Or.inl rfl)) pgs_nil)))
                    (fun _ _ _ _ _ => pts_one (pt_cmpR op_eq (pv 7) (pv 5) (nomark _))) (fun _ _ _ _ _ => pv 8))
                  (pss_cons (ps_if (PW.pt (pw_or (pt_cmpR (op_eqD (by exact hu64)) (pv 6) (pe_lst pa_nil) (nomark _))
                      (pw_or1 (pt_cmpR op_ne (pe_callB (cr_min rfl) (by rfl) T.bmin (by decide +kernel) (pa_cons (pv 6) pa_nil)) (pe_callB (cr_max rfl) (by rfl) T.bmax (by decide +kernel) (pa_cons (pv 6) pa_nil)) (nomark _)))))
                    (pss_one (ps_ret pe_bl)) pss_nil)
                  (pss_one (ps_expr (pe_bm PySem.F.plainAttrs_list PySem.F.slot_list_append PySem.F.type_list_append mt_append (pv 4)
                    (pa_cons (pe_tup (pa_cons (pv 5) (pa_cons (pe_callB call_len_seq (by rfl) T.blen (by decide +kernel) (pa_cons (pv 6) pa_nil)) (pa_cons (pe_ix ix_list (pv 6) pe_int (fun _ _ => rfl)) pa_nil)))) pa_nil)))))))
                (pss_one (ps_ret (peG (c_same T) (by exact hg) hr (by decide) (by rfl)
                  (pa_cons (pe_lst (pa_cons (C8.pe_c (c_index T).cal hr (by decide) (by rfl) (pa_cons (pv 0) pa_nil)) (pa_cons (peKw (c_edges T) hr (by decide) (by rfl) (pv 0)) pa_nil)))
                  (pa_cons (pe_lst (pa_cons (pv 2) (pa_cons (pe_callTy call_tuple_of (by rfl) T.btuple (by decide +kernel) (pa_cons (pv 4) pa_nil)) pa_nil))) pa_nil))))))), ?_⟩
              -- points
              refine ⟨.int L, rfl, L, ix, f, rfl, h1, by omega, hp, fun H1 p dd s1 hpt hdd nd0 G => ?_⟩
              refine ⟨p, _, rfl, SqT.of hpt, rfl, _, _, rfl, _, _, rfl, rfl, ?_⟩
              -- rounds
              refine ⟨.int L, rfl, .ref dd, rfl, L, f, dd, ro, rfl, h1, by omega, G, hdd, hro, fun H2 lr as s2 hlr tp => ?_⟩
              refine ⟨Nat.zero_le _, fun du ndu => ⟨_, _, rfl, ?_⟩⟩
              obtain ⟨ps, ea, eo, hps⟩ := unz tp
              subst ea eo
              have s12 := s1.trans s2
              refine ⟨.int L, rfl, L, rfl, by omega, fun ld nld => ?_⟩
              have nlu : ld ≠ du := fun z => by
                rw [z, upd_same] at nld
                exact nomatch nld
              have nru : lr ≠ du := ne_of_none hlr ndu
              have nrd : lr ≠ ld := fun z => by
                rw [← z, upd_ne nru, hlr] at nld
                exact nomatch nld
              have nld2 : H2 ld = none := (same_new ndu).free nld
              refine ⟨ld, rfl, ⟨_, SqL.of upd_same⟩, ?_⟩
              -- what stands between turns
              let RI (H' : Hp) (ds : List Addr) (dt : List Tri) : Prop := (∀ b o, H2 b = some o → H' b = some o) ∧ H' ld = some (.lst (nl (ldivs L))) ∧ H' du = some (.lst (rl ds)) ∧ Tups H' ds dt
              refine forRest (f := fun n : Nat => V.int (n : Int)) (xs := ldivs L) (fun r σ H' => ∃ (ds : List Addr) (dt : List Tri) (y5 y6 : Option V),
                  σ = [some (.int L), some (.ref dd), some (.int ix), some (.ref lr), some (.ref du), y5, y6, none, none] ∧ cLoop (ps.map (·.2)) r dt = some due ∧ RI H' ds dt)
                ⟨[], [], none, none, rfl, hcl, fun b o z => ?_, upd_same, ?_, .nil⟩ (fun r σ H' h => ?_) (fun c r σ H' h => ?_) (fun σ H' h => ?_)
              · rw [upd_ne (ne_of_none z nld2), upd_ne (ne_of_none z ndu)]
                exact z
              · rw [upd_ne nlu.symm]
                exact upd_same
              · obtain ⟨_, _, _, _, _, _, _, z, _⟩ := h
                exact SqL.of z
              · obtain ⟨ds, dt, y5, y6, rfl, hx, a1, a2, a3, a4⟩ := h
                refine ⟨.ref lr, rfl, lr, rfl, ⟨_, SqL.of (a1 _ _ hlr)⟩, ?_⟩
                refine fun D nD => ?_
                have hD : H2 D = none := by
                  cases z : H2 D with
                  | none => rfl
                  | some o =>
                    rw [a1 _ _ z] at nD
                    exact nomatch nD
                have keep : ∀ l, ∀ b o, H2 b = some o → (upd H' D (.lst (nl l))) b = some o := fun l b o z => by
                  rw [upd_ne (ne_of_none (a1 _ _ z) nD)]
                  exact a1 _ _ z
                refine lcRest (f := fun q : Addr × Nat × Nat => V.ref q.1) (xs := ps) (fun r H3 => ∃ done, done ++ r = ps ∧ H3 = upd H' D (.lst (nl (szs c done))))
                  ⟨[], rfl, rfl⟩ (fun r H3 h => ?_) (fun x r H3 h => ?_) (fun H3 h => ?_)
                · obtain ⟨done, _, rfl⟩ := h
                  refine SqL.of (keep _ _ _ ?_)
                  rw [hlr]
                  unfold rl
                  rw [List.map_map]
                  rfl
                · obtain ⟨done, ed, rfl⟩ := h
                  have hx1 : x ∈ ps := by
                    rw [← ed]
                    exact List.mem_append_right _ List.mem_cons_self
                  have hxt := keep (szs c done) _ _ (hps x hx1)
                  have hle : done.length ≤ ps.length := by
                    rw [← ed, List.length_append]
                    exact Nat.le_add_right _ _
                  have hle2 : ps.length ≤ 1000 := by
                    rw [List.length_map] at hrl
                    exact hrl
                  have hsl := szs_len c done
                  refine ⟨x.1, _, rfl, SqT.of hxt, rfl, _, _, rfl, _, _, rfl, rfl, rfl, ?_⟩
                  refine ⟨.int x.2.1, rfl, .int c, rfl, rfl, _, rfl, iteV (fun e1 => ?_) (fun e1 => ?_)⟩
                  · have e2 : x.2.1 = c := by omega
                    refine ⟨.int x.2.2, rfl, _, upd_same, szl (by rw [nl_len]; omega), done ++ [x], ?_, ?_⟩
                    · rw [List.append_assoc]
                      exact ed
                    · rw [upd2, szs_yes e2, nl_app]
                      rfl
                  · have e2 : ¬ x.2.1 = c := fun z => e1 (by rw [z])
                    refine ⟨done ++ [x], ?_, ?_⟩
                    · rw [List.append_assoc]
                      exact ed
                    · rw [szs_no e2]
                · obtain ⟨done, ed, rfl⟩ := h
                  rw [List.append_nil] at ed
                  subst ed
                  rw [cLoop_cons] at hx
                  have esz : ((done.map (·.2)).filter fun p => p.1 == c).map (·.2) = szs c done := rfl
                  rw [esz] at hx
                  cases hsz : szs c done with
                  | nil =>
                    rw [hsz] at hx
                    exact nomatch hx
                  | cons s0 sr =>
                    rw [hsz] at hx
                    have hx' : (if (sr.all (· == s0) && decide (dt.length ≤ 1000)) = true then cLoop (done.map (·.2)) r (dt ++ [(c, sr.length + 1, s0)]) else none) = some due := hx
                    by_cases hc : (sr.all (· == s0) && decide (dt.length ≤ 1000)) = true
                    · rw [if_pos hc] at hx'
                      rw [Bool.and_eq_true, List.all_eq_true, decide_eq_true_eq] at hc
                      obtain ⟨hall, hdl⟩ := hc
                      have hD4 : (upd H' D (.lst (nl (s0 :: sr)))) D = some (.lst ((zl (s0 :: sr)).map V.int)) := by rw [upd_same, nl_zl]
                      have b1 := keep (s0 :: sr)
                      have nDd : ld ≠ D := ne_of_none a2 nD
                      have nDu : du ≠ D := ne_of_none a3 nD
                      have b2 : (upd H' D (.lst (nl (s0 :: sr)))) ld = some (.lst (nl (ldivs L))) := by rw [upd_ne nDd]; exact a2
                      have b3 : (upd H' D (.lst (nl (s0 :: sr)))) du = some (.lst (rl ds)) := by rw [upd_ne nDu]; exact a3
                      have b4 : Tups (upd H' D (.lst (nl (s0 :: sr)))) ds dt := a4.same fun b xs z => by rw [upd_ne (ne_of_none z nD)]; exact z
                      generalize upd H' D (.lst (nl (s0 :: sr))) = H4 at hD4 b1 b2 b3 b4
                      -- sizes == []
                      refine ⟨.ref D, rfl, Nat.zero_le _, fun p np => ?_⟩
                      have hD5 : (upd H4 p (.lst [])) D = some (.lst ((zl (s0 :: sr)).map V.int)) := by rw [upd_ne (ne_of_none hD4 np)]; exact hD4
                      have hp5 : (upd H4 p (.lst [])) p = some (.lst []) := upd_same
                      have c1 : ∀ b o, H2 b = some o → (upd H4 p (.lst [])) b = some o := fun b o z => by rw [upd_ne (ne_of_none (b1 _ _ z) np)]; exact b1 _ _ z
                      have c2 : (upd H4 p (.lst [])) ld = some (.lst (nl (ldivs L))) := by rw [upd_ne (ne_of_none b2 np)]; exact b2
                      have c3 : (upd H4 p (.lst [])) du = some (.lst (rl ds)) := by rw [upd_ne (ne_of_none b3 np)]; exact b3
                      have c4 : Tups (upd H4 p (.lst [])) ds dt := b4.same fun b xs z => by rw [upd_ne (ne_of_none z np)]; exact z
                      generalize upd H4 p (.lst []) = H5 at hD5 hp5 c1 c2 c3 c4
                      refine ⟨.list ((zl (s0 :: sr)).map PyData.int), .list [], .lst (SqL.of hD5) (dp_ints _), .lst (SqL.of hp5) .nil, shaped_ints _, rfl, _, rfl, ?_⟩
                      rw [eqv_nil]
                      refine iteDF (fun z => nomatch z) ?_
                      -- min and max
                      have only : ∀ m : Int, m ∈ zl (s0 :: sr) → m = (s0 : Int) := fun m hm => by
                        unfold zl at hm
                        obtain ⟨y, hy, rfl⟩ := List.mem_map.mp hm
                        rcases List.mem_cons.mp hy with z | z
                        · rw [z]
                        · have := hall y z
                          rw [beq_iff_eq] at this
                          rw [this]
                      refine ⟨.ref D, rfl, D, zl (s0 :: sr), rfl, SqL.of hD5, Nat.succ_pos _, fun m1 hm1 _ => ?_⟩
                      refine ⟨.ref D, rfl, D, zl (s0 :: sr), rfl, SqL.of hD5, Nat.succ_pos _, fun m2 hm2 _ => ?_⟩
                      have e1 := only m1 hm1
                      have e2 := only m2 hm2
                      subst e1
                      rw [e2]
                      refine ⟨rfl, _, rfl, iteN (fun z => absurd rfl z) (fun _ => ?_)⟩
                      -- append
                      refine ⟨.ref du, rfl, .inl ⟨rfl, _, SqL.of c3⟩, .int c, rfl, .ref D, rfl, D, _, rfl, .inl (SqL.of hD5), .ref D, rfl, D, _, 0, .int s0, rfl, rfl, SqL.of hD5, atI_nat (j := 0) rfl, (by show 3 ≤ sizeLine; decide), fun t nt => ?_⟩
                      have el : (((zl (s0 :: sr)).map V.int).length : Int) = ((sr.length + 1 : Nat) : Int) := by
                        unfold zl
                        rw [List.length_map, List.length_map]
                        rfl
                      rw [el]
                      have ht6 : (upd H5 t (.tup (tv (c, sr.length + 1, s0)))) t = some (.tup (tv (c, sr.length + 1, s0))) := upd_same
                      have g1 : ∀ b o, H2 b = some o → (upd H5 t (.tup (tv (c, sr.length + 1, s0)))) b = some o := fun b o z => by rw [upd_ne (ne_of_none (c1 _ _ z) nt)]; exact c1 _ _ z
                      have g2 : (upd H5 t (.tup (tv (c, sr.length + 1, s0)))) ld = some (.lst (nl (ldivs L))) := by rw [upd_ne (ne_of_none c2 nt)]; exact c2
                      have g3 : (upd H5 t (.tup (tv (c, sr.length + 1, s0)))) du = some (.lst (rl ds)) := by rw [upd_ne (ne_of_none c3 nt)]; exact c3
                      have g4 : Tups (upd H5 t (.tup (tv (c, sr.length + 1, s0)))) ds dt := c4.same fun b xs z => by rw [upd_ne (ne_of_none z nt)]; exact z
                      refine ⟨du, _, _, rfl, rfl, g3, szl (by unfold rl; rw [List.length_map, g4.len]; omega), ?_⟩
                      refine ⟨ds ++ [t], _, _, _, rfl, hx', fun b o z => ?_, ?_, ?_, ?_⟩
                      · rw [upd_ne (ne_of_none z ndu)]
                        exact g1 b o z
                      · rw [upd_ne nlu]
                        exact g2
                      · rw [upd_same]
                        unfold rl
                        rw [List.map_append]
                        rfl
                      · refine (g4.app (.cons ht6 .nil)).same fun b xs z => ?_
                        rw [upd_ne (ne_of z g3 (fun k => nomatch k))]
                        exact z
                    · rw [if_neg hc] at hx'
                      exact nomatch hx'
              · obtain ⟨ds, dt, y5, y6, rfl, hx, a1, a2, a3, a4⟩ := h
                have edt : dt = due := Option.some.inj hx
                subst edt
                have s3 : Same H H' := fun b o z => a1 _ _ (s12 _ _ z)
                refine ⟨.int L, rfl, L, ix, rfl, h1, by omega, hix, fun H5 s5 => ?_⟩
                refine ⟨.int L, rfl, L, dt, rfl, h1, by omega, hed, fun H6 pt as6 s6 npt hpt6 tu6 => ?_⟩
                refine ⟨(by show 2 ≤ sizeLine; decide), fun l1 nl1 => ?_⟩
                have s7 : Same H' (upd H6 l1 (.lst [.int ix, .ref pt])) := same_upd (s5.trans s6) ((s5.trans s6).free nl1)
                have hl1 : (upd H6 l1 (.lst [.int ix, .ref pt])) l1 = some (.lst [.int ix, .ref pt]) := upd_same
                have hpt7 : (upd H6 l1 (.lst [.int ix, .ref pt])) pt = some (.tup (rl as6)) := by rw [upd_ne (ne_of_none hpt6 nl1)]; exact hpt6
                have tu7 : Tups (upd H6 l1 (.lst [.int ix, .ref pt])) as6 dt := tu6.same fun b xs z => by rw [upd_ne (ne_of_none z nl1)]; exact z
                generalize upd H6 l1 (.lst [.int ix, .ref pt]) = H7 at s7 hl1 hpt7 tu7
                refine ⟨.int ix, rfl, .ref du, rfl, du, rl ds, rfl, .inl ⟨SqL.of (s7 _ _ a3), fun t2 nt2 => ?_⟩⟩
                refine ⟨(by show 2 ≤ sizeLine; decide), fun l2 nl2 => ?_⟩
                have k8 : Same H7 (upd H7 t2 (.tup (rl ds))) := same_new nt2
                have k9 : Same H7 (upd (upd H7 t2 (.tup (rl ds))) l2 (.lst [.int ix, .ref t2])) := same_upd k8 (k8.free nl2)
                have n2 : t2 ≠ l2 := fun z => by
                  rw [← z, upd_same] at nl2
                  exact nomatch nl2
                have ht2 : (upd (upd H7 t2 (.tup (rl ds))) l2 (.lst [.int ix, .ref t2])) t2 = some (.tup (rl ds)) := by rw [upd_ne n2, upd_same]
                refine ⟨l1, l2, dat ix dt, rfl, dp_dat (k9 _ _ hl1) (k9 _ _ hpt7) (tu7.same fun b xs z => k9 _ _ z), dp_dat upd_same ht2 (a4.same fun b xs z => k9 _ _ (s7 _ _ z)), d1, d2, d3, d4, ?_⟩
                exact q _ ((s3.trans s7).trans k9)
end
end K26
namespace K26
open PySem PySem.Spec PyProof.Rows L2
theorem lixLoop_succ (f ix rest p : Nat) : lixLoop (f + 1) ix rest p =
    if 1 < rest then
      if 1 ≤ p ∧ p ≤ 1000 ∧ ix ≤ 1000000 then
        if rest % p = 0 then
          match strip p 30 rest with
          | none => none
          | some m => lixLoop f (ix / p * (p + 1)) m (p + 1)
        else lixLoop f ix rest (p + 1)
      else none
    else some ix := rfl
def ws (e : List Tri) : List Nat := e.map fun t => t.2.1 * t.2.2
theorem ws_sum : ∀ e : List Tri, (zl (ws e)).sum = ((wsum e : Nat) : Int)
  | [] => rfl
  | t :: r => by
    show ((t.2.1 * t.2.2 : Nat) : Int) + (zl (ws r)).sum = ((t.2.1 * t.2.2 + wsum r : Nat) : Int)
    rw [ws_sum r, Int.natCast_add]
section
variable {P : Program} {w : World} {K : PySem.W.Frag} {mg : Str → Option Value} {base : Heap}
def spTold : Sp := fun vs H Q _ => ∃ L : Nat, vs = [.int L] ∧ 1 ≤ L ∧ L ≤ 400 ∧ ∀ H', Same H H' → Q (.bl true) H'
theorem c_told (T : Txt K mg) : CalG P w K mg base 6 "_law_is_told_right" spTold := T.ltold.calG fun f fd F => by
  have sc : FnScope ["_law_level", "_law_due", "_law_index", "_law_rest", "_law_p", "_law_c", "_law_many", "_law_width"] ["_law_level"] (defScope (topS 30)) :=
    ⟨rfl, rfl, rfl, by decide +kernel, rfl, by decide +kernel, by decide +kernel⟩
  refine okG F sc (fun vs H Q E h => ?_) (fun cdv A outer s H vs Q E hg hr h => ?_)
  · obtain ⟨L, rfl, _⟩ := h
    rfl
  · obtain ⟨L, rfl, h1, h2, q⟩ := h
    have htl : told L = true := by
      have := List.all_eq_true.mp told_all L (by rw [List.mem_range']; exact ⟨L - 1, by omega, by omega⟩)
      exact this
    unfold told at htl
    cases hix : idx L with
    | none =>
      simp only [hix] at htl
      exact nomatch htl
    | some ix =>
      cases hed : edg L with
      | none =>
        simp only [hix, hed] at htl
        exact nomatch htl
      | some e =>
        cases hle : ledg L with
        | none =>
          simp only [hix, hed, hle] at htl
          exact nomatch htl
        | some le =>
          cases hli : lix L with
          | none =>
            simp only [hix, hed, hle, hli] at htl
            exact nomatch htl
          | some li =>
            simp only [hix, hed, hle, hli, Bool.and_eq_true, decide_eq_true_eq, beq_iff_eq] at htl
            obtain ⟨⟨⟨⟨hi6, hsm⟩, e1⟩, e2⟩, hw⟩ := htl
            subst e1 e2
            obtain ⟨d1, d2, d3, d4⟩ := dat_ok hi6 hsm
            obtain ⟨he50, hsmall⟩ := small_of hsm
            refine ⟨_, pss_cons (ps_asg (pe_tup (pa_cons (C8.pe_c (c_ledges T) hr (by decide) (by rfl) (pa_cons (pv 0) pa_nil)) (pa_cons (pv 0) (pa_cons (pv 0) (pa_cons pe_int pa_nil)))))
                (pg_tup rfl (pgs_cons (pg_name (i := 1) sc.nd rfl (.inl rfl)) (pgs_cons (pg_name (i := 2) sc.nd rfl (.inl rfl)) (pgs_cons (pg_name (i := 3) sc.nd rfl (.inl rfl)) (pgs_cons (pg_name (i := 4) sc.nd rfl (.inl rfl)) pgs_nil))))))
              (pss_cons (ps_while PassesOwn.never (pt_cmpR op_gt (pv 3) pe_int (nomark _))
                (C8.pss_cut (ps_if (pt_cmpR op_eq (pe_op op_mod (pe_callTy call_int1 (by rfl) T.bint (by decide +kernel) (pa_cons (pv 3) pa_nil)) (pv 4)) pe_int (nomark _))
                  (pss_cons (ps_set (i := 2) sc.nd rfl (.inl rfl) (pe_op op_mul (pe_op op_fdiv (pv 2) (pv 4)) (pe_op op_add (pv 4) pe_int)))
                  (pss_one (ps_while PassesOwn.never (pt_cmpR op_eq (pe_op op_mod (pe_callTy call_int1 (by rfl) T.bint (by decide +kernel) (pa_cons (pv 3) pa_nil)) (pv 4)) pe_int (nomark _))
                    (pss_one (ps_set (i := 3) sc.nd rfl (.inl rfl) (pe_op op_fdiv (pv 3) (pv 4))))))) pss_nil)
                (pss_one (ps_set (i := 4) sc.nd rfl (.inl rfl) (pe_op op_add (pv 4) pe_int)))))
              (pss_cons (ps_if (pt_not (pt_val (peG (c_same T) (by exact hg) hr (by decide) (by rfl)
                  (pa_cons (pe_lst (pa_cons (peKw (c_index T) hr (by decide) (by rfl) (pv 0)) (pa_cons (C8.pe_c (c_edges T).cal hr (by decide) (by rfl) (pa_cons (pv 0) pa_nil)) pa_nil)))
                  (pa_cons (pe_lst (pa_cons (pv 2) (pa_cons (pe_callTy call_tuple_of (by rfl) T.btuple (by decide +kernel) (pa_cons (pv 1) pa_nil)) pa_nil))) pa_nil)))))
                (pss_one (ps_ret pe_bl)) pss_nil)
              (pss_one (ps_ret (pe_cmpR op_eq (pe_callB (cr_sum rfl) (by rfl) T.bsum (by decide +kernel) (pa_cons
                (pe_lc (own := [("_law_c", 5), ("_law_many", 6), ("_law_width", 7)]) (g := gTup K 3 (gCons (gName 5) (gCons (gName 6) (gCons (gName 7) gNil)))) rfl sc.nd (pi_list (pv 1))
                  (blkOk_by (own := [("_law_c", 5), ("_law_many", 6), ("_law_width", 7)]) (N := ["_law_level", "_law_due", "_law_index", "_law_rest", "_law_p", "_law_c", "_law_many", "_law_width"]) (sc := defScope (topS 30)) (by decide +kernel))
                  (fun _ _ _ _ _ => by exact pg_tup rfl (pgs_cons (pg_name (i := 5) sc.nd rfl (Or.inl rfl)) (pgs_cons (pg_name (i := 6) sc.nd rfl (Or.inl rfl)) (pgs_cons (pg_name (i := 7) sc.nd rfl (Or.inl rfl)) pgs_nil))))
                  (fun _ _ _ _ _ => pts_nil) (fun _ _ _ _ _ => pe_op op_mul (pv 6) (pv 7))) pa_nil)) (pv 2) (nomark _)))))), ?_⟩
            refine ⟨.int L, rfl, L, e, rfl, by omega, hle, fun H1 du as s1 ndu hdu tu => ?_⟩
            refine ⟨.int L, rfl, .int L, rfl, (by show 4 ≤ sizeLine; decide), fun p np => ?_⟩
            have s2 : Same H (upd H1 p (.tup [.ref du, .int L, .int L, .int 2])) := same_upd s1 (s1.free np)
            have hdu2 : (upd H1 p (.tup [.ref du, .int L, .int L, .int 2])) du = some (.lst (rl as)) := by rw [upd_ne (ne_of_none hdu np)]; exact hdu
            have tu2 : Tups (upd H1 p (.tup [.ref du, .int L, .int L, .int 2])) as e := tu.same fun b xs z => by rw [upd_ne (ne_of_none z np)]; exact z
            have hp2 : (upd H1 p (.tup [.ref du, .int L, .int L, .int 2])) p = some (.tup [.ref du, .int L, .int L, .int 2]) := upd_same
            generalize upd H1 p (.tup [.ref du, .int L, .int L, .int 2]) = H2 at s2 hdu2 tu2 hp2
            refine ⟨p, _, rfl, SqT.of hp2, rfl, _, _, rfl, _, _, rfl, _, _, rfl, _, _, rfl, rfl, ?_⟩
            have hlx : lixLoop 410 L L 2 = some ix := hli
            -- the index by the law
            refine ⟨fun m σ H' => H' = H2 ∧ ∃ x r p : Nat, σ = [some (.int L), some (.ref du), some (.int x), some (.int r), some (.int p), none, none, none] ∧ lixLoop m x r p = some ix,
              ⟨410, rfl, L, L, 2, rfl, hlx⟩, fun m σ H' hW => ?_⟩
            obtain ⟨rfl, x, r, pp, rfl, hx⟩ := hW
            cases m with
            | zero => exact nomatch hx
            | succ m =>
              rw [lixLoop_succ] at hx
              refine ⟨.int r, rfl, r, 1, rfl, rfl, _, rfl, iteD (fun hc => ?_) (fun hc => ?_)⟩
              · rw [if_pos (show 1 < r by omega)] at hx
                by_cases hcond : 1 ≤ pp ∧ pp ≤ 1000 ∧ x ≤ 1000000
                · rw [if_pos hcond] at hx
                  obtain ⟨k1, k2, k3⟩ := hcond
                  refine ⟨fun σ' H3 => H3 = H' ∧ ∃ x r p : Nat, σ' = [some (.int L), some (.ref du), some (.int x), some (.int r), some (.int p), none, none, none] ∧ lixLoop m x r p = some ix,
                    fun σ' H3 hN => ⟨m, Nat.lt_succ_self m, hN⟩, ?_⟩
                  refine ⟨fun σ' H3 => H3 = H' ∧ ∃ x r : Nat, σ' = [some (.int L), some (.ref du), some (.int x), some (.int r), some (.int pp), none, none, none] ∧ lixLoop m x r (pp + 1) = some ix, ?_, ?_⟩
                  · refine ⟨.int r, rfl, .inl ⟨r, rfl, .int pp, rfl, r, pp, rfl, rfl, (by show (0 : Int) < pp; omega), rfl, _, rfl, iteV (fun e4 => ?_) (fun e4 => ?_)⟩⟩
                    · have e5 : r % pp = 0 := by
                        have e6 : ((r % pp : Nat) : Int) = 0 := e4
                        omega
                      rw [if_pos e5] at hx
                      cases hs : strip pp 30 r with
                      | none =>
                        rw [hs] at hx
                        exact nomatch hx
                      | some y =>
                        rw [hs] at hx
                        have hx2 : lixLoop m (x / pp * (pp + 1)) y (pp + 1) = some ix := hx
                        have hxd : x / pp ≤ x := Nat.div_le_self _ _
                        refine ⟨.int x, rfl, .int pp, rfl, x, pp, rfl, rfl, cdiv (by omega) (by omega), .int pp, rfl, pp, 1, rfl, rfl, ((x / pp : Nat) : Int), ((pp + 1 : Nat) : Int), rfl, rfl, cmulN (a := x / pp) (by omega), ?_⟩
                        refine ⟨fun j σ2 H3 => H3 = H' ∧ ∃ z : Nat, σ2 = [some (.int L), some (.ref du), some (.int ((x / pp * (pp + 1) : Nat) : Int)), some (.int z), some (.int pp), none, none, none] ∧ strip pp j z = some y,
                          ⟨30, rfl, r, rfl, hs⟩, fun j σ2 H3 hW => ?_⟩
                        obtain ⟨rfl, z, rfl, hz⟩ := hW
                        cases j with
                        | zero => exact nomatch hz
                        | succ j =>
                          rw [strip_succ] at hz
                          refine ⟨.int z, rfl, .inl ⟨z, rfl, .int pp, rfl, z, pp, rfl, rfl, (by show (0 : Int) < pp; omega), rfl, _, rfl, iteV (fun e6 => ?_) (fun e6 => ?_)⟩⟩
                          · have e7 : z % pp = 0 := by
                              have e8 : ((z % pp : Nat) : Int) = 0 := e6
                              omega
                            rw [if_pos e7] at hz
                            refine ⟨fun σ3 H4 => H4 = H3 ∧ ∃ z : Nat, σ3 = [some (.int L), some (.ref du), some (.int ((x / pp * (pp + 1) : Nat) : Int)), some (.int z), some (.int pp), none, none, none] ∧ strip pp j z = some y,
                              fun σ3 H4 hN => ⟨j, Nat.lt_succ_self j, hN⟩, ?_⟩
                            exact ⟨.int z, rfl, .int pp, rfl, z, pp, rfl, rfl, cdiv (by omega) (by omega), rfl, z / pp, rfl, hz⟩
                          · have e7 : ¬ z % pp = 0 := fun k => e6 (by
                              show ((z % pp : Nat) : Int) = 0
                              omega)
                            rw [if_neg e7] at hz
                            have ez : z = y := Option.some.inj hz
                            subst ez
                            exact ⟨rfl, _, z, rfl, hx2⟩
                    · have e5 : ¬ r % pp = 0 := fun k => e4 (by
                        show ((r % pp : Nat) : Int) = 0
                        omega)
                      rw [if_neg e5] at hx
                      exact ⟨rfl, x, r, rfl, hx⟩
                  · rintro σ2 H3 ⟨rfl, x2, r2, rfl, hx2⟩
                    exact ⟨.int pp, rfl, pp, 1, rfl, rfl, rfl, x2, r2, pp + 1, rfl, hx2⟩
                · rw [if_neg hcond] at hx
                  exact nomatch hx
              · rw [if_neg (show ¬ 1 < r by omega)] at hx
                have exi : x = ix := Option.some.inj hx
                subst exi
                -- the comparison
                refine ⟨.int L, rfl, L, x, rfl, h1, h2, hix, fun H5 s5 => ?_⟩
                refine ⟨.int L, rfl, L, e, rfl, h1, h2, hed, fun H6 pt as6 s6 npt hpt6 tu6 => ?_⟩
                refine ⟨(by show 2 ≤ sizeLine; decide), fun l1 nl1 => ?_⟩
                have s7 : Same H' (upd H6 l1 (.lst [.int x, .ref pt])) := same_upd (s5.trans s6) ((s5.trans s6).free nl1)
                have hl1 : (upd H6 l1 (.lst [.int x, .ref pt])) l1 = some (.lst [.int x, .ref pt]) := upd_same
                have hpt7 : (upd H6 l1 (.lst [.int x, .ref pt])) pt = some (.tup (rl as6)) := by rw [upd_ne (ne_of_none hpt6 nl1)]; exact hpt6
                have tu7 : Tups (upd H6 l1 (.lst [.int x, .ref pt])) as6 e := tu6.same fun b xs z => by rw [upd_ne (ne_of_none z nl1)]; exact z
                generalize upd H6 l1 (.lst [.int x, .ref pt]) = H7 at s7 hl1 hpt7 tu7
                refine ⟨.int x, rfl, .ref du, rfl, du, rl as, rfl, .inl ⟨SqL.of (s7 _ _ hdu2), fun t2 nt2 => ?_⟩⟩
                refine ⟨(by show 2 ≤ sizeLine; decide), fun l2 nl2 => ?_⟩
                have k8 : Same H7 (upd H7 t2 (.tup (rl as))) := same_new nt2
                have k9 : Same H7 (upd (upd H7 t2 (.tup (rl as))) l2 (.lst [.int x, .ref t2])) := same_upd k8 (k8.free nl2)
                have n2 : t2 ≠ l2 := fun z => by
                  rw [← z, upd_same] at nl2
                  exact nomatch nl2
                have ht2 : (upd (upd H7 t2 (.tup (rl as))) l2 (.lst [.int x, .ref t2])) t2 = some (.tup (rl as)) := by rw [upd_ne n2, upd_same]
                refine ⟨l1, l2, dat x e, rfl, dp_dat (k9 _ _ hl1) (k9 _ _ hpt7) (tu7.same fun b xs z => k9 _ _ z), dp_dat upd_same ht2 (tu2.same fun b xs z => k9 _ _ (s7 _ _ z)), d1, d2, d3, d4, ?_⟩
                have k10 : Same H' (upd (upd H7 t2 (.tup (rl as))) l2 (.lst [.int x, .ref t2])) := s7.trans k9
                generalize upd (upd H7 t2 (.tup (rl as))) l2 (.lst [.int x, .ref t2]) = H8 at k10
                refine ⟨true, rfl, iteF ?_⟩
                -- the widths' sum
                obtain ⟨ps, ea, eo, hps⟩ := unz (tu2.same fun b xs z => k10 _ _ z)
                have hdu8 := k10 _ _ hdu2
                refine ⟨.ref du, rfl, du, rfl, ⟨_, SqL.of hdu8⟩, fun D nD => ?_⟩
                refine lcRest (f := fun q : Addr × Tri => V.ref q.1) (xs := ps) (fun r H9 => ∃ done, done ++ r = ps ∧ H9 = upd H8 D (.lst (nl (ws (done.map (·.2))))))
                  ⟨[], rfl, rfl⟩ (fun r H9 h => ?_) (fun y r H9 h => ?_) (fun H9 h => ?_)
                · obtain ⟨done, _, rfl⟩ := h
                  refine SqL.of ?_
                  rw [upd_ne (ne_of_none hdu8 nD), hdu8]
                  unfold rl
                  rw [← ea, List.map_map]
                  rfl
                · obtain ⟨done, ed, rfl⟩ := h
                  have hy1 : y ∈ ps := by
                    rw [← ed]
                    exact List.mem_append_right _ List.mem_cons_self
                  have hyt := hps y hy1
                  have hyt2 : (upd H8 D (.lst (nl (ws (done.map (·.2)))))) y.1 = some (.tup (tv y.2)) := by rw [upd_ne (ne_of_none hyt nD)]; exact hyt
                  have hye : y.2 ∈ e := by
                    rw [← eo]
                    exact List.mem_map.mpr ⟨y, hy1, rfl⟩
                  obtain ⟨m1, m2, m3⟩ := hsmall y.2 hye
                  have hle1 : done.length ≤ e.length := by
                    rw [← eo, ← ed, List.map_append, List.length_append, List.length_map]
                    exact Nat.le_add_right _ _
                  refine ⟨y.1, _, rfl, SqT.of hyt2, rfl, _, _, rfl, _, _, rfl, _, _, rfl, rfl, rfl, ?_⟩
                  refine ⟨.int y.2.2.1, rfl, .int y.2.2.2, rfl, y.2.2.1, y.2.2.2, rfl, rfl, cmulN (by omega), ?_⟩
                  refine ⟨_, upd_same, szl (by unfold ws; rw [nl_len, List.length_map, List.length_map]; omega), done ++ [y], ?_, ?_⟩
                  · rw [List.append_assoc]
                    exact ed
                  · rw [upd2, List.map_append]
                    unfold ws
                    rw [List.map_append, nl_app]
                    have ep : ((y.2.2.1 : Int) * (y.2.2.2 : Int)) = ((y.2.2.1 * y.2.2.2 : Nat) : Int) := (Int.natCast_mul _ _).symm
                    show upd H8 D (.lst (_ ++ [V.int ((y.2.2.1 : Int) * (y.2.2.2 : Int))])) = _
                    rw [ep]
                    rfl
                · obtain ⟨done, ed, rfl⟩ := h
                  rw [List.append_nil] at ed
                  subst ed
                  rw [eo]
                  refine ⟨D, zl (ws e), rfl, SqL.of (by rw [upd_same, nl_zl]), ?_⟩
                  rw [ws_sum, hw]
                  refine ⟨.int x, rfl, rfl, ?_⟩
                  show Q (.bl (decide (V.int (x : Int) = V.int (x : Int)))) _
                  rw [decide_eq_true rfl]
                  exact q _ (same_upd (s2.trans k10) ((s2.trans k10).free nD))
end
end K26
namespace K26
open PySem PySem.Spec PyProof.Rows L2
/-! ## what sorting leaves -/
theorem perm_pre {α β : Type} {f : α → β} {l m : List β} (h : l.Perm m) : ∀ xs : List α, xs.map f = m → ∃ ys : List α, ys.Perm xs ∧ ys.map f = l := by
  induction h with
  | nil => exact fun xs e => ⟨xs, .refl _, e⟩
  | @cons x l m _ ih =>
    intro xs e
    cases xs with
    | nil => exact nomatch e
    | cons a r =>
      injection e with e1 e2
      obtain ⟨ys, p, q⟩ := ih r e2
      exact ⟨a :: ys, p.cons a, by rw [List.map_cons, e1, q]⟩
  | swap x y l =>
    intro xs e
    cases xs with
    | nil => exact nomatch e
    | cons a r =>
      cases r with
      | nil =>
        injection e with _ e2
        exact nomatch e2
      | cons b r =>
        injection e with e1 e2
        injection e2 with e2 e3
        exact ⟨b :: a :: r, .swap a b r, by rw [List.map_cons, List.map_cons, e1, e2, e3]⟩
  | trans _ _ ih1 ih2 =>
    intro xs e
    obtain ⟨ys, p, q⟩ := ih2 xs e
    obtain ⟨zs, p2, q2⟩ := ih1 ys q
    exact ⟨zs, p2.trans p, q2⟩
theorem one_order : ∀ (e a : List Tri), a.Perm e → a.Pairwise (fun x y => code x ≤ code y) → e.Pairwise (fun x y => code x < code y) → a = e
  | [], a, p, _, _ => p.eq_nil
  | x :: e, [], p, _, _ => absurd p.symm.eq_nil (List.cons_ne_nil _ _)
  | x :: e, y :: a, p, ha, he => by
    have ha' := List.pairwise_cons.mp ha
    have he' := List.pairwise_cons.mp he
    have hy : y ∈ x :: e := p.mem_iff.mp List.mem_cons_self
    have hx : x ∈ y :: a := p.mem_iff.mpr List.mem_cons_self
    have exy : y = x := by
      rcases List.mem_cons.mp hy with z | z
      · exact z
      · have h1 := he'.1 y z
        rcases List.mem_cons.mp hx with k | k
        · exact k.symm
        · have h2 := ha'.1 x k
          omega
    subst exy
    rw [one_order e a (List.Perm.cons_inv p) ha'.2 he'.2]
theorem rising_low : ∀ (e : List Tri) (x : Tri), rising (x :: e) = true → (∀ y ∈ e, code x < code y) ∧ e.Pairwise (fun x y => code x < code y)
  | [], x, _ => ⟨fun y hy => (nomatch hy), .nil⟩
  | y :: e, x, h => by
    have h' : (decide (code x < code y) && rising (y :: e)) = true := h
    rw [Bool.and_eq_true, decide_eq_true_eq] at h'
    obtain ⟨a1, a2⟩ := rising_low e y h'.2
    refine ⟨fun z hz => ?_, .cons a1 a2⟩
    rcases List.mem_cons.mp hz with rfl | hz
    · exact h'.1
    · exact Nat.lt_trans h'.1 (a1 z hz)
theorem rising_pw {e : List Tri} (h : rising e = true) : e.Pairwise (fun x y => code x < code y) := by
  cases e with
  | nil => exact .nil
  | cons x e => exact .cons (rising_low e x h).1 (rising_low e x h).2
/-- a triple's ints -/
def ti (t : Tri) : List Int := [(t.1 : Int), (t.2.1 : Int), (t.2.2 : Int)]
theorem ti_code (t : Tri) : TS.code 1001 (ti t) = ((code t : Nat) : Int) := by
  have e2 : (1001 : Int) ^ 2 = 1002001 := by decide
  have e1 : (1001 : Int) ^ 1 = 1001 := by decide
  have e0 : (1001 : Int) ^ 0 = 1 := by decide
  show (t.1 : Int) * 1001 ^ 2 + ((t.2.1 : Int) * 1001 ^ 1 + ((t.2.2 : Int) * 1001 ^ 0 + 0)) = (((t.1 * 1001 + t.2.1) * 1001 + t.2.2 : Nat) : Int)
  rw [e2, e1, e0]
  omega
theorem ti_bd {t : Tri} (h : t.1 ≤ 1000 ∧ t.2.1 ≤ 1000 ∧ t.2.2 ≤ 1000) : TS.Bd 1001 (ti t) := by
  intro x hx
  rcases List.mem_cons.mp hx with rfl | hx
  · omega
  rcases List.mem_cons.mp hx with rfl | hx
  · omega
  rcases List.mem_cons.mp hx with rfl | hx
  · omega
  · exact nomatch hx
theorem tups_zip {H : Hp} : ∀ ps : List (Addr × Tri), (∀ q ∈ ps, H q.1 = some (.tup (tv q.2))) → Tups H (ps.map (·.1)) (ps.map (·.2))
  | [], _ => .nil
  | q :: r, h => .cons (h q List.mem_cons_self) (tups_zip r fun z hz => h z (List.mem_cons_of_mem _ hz))
/-- a sorted rearrangement of the products is the rising list -/
theorem sorted_is {K : PySem.W.Frag} {H : Hp} {ps : List (Addr × Tri)} {e : List Tri} {ys : List V} (hps : ∀ q ∈ ps, H q.1 = some (.tup (tv q.2))) (hp : (ps.map (·.2)).isPerm e = true) (hr : rising e = true)
    (h1 : ys.Perm (ps.map fun q => V.ref q.1)) (h2 : ys.Pairwise fun x y => ∀ n m, TupI K H x n → TupI K H y m → TS.code 1001 n ≤ TS.code 1001 m) : ∃ as, ys = rl as ∧ Tups H as e := by
  obtain ⟨qs, p, q⟩ := perm_pre (f := fun q : Addr × Tri => V.ref q.1) h1 ps rfl
  have hqs : ∀ z ∈ qs, H z.1 = some (.tup (tv z.2)) := fun z hz => hps z (p.mem_iff.mp hz)
  have e1 : qs.map (·.2) = e := by
    refine one_order e _ ((p.map _).trans (List.isPerm_iff.mp hp)) ?_ (rising_pw hr)
    rw [List.pairwise_map]
    rw [← q, List.pairwise_map] at h2
    refine List.Pairwise.imp_of_mem (fun {a b} ha hb h => ?_) h2
    have h3 := h (ti a.2) (ti b.2) ⟨a.1, rfl, SqT.of (hqs a ha)⟩ ⟨b.1, rfl, SqT.of (hqs b hb)⟩
    rw [ti_code, ti_code] at h3
    omega
  refine ⟨qs.map (·.1), ?_, ?_⟩
  · rw [← q]
    unfold rl
    rw [List.map_map]
    rfl
  · rw [← e1]
    exact tups_zip qs hqs
end K26
namespace K26
open PySem PySem.Spec PyProof.Rows L2
/-- a tuple's loop by what is left of it -/
theorem forRestT {α : Type} {K : PySem.W.Frag} {a : Addr} {f : α → V} {xs : List α} {g : TG} {tb : TS} {D : Ends} {σ : L2.St} {H : Hp}
    (Pr : List α → L2.St → Hp → Prop) (h0 : Pr xs σ H) (hl : ∀ r σ H, Pr r σ H → SqT K H a (xs.map f))
    (hs : ∀ x r σ H, Pr (x :: r) σ H → g (f x) σ H fun σ2 H2 => tb { D with nx := Pr r, ct := Pr r, bk := D.nx } σ2 H2)
    (hd : ∀ σ H, Pr [] σ H → D.nx σ H) : tFor (fun _ H R => R (Itt K a) H) g tb D σ H := by
  refine for_tup (xs := xs.map f) (fun i σ H => Pr (xs.drop i) σ H) h0 (fun i σ H _ h => hl _ σ H h) (fun i x σ H e h => ?_) (fun σ H h => hd σ H ?_)
  · rw [List.getElem?_map] at e
    cases q : xs[i]? with
    | none =>
      rw [q] at e
      exact nomatch e
    | some y =>
      rw [q] at e
      have ey : f y = x := Option.some.inj e
      have hi : i < xs.length := (List.getElem?_eq_some_iff.mp q).1
      have hy : xs[i] = y := (List.getElem?_eq_some_iff.mp q).2
      have hd : xs.drop i = y :: xs.drop (i + 1) := by rw [List.drop_eq_getElem_cons hi, hy]
      rw [← ey]
      have h2 : Pr (xs.drop i) σ H := h
      rw [hd] at h2
      exact hs y _ σ H h2
  · have h2 : Pr (xs.drop (xs.map f).length) σ H := h
    rw [List.length_map, List.drop_length] at h2
    exact h2
theorem Deck.new {H : Hp} {d l t : Addr} {c : Nat} {o : HO} (D : Deck H d l c) (n : H t = none) : Deck (upd H t o) d l c := by
  obtain ⟨kvs, m, ls, a1, a2, a3, a4, a5, a6, a7⟩ := D
  refine ⟨kvs, m, ls, ?_, a2, a3, a4, a5, ?_, a7⟩
  · rw [upd_ne (ne_of_none a1 n)]
    exact a1
  · rw [upd_ne (ne_of_none a6 n)]
    exact a6
/-- the product of two triples -/
def pT (t u : Tri) : Tri := (t.1 * u.1, t.2.1 * u.2.1, t.2.2 * u.2.2)
theorem prod_app (a b e : List Tri) : prod (a ++ b) e = prod a e ++ prod b e := List.flatMap_append
theorem prod_one (t : Tri) (e : List Tri) : prod [t] e = e.map (pT t) := by
  show (e.map fun u => (t.1 * u.1, t.2.1 * u.2.1, t.2.2 * u.2.2)) ++ [] = _
  rw [List.append_nil]
  rfl
section
variable {P : Program} {w : World} {K : PySem.W.Frag} {mg : Str → Option Value} {base : Heap}
def spLaw (K : PySem.W.Frag) : Sp := fun vs H Q _ => ∃ (a : Addr) (ns : List Int), vs = [.ref a] ∧ SqL K H a (ns.map V.int) ∧ ns.length ≤ 63 ∧ ∀ H', Q (.bl true) H'
theorem c_law (T : Txt K mg) {f : Addr} {fd : FuncData} (F : Fun K "law" "law" (topS 31) f fd) : FnG P w K mg base 8 f fd ["_law_script"] (spLaw K) := by
  have sc : FnScope ["_law_script", "_law_deck_here", "_law_small", "_law_one", "_law_other", "_law_level", "_law_due", "_law_c", "_law_many", "_law_width", "_law_both", "_law_d", "_law_more", "_law_far"] ["_law_script"] (defScope (topS 31)) :=
    ⟨rfl, rfl, rfl, by decide +kernel, rfl, by decide +kernel, by decide +kernel⟩
  refine okG F sc (fun vs H Q E h => ?_) (fun cdv A outer s H vs Q E hg hr h => ?_)
  · obtain ⟨L, _, rfl, _⟩ := h
    rfl
  · obtain ⟨a, ns, rfl, hS, hl, q⟩ := h
    refine ⟨_, pss_cons (ps_set (i := 1) sc.nd rfl (.inl rfl) (C8.pe_c (c_deck T) hr (by decide) (by rfl) (pa_cons (pv 0) pa_nil)))
      (C8.pss_cut (ps_set (i := 2) sc.nd rfl (.inl rfl) (pe_op op_add pe_int (C8.pe_c (c_draw T) hr (by decide) (by rfl) (pa_cons (pv 1)
        (pa_cons (pe_ifExp (pt_cmpR op_eq (C8.pe_c (c_draw T) hr (by decide) (by rfl) (pa_cons (pv 1) (pa_cons pe_int pa_nil))) pe_int (nomark _)) pe_int pe_int) pa_nil)))))
      (C8.pss_cut (ps_par (i := 3) (j := 4) rfl sc.nd rfl rfl (by decide) rfl rfl
        (pa_cons (pe_op op_add pe_int (C8.pe_c (c_draw T) hr (by decide) (by rfl) (pa_cons (pv 1) (pa_cons pe_int pa_nil))))
        (pa_cons (pe_op op_add pe_int (C8.pe_c (c_draw T) hr (by decide) (by rfl) (pa_cons (pv 1) (pa_cons pe_int pa_nil)))) pa_nil)) (by rfl))
      (pss_cons (ps_if (pt_not (pt_val (peG (c_count T) (by exact hg) hr (by decide) (by rfl) (pa_cons (pv 2) pa_nil)))) (pss_one (ps_ret pe_bl)) pss_nil)
      (pss_cons (ps_for PassesOwn.never rfl (pi_tup (pe_tup (pa_cons (pv 2) (pa_cons (pv 3) (pa_cons (pv 4)
          (pa_cons (pe_op op_add pe_int (C8.pe_c (c_draw T) hr (by decide) (by rfl) (pa_cons (pv 1) (pa_cons pe_int pa_nil))))
          (pa_cons (C8.pe_c (c_pick T) hr (by decide) (by rfl) (pa_cons (pv 1) (pa_cons (pe_tup (pa_cons pe_int (pa_cons pe_int (pa_cons pe_int (pa_cons pe_int (pa_cons pe_int (pa_cons pe_int (pa_cons pe_int (pa_cons pe_int pa_nil))))))))) pa_nil))) pa_nil)))))))
          (pg_name (i := 5) sc.nd rfl (.inl rfl))
        (pss_one (ps_if (pt_not (pt_val (peG (c_told T) (by exact hg) hr (by decide) (by rfl) (pa_cons (pv 5) pa_nil)))) (pss_one (ps_ret pe_bl)) pss_nil)))
      (pss_cons (ps_if (pt_cmpR op_gt (C8.pe_c (c_divr T) hr (by decide) (by rfl) (pa_cons (pv 3) (pa_cons (pv 4) pa_nil))) pe_int (nomark _)) (pss_one (ps_ret pe_bl)) pss_nil)
      (pss_cons (ps_set (i := 6) sc.nd rfl (.inl rfl) (pe_lst pa_nil))
      (pss_cons (ps_for PassesOwn.never rfl (pi_tup (C8.pe_c (c_edges T).cal hr (by decide) (by rfl) (pa_cons (pv 3) pa_nil)))
          (pg_tup rfl (pgs_cons (pg_name (i := 7) sc.nd rfl (.inr rfl)) (pgs_cons (pg_name (i := 8) sc.nd rfl (.inr rfl)) (pgs_cons (pg_name (i := 9) sc.nd rfl (.inr rfl)) pgs_nil))))
        (pss_one (ps_expr (pe_bm PySem.F.plainAttrs_list PySem.F.slot_list_extend PySem.F.type_list_extend mt_extend (pv 6) (pa_cons
          (pe_lc (own := [("_law_d", 11), ("_law_more", 12), ("_law_far", 13)]) (g := gTup K 3 (gCons (gName 11) (gCons (gName 12) (gCons (gName 13) gNil)))) rfl sc.nd
            (pi_tup (C8.pe_c (c_edges T).cal hr (by decide) (by rfl) (pa_cons (pv 4) pa_nil)))
            (blkOk_by (own := [("_law_d", 11), ("_law_more", 12), ("_law_far", 13)]) (N := ["_law_script", "_law_deck_here", "_law_small", "_law_one", "_law_other", "_law_level", "_law_due", "_law_c", "_law_many", "_law_width", "_law_both", "_law_d", "_law_more", "_law_far"]) (sc := defScope (topS 31)) (by decide +kernel))
            (fun _ _ _ _ _ => by exact pg_tup rfl (pgs_cons (pg_name (i := 11) sc.nd rfl (Or.inl rfl)) (pgs_cons (pg_name (i := 12) sc.nd rfl (Or.inl rfl)) (pgs_cons (pg_name (i := 13) sc.nd rfl (Or.inl rfl)) pgs_nil))))
            (fun _ _ _ _ _ => pts_nil)
            (fun _ _ _ _ _ => pe_tup (pa_cons (pe_op op_mul (pv 7) (pv 11)) (pa_cons (pe_op op_mul (pv 8) (pv 12)) (pa_cons (pe_op op_mul (pv 9) (pv 13)) pa_nil))))) pa_nil)))))
      (pss_cons (ps_set (i := 10) sc.nd rfl (.inl rfl) (pe_op op_mul (pv 3) (pv 4)))
      (pss_one (ps_ret (peG (c_same T) (by exact hg) hr (by decide) (by rfl)
        (pa_cons (pe_lst (pa_cons (C8.pe_c (c_index T).cal hr (by decide) (by rfl) (pa_cons (pv 10) pa_nil)) (pa_cons (C8.pe_c (c_edges T).cal hr (by decide) (by rfl) (pa_cons (pv 10) pa_nil)) pa_nil)))
        (pa_cons (pe_lst (pa_cons (pe_op op_mul (C8.pe_c (c_index T).cal hr (by decide) (by rfl) (pa_cons (pv 3) pa_nil)) (C8.pe_c (c_index T).cal hr (by decide) (by rfl) (pa_cons (pv 4) pa_nil)))
          (pa_cons (pe_callTy call_tuple_of (by rfl) T.btuple (by decide +kernel) (pa_cons (pe_callB (cr_sortT (d := 3) (B := 1001) (by decide)) (by rfl) T.bsorted (by decide +kernel) (pa_cons (pv 6) pa_nil)) pa_nil)) pa_nil))) pa_nil))))))))))))), ?_⟩
    refine ⟨.ref a, rfl, a, ns, rfl, hS, hl, fun H1 d l s1 D0 => ?_⟩
    -- the draws
    refine ⟨fun σ' H' => ∃ sm : Nat, 1 ≤ sm ∧ sm ≤ 30 ∧ σ' = [some (.ref a), some (.ref d), some (.int sm), none, none, none, none, none, none, none, none, none, none, none] ∧ Deck H' d l 2, ?_, ?_⟩
    · refine ⟨.ref d, rfl, .ref d, rfl, d, l, 0, 5, rfl, D0, by omega, by omega, by omega, fun H2 r hr5 D1 _ => ?_⟩
      refine ⟨rfl, _, rfl, iteV (fun _ => ?_) (fun _ => ?_)⟩
      · exact ⟨d, l, 1, 30, rfl, D1, by omega, by omega, by omega, fun H3 r3 h3 D2 _ => ⟨1, r3, rfl, rfl, 1 + r3, by omega, by omega, rfl, D2⟩⟩
      · exact ⟨d, l, 1, 18, rfl, D1, by omega, by omega, by omega, fun H3 r3 h3 D2 _ => ⟨1, r3, rfl, rfl, 1 + r3, by omega, by omega, rfl, D2⟩⟩
    rintro σ' H' ⟨sm, sm1, sm2, rfl, D2⟩
    refine ⟨fun σ' H' => ∃ n1 n2 : Nat, 1 ≤ n1 ∧ n1 ≤ 20 ∧ 1 ≤ n2 ∧ n2 ≤ 20 ∧ σ' = [some (.ref a), some (.ref d), some (.int sm), some (.int n1), some (.int n2), none, none, none, none, none, none, none, none, none] ∧ Deck H' d l 4, ?_, ?_⟩
    · refine ⟨.ref d, rfl, d, l, 2, 20, rfl, D2, by omega, by omega, by omega, fun H3 r3 h3 D3 _ => ⟨1, r3, rfl, rfl, ?_⟩⟩
      exact ⟨.ref d, rfl, d, l, 3, 20, rfl, D3, by omega, by omega, by omega, fun H4 r4 h4 D4 _ => ⟨1, r4, rfl, rfl, _, _, rfl, 1 + r3, 1 + r4, by omega, by omega, by omega, by omega, rfl, D4⟩⟩
    clear D2
    rintro σ' H' ⟨n1, n2, n11, n12, n21, n22, rfl, D4⟩
    -- counted
    refine ⟨.int sm, rfl, sm, rfl, sm1, sm2, fun H5 s5 => ⟨true, rfl, iteF ?_⟩⟩
    have D5 : Deck H5 d l 4 := by
      obtain ⟨kvs, m, ls, a1, a2, a3, a4, a5, a6, a7⟩ := D4
      exact ⟨kvs, m, ls, s5 _ _ a1, a2, a3, a4, a5, s5 _ _ a6, a7⟩
    clear D4
    -- told
    refine ⟨.int sm, rfl, .int n1, rfl, .int n2, rfl, .ref d, rfl, d, l, 4, 400, rfl, D5, by omega, by omega, by omega, fun H6 r6 h6 D6 _ => ⟨1, r6, rfl, rfl, ?_⟩⟩
    refine ⟨.ref d, rfl, (by show 8 ≤ sizeLine; decide), fun t8 nt8 => ?_⟩
    refine ⟨d, l, t8, 5, [400, 360, 399, 256, 243, 383, 1, 384], rfl, upd_same, by decide, by decide, D6.new nt8, by omega, fun H7 z hz D7 _ => ?_⟩
    have hz400 : 1 ≤ z ∧ z ≤ 400 := (by decide : ∀ z ∈ [400, 360, 399, 256, 243, 383, 1, 384], 1 ≤ z ∧ z ≤ 400) z hz
    refine ⟨(by show 5 ≤ sizeLine; decide), fun t5 nt5 => ?_⟩
    refine ⟨t5, rfl, ⟨_, SqT.of upd_same⟩, ?_⟩
    have hlv : ∀ n ∈ [sm, n1, n2, 1 + r6, z], 1 ≤ n ∧ n ≤ 400 := by
      intro n hn
      rcases List.mem_cons.mp hn with rfl | hn
      · omega
      rcases List.mem_cons.mp hn with rfl | hn
      · omega
      rcases List.mem_cons.mp hn with rfl | hn
      · omega
      rcases List.mem_cons.mp hn with rfl | hn
      · omega
      rcases List.mem_cons.mp hn with rfl | hn
      · exact hz400
      · exact nomatch hn
    refine forRestT (f := fun n : Nat => V.int (n : Int)) (xs := [sm, n1, n2, 1 + r6, z]) (fun r σ H' => (∃ y5, σ = [some (.ref a), some (.ref d), some (.int sm), some (.int n1), some (.int n2), y5, none, none, none, none, none, none, none, none]) ∧
        H' t5 = some (.tup (nl [sm, n1, n2, 1 + r6, z])) ∧ ∀ n ∈ r, 1 ≤ n ∧ n ≤ 400) ⟨⟨none, rfl⟩, upd_same, hlv⟩ (fun r σ H' h => SqT.of h.2.1) (fun n r σ H' h => ?_) (fun σ H' h => ?_)
    · obtain ⟨⟨y5, rfl⟩, h5, hn⟩ := h
      obtain ⟨k1, k2⟩ := hn n List.mem_cons_self
      exact ⟨.int n, rfl, n, rfl, k1, k2, fun H8 s8 => ⟨true, rfl, iteF ⟨⟨_, rfl⟩, s8 _ _ h5, fun m hm => hn m (List.mem_cons_of_mem _ hm)⟩⟩⟩
    · obtain ⟨⟨y5, rfl⟩, _, _⟩ := h
      refine ⟨.int n1, rfl, .int n2, rfl, n1, n2, rfl, Nat.gcd n1 n2, 1, rfl, rfl, _, rfl, iteD (fun _ => q _) (fun hgc => ?_)⟩
      have hg1 : Nat.gcd n1 n2 = 1 := by
        have := Nat.gcd_pos_of_pos_left n2 (show 0 < n1 by omega)
        omega
      have htm : timesOk n1 n2 = true := by
        have h0 := List.all_eq_true.mp times_all n1 (by rw [List.mem_range']; exact ⟨n1 - 1, by omega, by omega⟩)
        have h1 : times n1 n2 = true := List.all_eq_true.mp h0 n2 (by rw [List.mem_range']; exact ⟨n2 - 1, by omega, by omega⟩)
        unfold times at h1
        rw [hg1] at h1
        exact h1
      unfold timesOk at htm
      cases hi1 : idx n1 with
      | none =>
        simp only [hi1] at htm
        exact nomatch htm
      | some i1 =>
      cases hi2 : idx n2 with
      | none =>
        simp only [hi1, hi2] at htm
        exact nomatch htm
      | some i2 =>
      cases hi3 : idx (n1 * n2) with
      | none =>
        simp only [hi1, hi2, hi3] at htm
        exact nomatch htm
      | some i3 =>
      cases he1 : edg n1 with
      | none =>
        simp only [hi1, hi2, hi3, he1] at htm
        exact nomatch htm
      | some e1 =>
      cases he2 : edg n2 with
      | none =>
        simp only [hi1, hi2, hi3, he1, he2] at htm
        exact nomatch htm
      | some e2 =>
      cases he3 : edg (n1 * n2) with
      | none =>
        simp only [hi1, hi2, hi3, he1, he2, he3] at htm
        exact nomatch htm
      | some e3 =>
      simp only [hi1, hi2, hi3, he1, he2, he3, Bool.and_eq_true, decide_eq_true_eq, beq_iff_eq] at htm
      obtain ⟨⟨⟨⟨⟨⟨⟨⟨⟨t1, t2⟩, t3⟩, t4⟩, t5⟩, t6⟩, t7⟩, t8⟩, t9⟩, t10⟩ := htm
      obtain ⟨d1, d2, d3, d4⟩ := dat_ok t4 t7
      obtain ⟨l1, sm1'⟩ := small_of t5
      obtain ⟨l2, sm2'⟩ := small_of t6
      obtain ⟨lp, smp⟩ := small_of t8
      have hb1 : 1 ≤ n1 * n2 := Nat.mul_pos n11 n21
      have hb2 : n1 * n2 ≤ 400 := Nat.mul_le_mul n12 n22
      refine ⟨Nat.zero_le _, fun du ndu => ?_⟩
      refine ⟨.int n1, rfl, n1, e1, rfl, n11, by omega, he1, fun Ha p1 as1 sa np1 hp1 tu1 => ?_⟩
      have hdu1 : Ha du = some (.lst []) := sa _ _ upd_same
      obtain ⟨q1, ea1, eo1, hq1⟩ := unz tu1
      refine ⟨p1, rfl, ⟨_, SqT.of hp1⟩, ?_⟩
      have hp1' : Ha p1 = some (.tup (q1.map fun q : Addr × Tri => V.ref q.1)) := by
        rw [hp1, ← ea1]
        unfold rl
        rw [List.map_map]
        rfl
      refine forRestT (f := fun q : Addr × Tri => V.ref q.1) (xs := q1) (fun r σ H' => ∃ (done ps : List (Addr × Tri)) (y7 y8 y9 : Option V), done ++ r = q1 ∧
          σ = [some (.ref a), some (.ref d), some (.int sm), some (.int n1), some (.int n2), y5, some (.ref du), y7, y8, y9, none, none, none, none] ∧
          (∀ b o, Ha b = some o → b ≠ du → H' b = some o) ∧ H' du = some (.lst (ps.map fun q => V.ref q.1)) ∧ (∀ q ∈ ps, H' q.1 = some (.tup (tv q.2))) ∧ ps.map (·.2) = prod (done.map (·.2)) e2)
        ⟨[], [], none, none, none, rfl, rfl, fun b o z _ => z, hdu1, fun q hq => (nomatch hq), rfl⟩ (fun r σ H' h => ?_) (fun x r σ H' h => ?_) (fun σ H' h => ?_)
      · obtain ⟨_, _, _, _, _, _, _, z, _⟩ := h
        exact SqT.of (z _ _ hp1' (ne_of hp1' hdu1 (fun k => nomatch k)))
      · obtain ⟨done, ps, y7, y8, y9, ed, rfl, b1, b2, b3, b4⟩ := h
        have hx1 : x ∈ q1 := by
          rw [← ed]
          exact List.mem_append_right _ List.mem_cons_self
        have hxt : H' x.1 = some (.tup (tv x.2)) := b1 _ _ (hq1 x hx1) (ne_of (hq1 x hx1) hdu1 (fun k => nomatch k))
        have hxe : x.2 ∈ e1 := by
          rw [← eo1]
          exact List.mem_map.mpr ⟨x, hx1, rfl⟩
        obtain ⟨mx1, mx2, mx3⟩ := sm1' x.2 hxe
        have hpl : ps.length < 50 := by
          have h0 : ps.length = (prod (done.map (·.2)) e2).length := by rw [← b4, List.length_map]
          have h1 : e1 = done.map (·.2) ++ (x :: r).map (·.2) := by rw [← eo1, ← ed, List.map_append]
          rw [h1, prod_app, List.length_append] at lp
          omega
        refine ⟨x.1, _, rfl, SqT.of hxt, rfl, _, _, rfl, _, _, rfl, _, _, rfl, rfl, ?_⟩
        refine ⟨.ref du, rfl, .inl ⟨rfl, _, SqL.of b2⟩, ?_⟩
        refine ⟨.int n2, rfl, n2, e2, rfl, n21, by omega, he2, fun Hb p2 as2 sb np2 hp2 tu2 => ?_⟩
        obtain ⟨q2, ea2, eo2, hq2⟩ := unz tu2
        have hp2' : Hb p2 = some (.tup (q2.map fun q : Addr × Tri => V.ref q.1)) := by
          rw [hp2, ← ea2]
          unfold rl
          rw [List.map_map]
          rfl
        refine ⟨p2, rfl, ⟨_, SqT.of hp2⟩, fun D nD => ?_⟩
        refine lcRestT (f := fun q : Addr × Tri => V.ref q.1) (xs := q2) (fun r H9 => ∃ done2 qs : List (Addr × Tri), done2 ++ r = q2 ∧ (∀ b o, Hb b = some o → H9 b = some o) ∧
            H9 D = some (.lst (qs.map fun q => V.ref q.1)) ∧ (∀ q ∈ qs, H9 q.1 = some (.tup (tv q.2))) ∧ qs.map (·.2) = (done2.map (·.2)).map (pT x.2))
          ⟨[], [], rfl, fun b o z => by rw [upd_ne (ne_of_none z nD)]; exact z, upd_same, fun q hq => (nomatch hq), rfl⟩ (fun r H9 h => ?_) (fun y r H9 h => ?_) (fun H9 h => ?_)
        · obtain ⟨_, _, _, z, _⟩ := h
          exact SqT.of (z _ _ hp2')
        · obtain ⟨done2, qs, ed2, c1, c2, c3, c4⟩ := h
          have hy1 : y ∈ q2 := by
            rw [← ed2]
            exact List.mem_append_right _ List.mem_cons_self
          have hyt := c1 _ _ (hq2 y hy1)
          have hye : y.2 ∈ e2 := by
            rw [← eo2]
            exact List.mem_map.mpr ⟨y, hy1, rfl⟩
          obtain ⟨my1, my2, my3⟩ := sm2' y.2 hye
          have hql : qs.length ≤ 50 := by
            have h0 : qs.length = done2.length := by
              have := congrArg List.length c4
              rw [List.length_map, List.length_map, List.length_map] at this
              exact this
            have h1 : done2.length ≤ e2.length := by
              rw [← eo2, ← ed2, List.map_append, List.length_append, List.length_map]
              exact Nat.le_add_right _ _
            omega
          refine ⟨y.1, _, rfl, SqT.of hyt, rfl, _, _, rfl, _, _, rfl, _, _, rfl, rfl, rfl, ?_⟩
          refine ⟨.int x.2.1, rfl, .int y.2.1, rfl, x.2.1, y.2.1, rfl, rfl, cmulN (by omega), ?_⟩
          refine ⟨.int x.2.2.1, rfl, .int y.2.2.1, rfl, x.2.2.1, y.2.2.1, rfl, rfl, cmulN (by omega), ?_⟩
          refine ⟨.int x.2.2.2, rfl, .int y.2.2.2, rfl, x.2.2.2, y.2.2.2, rfl, rfl, cmulN (by omega), ?_⟩
          refine ⟨(by show 3 ≤ sizeLine; decide), fun t nt => ?_⟩
          have et : ([.int ((x.2.1 : Int) * (y.2.1 : Int)), .int ((x.2.2.1 : Int) * (y.2.2.1 : Int)), .int ((x.2.2.2 : Int) * (y.2.2.2 : Int))] : List V) = tv (pT x.2 y.2) := by
            rw [← Int.natCast_mul, ← Int.natCast_mul, ← Int.natCast_mul]
            rfl
          have k1 : ∀ b o, H9 b = some o → (upd H9 t (.tup (tv (pT x.2 y.2)))) b = some o := fun b o z => by
            rw [upd_ne (ne_of_none z nt)]
            exact z
          have kt : (upd H9 t (.tup (tv (pT x.2 y.2)))) t = some (.tup (tv (pT x.2 y.2))) := upd_same
          show ∃ acc, (upd H9 t (.tup [.int ((x.2.1 : Int) * (y.2.1 : Int)), .int ((x.2.2.1 : Int) * (y.2.2.1 : Int)), .int ((x.2.2.2 : Int) * (y.2.2.2 : Int))])) D = some (.lst acc) ∧ _
          rw [et]
          generalize upd H9 t (.tup (tv (pT x.2 y.2))) = H10 at k1 kt
          have kD := k1 _ _ c2
          refine ⟨_, kD, szl (by rw [List.length_map]; omega), done2 ++ [y], qs ++ [(t, pT x.2 y.2)], ?_, fun b o z => ?_, ?_, fun q hq => ?_, ?_⟩
          · rw [List.append_assoc]
            exact ed2
          · rw [upd_ne (ne_of_none z nD)]
            exact k1 _ _ (c1 _ _ z)
          · rw [upd_same, List.map_append]
            rfl
          · have hq10 : H10 q.1 = some (.tup (tv q.2)) := by
              rcases List.mem_append.mp hq with z | z
              · exact k1 _ _ (c3 q z)
              · rcases List.mem_cons.mp z with rfl | z
                · exact kt
                · exact nomatch z
            rw [upd_ne (ne_of hq10 kD (fun k => nomatch k))]
            exact hq10
          · rw [List.map_append, List.map_append, List.map_append, c4]
            rfl
        · obtain ⟨done2, qs, ed2, c1, c2, c3, c4⟩ := h
          rw [List.append_nil] at ed2
          subst ed2
          rw [eo2] at c4
          have hql : qs.length ≤ 50 := by
            have := congrArg List.length c4
            rw [List.length_map, List.length_map] at this
            omega
          have hdu9 := c1 _ _ (sb _ _ b2)
          refine ⟨du, D, _, _, rfl, rfl, hdu9, c2, szl' (by rw [List.length_map, List.length_map]; omega), ?_⟩
          refine ⟨done ++ [x], ps ++ qs, _, _, _, ?_, rfl, fun b o z hb => ?_, ?_, fun q hq => ?_, ?_⟩
          · rw [List.append_assoc]
            exact ed
          · rw [upd_ne hb]
            exact c1 _ _ (sb _ _ (b1 b o z hb))
          · rw [upd_same, List.map_append]
          · have hq9 : H9 q.1 = some (.tup (tv q.2)) := by
              rcases List.mem_append.mp hq with z | z
              · exact c1 _ _ (sb _ _ (b3 q z))
              · exact c3 q z
            rw [upd_ne (ne_of hq9 hdu9 (fun k => nomatch k))]
            exact hq9
          · rw [List.map_append, List.map_append, b4, c4, prod_app]
            show _ = _ ++ prod [x.2] e2
            rw [prod_one]
      · obtain ⟨done, ps, y7, y8, y9, ed, rfl, b1, b2, b3, b4⟩ := h
        rw [List.append_nil] at ed
        subst ed
        rw [eo1] at b4
        have hpl : ps.length < 50 := by
          have h0 : ps.length = (prod e1 e2).length := by rw [← b4, List.length_map]
          omega
        refine ⟨.int n1, rfl, .int n2, rfl, n1, n2, rfl, rfl, cmulN (by omega), ?_⟩
        refine ⟨.int ((n1 * n2 : Nat) : Int), rfl, n1 * n2, i3, rfl, hb1, hb2, hi3, fun Hc sc2 => ?_⟩
        refine ⟨.int ((n1 * n2 : Nat) : Int), rfl, n1 * n2, e3, rfl, hb1, hb2, he3, fun Hd pt as3 sd npt hpt tu3 => ?_⟩
        refine ⟨(by show 2 ≤ sizeLine; decide), fun l1 nl1 => ?_⟩
        have k1 : Same H' (upd Hd l1 (.lst [.int i3, .ref pt])) := same_upd (sc2.trans sd) ((sc2.trans sd).free nl1)
        have hl1 : (upd Hd l1 (.lst [.int i3, .ref pt])) l1 = some (.lst [.int i3, .ref pt]) := upd_same
        have hpt1 : (upd Hd l1 (.lst [.int i3, .ref pt])) pt = some (.tup (rl as3)) := by rw [upd_ne (ne_of_none hpt nl1)]; exact hpt
        have tu4 : Tups (upd Hd l1 (.lst [.int i3, .ref pt])) as3 e3 := tu3.same fun b xs z => by rw [upd_ne (ne_of_none z nl1)]; exact z
        generalize upd Hd l1 (.lst [.int i3, .ref pt]) = He at k1 hl1 hpt1 tu4
        refine ⟨.int n1, rfl, n1, i1, rfl, n11, by omega, hi1, fun Hf sf => ?_⟩
        refine ⟨.int n2, rfl, n2, i2, rfl, n21, by omega, hi2, fun Hg sg => ?_⟩
        refine ⟨i1, i2, rfl, rfl, cmulN (by omega), ?_⟩
        have sG : Same He Hg := sf.trans sg
        have bG : ∀ q ∈ ps, Hg q.1 = some (.tup (tv q.2)) := fun q hq => sG _ _ (k1 _ _ (b3 q hq))
        refine ⟨.ref du, rfl, du, _, rfl, SqL.of (sG _ _ (k1 _ _ b2)), by rw [List.length_map]; omega, fun v hv => ?_, fun ys p perm pw np => ?_⟩
        · obtain ⟨y, hy, rfl⟩ := List.mem_map.mp hv
          refine ⟨ti y.2, ⟨y.1, rfl, SqT.of (bG y hy)⟩, rfl, ti_bd (smp y.2 ?_)⟩
          rw [← b4]
          exact List.mem_map.mpr ⟨y, hy, rfl⟩
        · obtain ⟨as', rfl, tu'⟩ := sorted_is (K := K) (e := e3) bG (by rw [b4]; exact t9) t10 perm pw
          refine ⟨p, _, rfl, .inl ⟨SqL.of upd_same, fun t2 nt2 => ?_⟩⟩
          refine ⟨(by show 2 ≤ sizeLine; decide), fun l2' nl2 => ?_⟩
          have m1 : Same Hg (upd Hg p (.lst (rl as'))) := same_new np
          have m2 : Same Hg (upd (upd Hg p (.lst (rl as'))) t2 (.tup (rl as'))) := same_upd m1 (m1.free nt2)
          have e12 : ([.int ((i1 : Int) * (i2 : Int)), .ref t2] : List V) = [.int (i3 : Int), .ref t2] := by rw [← Int.natCast_mul, t3]
          have n2' : t2 ≠ l2' := fun z => by
            rw [← z, upd_same] at nl2
            exact nomatch nl2
          have m3 : Same Hg (upd (upd (upd Hg p (.lst (rl as'))) t2 (.tup (rl as'))) l2' (.lst [.int ((i1 : Int) * (i2 : Int)), .ref t2])) := same_upd m2 (m2.free nl2)
          have ht2 : (upd (upd (upd Hg p (.lst (rl as'))) t2 (.tup (rl as'))) l2' (.lst [.int ((i1 : Int) * (i2 : Int)), .ref t2])) t2 = some (.tup (rl as')) := by rw [upd_ne n2', upd_same]
          have hl2 : (upd (upd (upd Hg p (.lst (rl as'))) t2 (.tup (rl as'))) l2' (.lst [.int ((i1 : Int) * (i2 : Int)), .ref t2])) l2' = some (.lst [.int (i3 : Int), .ref t2]) := by rw [upd_same, e12]
          exact ⟨l1, l2', dat i3 e3, rfl, dp_dat (m3 _ _ (sG _ _ hl1)) (m3 _ _ (sG _ _ hpt1)) (tu4.same fun b xs z => m3 _ _ (sG _ _ z)), dp_dat hl2 ht2 (tu'.same fun b xs z => m3 _ _ z), d1, d2, d3, d4, q _⟩
end
end K26
namespace K26
open PySem PySem.Spec PyProof.Rows L2
/-! ## the end -/
theorem at_mk {K : PySem.W.Frag} {h : Heap} {mg : Str → Option Value} {x : Str} {st : Stmt} {ps : List Str} {f : Addr} {oc kV doc pm cdv ct : Value} {od an : Option Addr} {osl : Array (Option Value)} (X : K.In h) (G : h.Ns mainGlobals mg)
    (a : PySem.W.nsIn K mainGlobals x = some (some (.ref f))) (l : K.lookup f = some ⟨oc, od, .func (PySem.W.fnOf x x (defArgs st) (defBody st) (defScope st) .none kV doc pm an cdv ct), osl⟩)
    (c : PySem.W.codeIn K cdv x = true) (k : PySem.W.keepIn K (.ref f) = true)
    (b : ∀ (kV doc pm : Value) (an : Option Addr) (cdv ct : Value) (us : List Value), us.length = ps.length → bindArgs (PySem.W.fnOf x x (defArgs st) (defBody st) (defScope st) .none kV doc pm an cdv ct) ⟨us, []⟩ = pure (ps.zip us)) : At K mg x st ps := by
  have F := fun_mk (st := st) l c k
  exact ⟨f, _, F, F.binds b, PySem.W.mg_of X G a⟩
theorem most_mk {K : PySem.W.Frag} {h : Heap} {mg : Str → Option Value} {t : Tok} (X : K.In h) (G : h.Ns mainGlobals mg) (e : PySem.W.nsIn K mainGlobals "MOST_LEVEL" = some (some (.int 400 t))) :
    ∃ t, mg "MOST_LEVEL" = some (.int 400 t) := ⟨t, PySem.W.mg_of X G e⟩
theorem end_mk {P : Program} {w : World} {K : PySem.W.Frag} {h : Heap} {mg : Str → Option Value} {fa f : Addr} {oc kV doc pm cdv ct : Value} {od an : Option Addr} {osl : Array (Option Value)} (X : K.In h) (G : h.Ns mainGlobals mg) (hfa : mg "law" = some (.ref fa)) (T : Txt K mg)
    (a : PySem.W.nsIn K mainGlobals "law" = some (some (.ref f))) (l : K.lookup f = some ⟨oc, od, .func (PySem.W.fnOf "law" "law" (defArgs (topS 31)) (defBody (topS 31)) (defScope (topS 31)) .none kV doc pm an cdv ct), osl⟩)
    (c : PySem.W.codeIn K cdv "law" = true) (k : PySem.W.keepIn K (.ref f) = true) :
    ∃ fd : FuncData, (∀ (s : Shared) (u : Value), BindsTo s fd ⟨[u], []⟩ [("_law_script", u)]) ∧
      ∀ base : Heap, K.In base → base.Ns mainGlobals mg → FnG P w K mg base 8 fa fd ["_law_script"] (spLaw K) := by
  have e := hfa.symm.trans (PySem.W.mg_of X G a)
  cases e
  exact ⟨_, fun s u => .of_eq rfl, fun base _ _ => c_law T (fun_mk (st := topS 31) l c k)⟩
end K26
open PySem PySem.W PyProof.Rows
set_option maxHeartbeats 0 in
theorem PySem.Challenge.cw_firstterms_k26_whole_edges_and_widths_holds : PySem.Challenge.rw_firstterms_k26_whole_edges_and_widths.Holds := by
  w_on; o_law; k_head; (case hw => w_witness2)
  k_fill
  refine K26.walkG (l := PySem.Challenge.rw_firstterms_k26_whole_edges_and_widths) (n := 63) (k := 8) (x := "_law_script") (sp := fun K => K26.spLaw K) rfl (by decide) rfl ⟨rfl, by decide, by decide⟩ (fun w h Y => PySem.W.kIn_of Y) ?F (fun _ _ a ns hl _ hS => ⟨a, ns, rfl, hS, hl, fun _ => rfl⟩)
  case F =>
    intro w mg fa h KX G hmg
    refine' K26.end_mk KX G hmg ⟨?t_isint, ?t_isbtw, ?t_islev, ?t_divs, ?t_prms, ?t_need, ?t_rawix, ?t_free, ?t_rawed, ?t_indexof, ?t_edgesof, ?t_ldeck, ?t_ldraw, ?t_lpick, ?t_lsame, ?t_ldivr, ?t_ldivs, ?t_ledges, ?t_lpoints, ?t_lrounds, ?t_lcount, ?t_ltold, ?t_gcd, ?t_most, ?t_bisi, ?t_bint, ?t_bbool, ?t_btuple, ?t_blist, ?t_bmax, ?t_bmin, ?t_blen, ?t_brepr, ?t_babs, ?t_brange, ?t_bsum, ?t_bsorted⟩ ?za ?zl ?zc ?zk
    case t_isint =>
      refine' K26.at_mk (st := K26.topS 3) KX G ?a_isint ?l_isint ?c_isint ?k_isint (fun _ _ _ _ _ _ us hl => match us, hl with | [_], _ => rfl)
      (case a_isint => k_is); (case l_isint => k_is); (case c_isint => k_is); (case k_isint => k_is)
    case t_isbtw =>
      refine' K26.at_mk (st := K26.topS 4) KX G ?a_isbtw ?l_isbtw ?c_isbtw ?k_isbtw (fun _ _ _ _ _ _ us hl => match us, hl with | [_, _, _], _ => rfl)
      (case a_isbtw => k_is); (case l_isbtw => k_is); (case c_isbtw => k_is); (case k_isbtw => k_is)
    case t_islev =>
      refine' K26.at_mk (st := K26.topS 5) KX G ?a_islev ?l_islev ?c_islev ?k_islev (fun _ _ _ _ _ _ us hl => match us, hl with | [_], _ => rfl)
      (case a_islev => k_is); (case l_islev => k_is); (case c_islev => k_is); (case k_islev => k_is)
    case t_divs =>
      refine' K26.at_mk (st := K26.topS 6) KX G ?a_divs ?l_divs ?c_divs ?k_divs (fun _ _ _ _ _ _ us hl => match us, hl with | [_], _ => rfl)
      (case a_divs => k_is); (case l_divs => k_is); (case c_divs => k_is); (case k_divs => k_is)
    case t_prms =>
      refine' K26.at_mk (st := K26.topS 7) KX G ?a_prms ?l_prms ?c_prms ?k_prms (fun _ _ _ _ _ _ us hl => match us, hl with | [_], _ => rfl)
      (case a_prms => k_is); (case l_prms => k_is); (case c_prms => k_is); (case k_prms => k_is)
    case t_need =>
      refine' K26.at_mk (st := K26.topS 12) KX G ?a_need ?l_need ?c_need ?k_need (fun _ _ _ _ _ _ us hl => match us, hl with | [_], _ => rfl)
      (case a_need => k_is); (case l_need => k_is); (case c_need => k_is); (case k_need => k_is)
    case t_rawix =>
      refine' K26.at_mk (st := K26.topS 14) KX G ?a_rawix ?l_rawix ?c_rawix ?k_rawix (fun _ _ _ _ _ _ us hl => match us, hl with | [_], _ => rfl)
      (case a_rawix => k_is); (case l_rawix => k_is); (case c_rawix => k_is); (case k_rawix => k_is)
    case t_free =>
      refine' K26.at_mk (st := K26.topS 15) KX G ?a_free ?l_free ?c_free ?k_free (fun _ _ _ _ _ _ us hl => match us, hl with | [_], _ => rfl)
      (case a_free => k_is); (case l_free => k_is); (case c_free => k_is); (case k_free => k_is)
    case t_rawed =>
      refine' K26.at_mk (st := K26.topS 16) KX G ?a_rawed ?l_rawed ?c_rawed ?k_rawed (fun _ _ _ _ _ _ us hl => match us, hl with | [_], _ => rfl)
      (case a_rawed => k_is); (case l_rawed => k_is); (case c_rawed => k_is); (case k_rawed => k_is)
    case t_indexof =>
      refine' K26.at_mk (st := K26.topS 17) KX G ?a_indexof ?l_indexof ?c_indexof ?k_indexof (fun _ _ _ _ _ _ us hl => match us, hl with | [_], _ => rfl)
      (case a_indexof => k_is); (case l_indexof => k_is); (case c_indexof => k_is); (case k_indexof => k_is)
    case t_edgesof =>
      refine' K26.at_mk (st := K26.topS 18) KX G ?a_edgesof ?l_edgesof ?c_edgesof ?k_edgesof (fun _ _ _ _ _ _ us hl => match us, hl with | [_], _ => rfl)
      (case a_edgesof => k_is); (case l_edgesof => k_is); (case c_edgesof => k_is); (case k_edgesof => k_is)
    case t_ldeck =>
      refine' K26.at_mk (st := K26.topS 20) KX G ?a_ldeck ?l_ldeck ?c_ldeck ?k_ldeck (fun _ _ _ _ _ _ us hl => match us, hl with | [_], _ => rfl)
      (case a_ldeck => k_is); (case l_ldeck => k_is); (case c_ldeck => k_is); (case k_ldeck => k_is)
    case t_ldraw =>
      refine' K26.at_mk (st := K26.topS 21) KX G ?a_ldraw ?l_ldraw ?c_ldraw ?k_ldraw (fun _ _ _ _ _ _ us hl => match us, hl with | [_, _], _ => rfl)
      (case a_ldraw => k_is); (case l_ldraw => k_is); (case c_ldraw => k_is); (case k_ldraw => k_is)
    case t_lpick =>
      refine' K26.at_mk (st := K26.topS 22) KX G ?a_lpick ?l_lpick ?c_lpick ?k_lpick (fun _ _ _ _ _ _ us hl => match us, hl with | [_, _], _ => rfl)
      (case a_lpick => k_is); (case l_lpick => k_is); (case c_lpick => k_is); (case k_lpick => k_is)
    case t_lsame =>
      refine' K26.at_mk (st := K26.topS 23) KX G ?a_lsame ?l_lsame ?c_lsame ?k_lsame (fun _ _ _ _ _ _ us hl => match us, hl with | [_, _], _ => rfl)
      (case a_lsame => k_is); (case l_lsame => k_is); (case c_lsame => k_is); (case k_lsame => k_is)
    case t_ldivr =>
      refine' K26.at_mk (st := K26.topS 24) KX G ?a_ldivr ?l_ldivr ?c_ldivr ?k_ldivr (fun _ _ _ _ _ _ us hl => match us, hl with | [_, _], _ => rfl)
      (case a_ldivr => k_is); (case l_ldivr => k_is); (case c_ldivr => k_is); (case k_ldivr => k_is)
    case t_ldivs =>
      refine' K26.at_mk (st := K26.topS 25) KX G ?a_ldivs ?l_ldivs ?c_ldivs ?k_ldivs (fun _ _ _ _ _ _ us hl => match us, hl with | [_], _ => rfl)
      (case a_ldivs => k_is); (case l_ldivs => k_is); (case c_ldivs => k_is); (case k_ldivs => k_is)
    case t_ledges =>
      refine' K26.at_mk (st := K26.topS 26) KX G ?a_ledges ?l_ledges ?c_ledges ?k_ledges (fun _ _ _ _ _ _ us hl => match us, hl with | [_], _ => rfl)
      (case a_ledges => k_is); (case l_ledges => k_is); (case c_ledges => k_is); (case k_ledges => k_is)
    case t_lpoints =>
      refine' K26.at_mk (st := K26.topS 27) KX G ?a_lpoints ?l_lpoints ?c_lpoints ?k_lpoints (fun _ _ _ _ _ _ us hl => match us, hl with | [_], _ => rfl)
      (case a_lpoints => k_is); (case l_lpoints => k_is); (case c_lpoints => k_is); (case k_lpoints => k_is)
    case t_lrounds =>
      refine' K26.at_mk (st := K26.topS 28) KX G ?a_lrounds ?l_lrounds ?c_lrounds ?k_lrounds (fun _ _ _ _ _ _ us hl => match us, hl with | [_, _], _ => rfl)
      (case a_lrounds => k_is); (case l_lrounds => k_is); (case c_lrounds => k_is); (case k_lrounds => k_is)
    case t_lcount =>
      refine' K26.at_mk (st := K26.topS 29) KX G ?a_lcount ?l_lcount ?c_lcount ?k_lcount (fun _ _ _ _ _ _ us hl => match us, hl with | [_], _ => rfl)
      (case a_lcount => k_is); (case l_lcount => k_is); (case c_lcount => k_is); (case k_lcount => k_is)
    case t_ltold =>
      refine' K26.at_mk (st := K26.topS 30) KX G ?a_ltold ?l_ltold ?c_ltold ?k_ltold (fun _ _ _ _ _ _ us hl => match us, hl with | [_], _ => rfl)
      (case a_ltold => k_is); (case l_ltold => k_is); (case c_ltold => k_is); (case k_ltold => k_is)
    case t_gcd => exact PySem.W.mg_of KX G (by k_is)
    case t_most =>
      refine' K26.most_mk KX G ?e_most
      (case e_most => k_is)
    case t_bisi => exact PySem.W.mg_none_of KX G (by k_is)
    case t_bint => exact PySem.W.mg_none_of KX G (by k_is)
    case t_bbool => exact PySem.W.mg_none_of KX G (by k_is)
    case t_btuple => exact PySem.W.mg_none_of KX G (by k_is)
    case t_blist => exact PySem.W.mg_none_of KX G (by k_is)
    case t_bmax => exact PySem.W.mg_none_of KX G (by k_is)
    case t_bmin => exact PySem.W.mg_none_of KX G (by k_is)
    case t_blen => exact PySem.W.mg_none_of KX G (by k_is)
    case t_brepr => exact PySem.W.mg_none_of KX G (by k_is)
    case t_babs => exact PySem.W.mg_none_of KX G (by k_is)
    case t_brange => exact PySem.W.mg_none_of KX G (by k_is)
    case t_bsum => exact PySem.W.mg_none_of KX G (by k_is)
    case t_bsorted => exact PySem.W.mg_none_of KX G (by k_is)
    (case za => k_is); (case zl => k_is); (case zc => k_is); (case zk => k_is)
