import PyProof.Rows.All
import Wide.All
import OpenK.AllK
import Wide.FinOn
import PySem.Challenge.RW_ov0068_01
open PySem PySem.W PyProof.Rows PySem.Calls
set_option Elab.async false
set_option maxRecDepth 100000
set_option maxHeartbeats 8000000
namespace Mine
abbrev Lo (q : Program) : List Str := looseW q [Str.ofString "MOST_DOUBLE"]
abbrev tupO (p q : Int) (t u : Tok) (c : Nat) : Obj := { cls := .type "tuple", data := .seq #[.int p t, .int q u] c }
abbrev Led := List (Addr × Obj)
abbrev Fin' := Heap → Addr → (Str → Option Value) → Shared → (Value → Shared → Prop) → (Value → Shared → Prop) → Heap → List Env → Prop
abbrev Cal (K : Frag) (q : Program) (w : World) (mean : ExcName → Option Value) (mg mb : Str → Option Value) (dpn unn : Nat) (f : Addr) (vs : List Value) (news : Led) (R : Fin') : Prop :=
  ∀ (dp un : Nat) (gd : Option (List Code)) (cn : Str) (cs : Scope) (a : Addr) (ccd : Value) (cl : List (Str × Addr)) (outer : List Env) (A₀ : Around) (base h₀ : Heap) (L : Addr) (m : Str → Option Value) (s : Shared) (Q E : Value → Shared → Prop),
    Below A₀ base outer h₀ → Fr h₀ L s.heap m → K.In h₀ → News h₀ L s.heap news → Top q (Lo q) mean mg mb h₀ → cs.kind = .function →
    dp + dpn < recursionLimit → un + unn < cLine → R h₀ L m s Q E base (envX cn cs L a ccd cl :: outer) →
    wpAny (model PySem.Challenge.pw_ov0068_01 w) (ktrTop dp un gd cn cs L a ccd cl outer) (call (.ref f) vs) Q E s
abbrev RInt (news : Led) (x : Int) : Fin' := fun h₀ L m s Q _ _ _ => ∀ (t : Tok) (h' : Heap) (tk' : Nat), Fr h₀ L h' m → News h₀ L h' news → Q (.int x t) { s with heap := h', toks := tk' }
abbrev RBool (news : Led) (b : Bool) : Fin' := fun h₀ L m s Q _ _ _ => ∀ (h' : Heap) (tk' : Nat), Fr h₀ L h' m → News h₀ L h' news → Q (.bool b) { s with heap := h', toks := tk' }
abbrev RNone (news : Led) : Fin' := fun h₀ L m s Q _ _ _ => ∀ (h' : Heap) (tk' : Nat), Fr h₀ L h' m → News h₀ L h' news → Q .none { s with heap := h', toks := tk' }
abbrev RTup (news : Led) (p q : Int) : Fin' := fun h₀ L m s Q _ _ _ => ∀ (D : Addr) (t1 t2 : Tok) (c : Nat) (h' : Heap) (tk' : Nat), Fr h₀ L h' m → News h₀ L h' ((D, tupO p q t1 t2 c) :: news) → AllLt D news → Q (.ref D) { s with heap := h', toks := tk' }
theorem ret_int {news news' : Led} {x y : Int} {h₀ h' : Heap} {L : Addr} {m : Str → Option Value} {s : Shared} {Q E : Value → Shared → Prop} {b : Heap} {o : List Env} {t : Tok} {tk' : Nat}
    (hret : RInt news x h₀ L m s Q E b o) (F : Fr h₀ L h' m) (N : News h₀ L h' news') (e : y = x) (hn : ∀ p ∈ news, p ∈ news') : Q (.int y t) { s with heap := h', toks := tk' } := by
  subst e
  exact hret t h' tk' F fun p hp => N p (hn p hp)
theorem ret_bool {news news' : Led} {x y : Bool} {h₀ h' : Heap} {L : Addr} {m : Str → Option Value} {s : Shared} {Q E : Value → Shared → Prop} {b : Heap} {o : List Env} {tk' : Nat}
    (hret : RBool news x h₀ L m s Q E b o) (F : Fr h₀ L h' m) (N : News h₀ L h' news') (e : y = x) (hn : ∀ p ∈ news, p ∈ news') : Q (.bool y) { s with heap := h', toks := tk' } := by
  subst e
  exact hret h' tk' F fun p hp => N p (hn p hp)
theorem ret_tup {news news' : Led} {p q p' q' : Int} {h₀ h' : Heap} {L D : Addr} {m : Str → Option Value} {s : Shared} {Q E : Value → Shared → Prop} {b : Heap} {o : List Env} {t1 t2 : Tok} {c tk' : Nat}
    (hret : RTup news p q h₀ L m s Q E b o) (F : Fr h₀ L h' m) (N : News h₀ L h' news') (hm : (D, tupO p' q' t1 t2 c) ∈ news') (e1 : p' = p) (e2 : q' = q) (hn : ∀ x ∈ news, x ∈ news') (hl : AllLt D news) : Q (.ref D) { s with heap := h', toks := tk' } := by
  subst e1
  subst e2
  refine hret D t1 t2 c h' tk' F (fun x hx => ?_) hl
  rcases List.mem_cons.mp hx with rfl | hx
  · exact N _ hm
  · exact N x (hn x hx)

def gcdI (a b : Int) : Int := (Int.gcd a b : Int)
theorem gcd_done {a b x y : Int} (ha : 0 ≤ a) (hb : 0 ≤ b) (h : a.gcd b = x.gcd y) (hn : ¬ 0 < b) : a = gcdI x y := by
  have : b = 0 := by omega
  subst this
  rw [Int.gcd_zero_right] at h
  unfold gcdI
  omega
theorem gcd_step {a b : Int} {g : Nat} (ha : 0 ≤ a) (hb : 0 ≤ b) (h : Int.gcd a b = g) (hp : 0 < b) : 0 ≤ b ∧ 0 ≤ a.fmod b ∧ Int.gcd b (a.fmod b) = g := by
  rw [Int.fmod_eq_emod_of_nonneg a hb]
  refine ⟨hb, Int.emod_nonneg a (by omega), ?_⟩
  rw [← h]
  obtain ⟨m, rfl⟩ := Int.eq_ofNat_of_zero_le ha
  obtain ⟨n, rfl⟩ := Int.eq_ofNat_of_zero_le hb
  show Nat.gcd _ _ = Nat.gcd _ _
  simp only [Int.natAbs_natCast]
  rw [← Int.natCast_emod, Int.natAbs_natCast, Nat.gcd_comm m n, Nat.gcd_comm n (m % n), ← Nat.gcd_rec n m]
theorem gcd_less {a b : Int} (hb : 0 ≤ b) (hp : 0 < b) : (a.fmod b).toNat < b.toNat := by
  rw [Int.fmod_eq_emod_of_nonneg a hb]
  have := Int.emod_lt_of_pos a hp
  have := Int.emod_nonneg a (show b ≠ 0 by omega)
  omega
def mkN (n d : Int) : Int := if d < 0 then 0 - n else n
def mkD (d : Int) : Int := if d < 0 then 0 - d else d
def absI (n : Int) : Int := if n < 0 then -n else n
def mk1 (n d : Int) : Int := Int.fdiv (mkN n d) (gcdI (absI (mkN n d)) (mkD d))
def mk2 (n d : Int) : Int := Int.fdiv (mkD d) (gcdI (absI (mkN n d)) (mkD d))
theorem mk1_neg {n d : Int} (h : d < 0) : (0 - n).fdiv (gcdI (if 0 - n < 0 then -(0 - n) else 0 - n) (0 - d)) = mk1 n d := by
  unfold mk1 mkN mkD absI
  rw [if_pos h, if_pos h]
theorem mk2_neg {n d : Int} (h : d < 0) : (0 - d).fdiv (gcdI (if 0 - n < 0 then -(0 - n) else 0 - n) (0 - d)) = mk2 n d := by
  unfold mk2 mkN mkD absI
  rw [if_pos h, if_pos h]
theorem mk1_pos {n d : Int} (h : ¬ d < 0) : n.fdiv (gcdI (if n < 0 then -n else n) d) = mk1 n d := by
  unfold mk1 mkN mkD absI
  rw [if_neg h, if_neg h]
theorem mk2_pos {n d : Int} (h : ¬ d < 0) : d.fdiv (gcdI (if n < 0 then -n else n) d) = mk2 n d := by
  unfold mk2 mkN mkD absI
  rw [if_neg h, if_neg h]
theorem gcd_ne {a b : Int} (h : b ≠ 0) : gcdI a b ≠ 0 := by
  unfold gcdI
  intro e
  have e' : Int.gcd a b = 0 := by omega
  exact h (Int.gcd_eq_zero_iff.mp e').2
abbrev RGcd (news : Led) (x y : Int) : Fin' := fun h₀ L m s Q _ _ _ => ∀ (t : Tok) (h' : Heap) (tk' : Nat), Fr h₀ L h' m → News h₀ L h' news → gcdI x y ≠ 0 → Q (.int (gcdI x y) t) { s with heap := h', toks := tk' }
theorem fd_int {w : World} {dp un : Nat} {gd : Option (List Code)} {cn : Str} {cs : Scope} {L₀ a₀ : Addr} {ccd : Value} {cl : List (Str × Addr)} {outer : List Env} {name : Str} {scope : Scope} {L a : Addr} {cd : Value}
    {q : Program} {loose : List Str} {mean : ExcName → Option Value} {mg mb : Str → Option Value} {h₀ : Heap} {m : Str → Option Value} {s : Shared} {x y : Int} {t u : Tok} {Q E : Value → Shared → Prop}
    (F : Fr h₀ L s.heap m) (T : Top q loose mean mg mb h₀) (hi : importsNone q = true) (hy : y ≠ 0) (hd : dp + 1 + 100 < recursionLimit) (hgen : scope.isGenerator = false) (hco : scope.isCoroutine = false)
    (h : Q (.int (x.fdiv y) s.toks) { s with toks := s.toks + 1 }) :
    wpAny (model PySem.Challenge.pw_ov0068_01 w) ((ktrTop dp un gd cn cs L₀ a₀ ccd cl outer).deeper (envOf name scope L a cd)) (binaryOp .FloorDiv (.int x t) (.int y u)) Q E s :=
  floordiv_int hy h (Or.inr (PySem.PylongRoom.of (PySem.Heap.NoLimit.keeps (PyProof.Rows.Top.nolimit T) (PyProof.Rows.Fr.keep F)) hd
    (PySem.SeerAt.of (PySem.Heap.NoSeer.keeps (PyProof.Rows.Top.seer T hi) (PyProof.Rows.Fr.keep F)) rfl rfl hgen hco rfl rfl)))
local macro_rules | `(tactic| k_mem) => `(tactic| assumption)
local macro_rules | `(tactic| k_room) => `(tactic| ktr_room)
abbrev GcdOK (Kf : Frag) (pg : Program) (w : World) (mean : ExcName → Option Value) (mg mb : Str → Option Value) : Prop :=
  ∀ (news : Led) (x y : Int) (tx ty : Tok), (0 ≤ x) → (0 < y) → Cal Kf pg w mean mg mb 1 8 78 [.int x tx, .int y ty] news (RGcd news x y)
theorem use_gcd {Kf : Frag} {pg : Program} {w : World} {mean : ExcName → Option Value} {mg mb : Str → Option Value} {news : Led} {x y : Int} {tx ty : Tok}
    {dp un : Nat} {gd : Option (List Code)} {cn : Str} {cs : Scope} {a : Addr} {ccd : Value} {cl : List (Str × Addr)} {outer : List Env} {A₀ : Around} {base h₀ : Heap} {L : Addr} {m : Str → Option Value} {s : Shared} {Q E : Value → Shared → Prop}
    (kB : Below A₀ base outer h₀) (kF : Fr h₀ L s.heap m) (kX : Kf.In h₀) (kN : News h₀ L s.heap news) (kT : Top pg (Lo pg) mean mg mb h₀) (kC : GcdOK Kf pg w mean mg mb) (hk : cs.kind = .function) (hp0 : 0 ≤ x) (hp1 : 0 < y)
    (hd : dp + 1 < recursionLimit) (hu : un + 8 < cLine) (kr : (RGcd news x y : Fin') h₀ L m s Q E base (envX cn cs L a ccd cl :: outer)) :
    wpAny (model PySem.Challenge.pw_ov0068_01 w) (ktrTop dp un gd cn cs L a ccd cl outer) (call (.ref 78) [.int x tx, .int y ty]) Q E s :=
  kC news x y tx ty hp0 hp1 _ _ _ _ _ _ _ _ _ _ _ _ _ _ _ _ _ kB kF kX kN kT hk hd hu kr
abbrev MakeOK (Kf : Frag) (pg : Program) (w : World) (mean : ExcName → Option Value) (mg mb : Str → Option Value) : Prop :=
  ∀ (news : Led) (n d : Int) (tn td : Tok), (d ≠ 0) → Cal Kf pg w mean mg mb 110 16 85 [.int n tn, .int d td] news (RTup news (mk1 n d) (mk2 n d))
theorem use_make {Kf : Frag} {pg : Program} {w : World} {mean : ExcName → Option Value} {mg mb : Str → Option Value} {news : Led} {n d : Int} {tn td : Tok}
    {dp un : Nat} {gd : Option (List Code)} {cn : Str} {cs : Scope} {a : Addr} {ccd : Value} {cl : List (Str × Addr)} {outer : List Env} {A₀ : Around} {base h₀ : Heap} {L : Addr} {m : Str → Option Value} {s : Shared} {Q E : Value → Shared → Prop}
    (kB : Below A₀ base outer h₀) (kF : Fr h₀ L s.heap m) (kX : Kf.In h₀) (kN : News h₀ L s.heap news) (kT : Top pg (Lo pg) mean mg mb h₀) (kC : MakeOK Kf pg w mean mg mb) (hk : cs.kind = .function) (hp0 : d ≠ 0)
    (hd : dp + 110 < recursionLimit) (hu : un + 16 < cLine) (kr : (RTup news (mk1 n d) (mk2 n d) : Fin') h₀ L m s Q E base (envX cn cs L a ccd cl :: outer)) :
    wpAny (model PySem.Challenge.pw_ov0068_01 w) (ktrTop dp un gd cn cs L a ccd cl outer) (call (.ref 85) [.int n tn, .int d td]) Q E s :=
  kC news n d tn td hp0 _ _ _ _ _ _ _ _ _ _ _ _ _ _ _ _ _ kB kF kX kN kT hk hd hu kr
abbrev Sm (a : Int) : Prop := Builtin.Int.intBits a ≤ 2 ^ 20
theorem sm_mul {a b : Int} (ha : Sm a) (hb : Sm b) : IntMulOk a b := IntMulOk.of_bits ha hb
abbrev IsnaOK (Kf : Frag) (pg : Program) (w : World) (mean : ExcName → Option Value) (mg mb : Str → Option Value) : Prop :=
  ∀ (news : Led) (X : Addr) (p q : Int) (t u : Tok) (c : Nat), (X, tupO p q t u c) ∈ news → (¬ (p = 0 ∧ q = 0)) → Cal Kf pg w mean mg mb 1 8 99 [.ref X] news (RBool news false)
theorem use_isna {Kf : Frag} {pg : Program} {w : World} {mean : ExcName → Option Value} {mg mb : Str → Option Value} {news : Led} {X : Addr} {p q : Int} {t u : Tok} {c : Nat}
    {dp un : Nat} {gd : Option (List Code)} {cn : Str} {cs : Scope} {a : Addr} {ccd : Value} {cl : List (Str × Addr)} {outer : List Env} {A₀ : Around} {base h₀ : Heap} {L : Addr} {m : Str → Option Value} {s : Shared} {Q E : Value → Shared → Prop}
    (kB : Below A₀ base outer h₀) (kF : Fr h₀ L s.heap m) (kX : Kf.In h₀) (kN : News h₀ L s.heap news) (kT : Top pg (Lo pg) mean mg mb h₀) (kC : IsnaOK Kf pg w mean mg mb) (hk : cs.kind = .function) (hm0 : (X, tupO p q t u c) ∈ news) (hp0 : ¬ (p = 0 ∧ q = 0))
    (hd : dp + 1 < recursionLimit) (hu : un + 8 < cLine) (kr : (RBool news false : Fin') h₀ L m s Q E base (envX cn cs L a ccd cl :: outer)) :
    wpAny (model PySem.Challenge.pw_ov0068_01 w) (ktrTop dp un gd cn cs L a ccd cl outer) (call (.ref 99) [.ref X]) Q E s :=
  kC news X p q t u c hm0 hp0 _ _ _ _ _ _ _ _ _ _ _ _ _ _ _ _ _ kB kF kX kN kT hk hd hu kr
abbrev NegOK (Kf : Frag) (pg : Program) (w : World) (mean : ExcName → Option Value) (mg mb : Str → Option Value) : Prop :=
  ∀ (news : Led) (X : Addr) (p q : Int) (t u : Tok) (c : Nat), (X, tupO p q t u c) ∈ news → Cal Kf pg w mean mg mb 1 8 120 [.ref X] news (RTup news (0 - p) q)
theorem use_neg {Kf : Frag} {pg : Program} {w : World} {mean : ExcName → Option Value} {mg mb : Str → Option Value} {news : Led} {X : Addr} {p q : Int} {t u : Tok} {c : Nat}
    {dp un : Nat} {gd : Option (List Code)} {cn : Str} {cs : Scope} {a : Addr} {ccd : Value} {cl : List (Str × Addr)} {outer : List Env} {A₀ : Around} {base h₀ : Heap} {L : Addr} {m : Str → Option Value} {s : Shared} {Q E : Value → Shared → Prop}
    (kB : Below A₀ base outer h₀) (kF : Fr h₀ L s.heap m) (kX : Kf.In h₀) (kN : News h₀ L s.heap news) (kT : Top pg (Lo pg) mean mg mb h₀) (kC : NegOK Kf pg w mean mg mb) (hk : cs.kind = .function) (hm0 : (X, tupO p q t u c) ∈ news)
    (hd : dp + 1 < recursionLimit) (hu : un + 8 < cLine) (kr : (RTup news (0 - p) q : Fin') h₀ L m s Q E base (envX cn cs L a ccd cl :: outer)) :
    wpAny (model PySem.Challenge.pw_ov0068_01 w) (ktrTop dp un gd cn cs L a ccd cl outer) (call (.ref 120) [.ref X]) Q E s :=
  kC news X p q t u c hm0 _ _ _ _ _ _ _ _ _ _ _ _ _ _ _ _ _ kB kF kX kN kT hk hd hu kr
abbrev AddOK (Kf : Frag) (pg : Program) (w : World) (mean : ExcName → Option Value) (mg mb : Str → Option Value) : Prop :=
  ∀ (news : Led) (X Y : Addr) (p q r v : Int) (t u t' u' : Tok) (c c' : Nat), (X, tupO p q t u c) ∈ news → (Y, tupO r v t' u' c') ∈ news → (0 < q) → (0 < v) → (IntMulOk p v) → (IntMulOk r q) → (IntMulOk q v) → Cal Kf pg w mean mg mb 112 24 127 [.ref X, .ref Y] news (RTup news (mk1 (p * v + r * q) (q * v)) (mk2 (p * v + r * q) (q * v)))
theorem use_add {Kf : Frag} {pg : Program} {w : World} {mean : ExcName → Option Value} {mg mb : Str → Option Value} {news : Led} {X Y : Addr} {p q r v : Int} {t u t' u' : Tok} {c c' : Nat}
    {dp un : Nat} {gd : Option (List Code)} {cn : Str} {cs : Scope} {a : Addr} {ccd : Value} {cl : List (Str × Addr)} {outer : List Env} {A₀ : Around} {base h₀ : Heap} {L : Addr} {m : Str → Option Value} {s : Shared} {Q E : Value → Shared → Prop}
    (kB : Below A₀ base outer h₀) (kF : Fr h₀ L s.heap m) (kX : Kf.In h₀) (kN : News h₀ L s.heap news) (kT : Top pg (Lo pg) mean mg mb h₀) (kC : AddOK Kf pg w mean mg mb) (hk : cs.kind = .function) (hm0 : (X, tupO p q t u c) ∈ news) (hm1 : (Y, tupO r v t' u' c') ∈ news) (hp0 : 0 < q) (hp1 : 0 < v) (hp2 : IntMulOk p v) (hp3 : IntMulOk r q) (hp4 : IntMulOk q v)
    (hd : dp + 112 < recursionLimit) (hu : un + 24 < cLine) (kr : (RTup news (mk1 (p * v + r * q) (q * v)) (mk2 (p * v + r * q) (q * v)) : Fin') h₀ L m s Q E base (envX cn cs L a ccd cl :: outer)) :
    wpAny (model PySem.Challenge.pw_ov0068_01 w) (ktrTop dp un gd cn cs L a ccd cl outer) (call (.ref 127) [.ref X, .ref Y]) Q E s :=
  kC news X Y p q r v t u t' u' c c' hm0 hm1 hp0 hp1 hp2 hp3 hp4 _ _ _ _ _ _ _ _ _ _ _ _ _ _ _ _ _ kB kF kX kN kT hk hd hu kr
abbrev SubOK (Kf : Frag) (pg : Program) (w : World) (mean : ExcName → Option Value) (mg mb : Str → Option Value) : Prop :=
  ∀ (news : Led) (X Y : Addr) (p q r v : Int) (t u t' u' : Tok) (c c' : Nat), (X, tupO p q t u c) ∈ news → (Y, tupO r v t' u' c') ∈ news → (0 < q) → (0 < v) → (IntMulOk p v) → (IntMulOk (0 - r) q) → (IntMulOk q v) → Cal Kf pg w mean mg mb 114 32 134 [.ref X, .ref Y] news (RTup news (mk1 (p * v + (0 - r) * q) (q * v)) (mk2 (p * v + (0 - r) * q) (q * v)))
theorem use_sub {Kf : Frag} {pg : Program} {w : World} {mean : ExcName → Option Value} {mg mb : Str → Option Value} {news : Led} {X Y : Addr} {p q r v : Int} {t u t' u' : Tok} {c c' : Nat}
    {dp un : Nat} {gd : Option (List Code)} {cn : Str} {cs : Scope} {a : Addr} {ccd : Value} {cl : List (Str × Addr)} {outer : List Env} {A₀ : Around} {base h₀ : Heap} {L : Addr} {m : Str → Option Value} {s : Shared} {Q E : Value → Shared → Prop}
    (kB : Below A₀ base outer h₀) (kF : Fr h₀ L s.heap m) (kX : Kf.In h₀) (kN : News h₀ L s.heap news) (kT : Top pg (Lo pg) mean mg mb h₀) (kC : SubOK Kf pg w mean mg mb) (hk : cs.kind = .function) (hm0 : (X, tupO p q t u c) ∈ news) (hm1 : (Y, tupO r v t' u' c') ∈ news) (hp0 : 0 < q) (hp1 : 0 < v) (hp2 : IntMulOk p v) (hp3 : IntMulOk (0 - r) q) (hp4 : IntMulOk q v)
    (hd : dp + 114 < recursionLimit) (hu : un + 32 < cLine) (kr : (RTup news (mk1 (p * v + (0 - r) * q) (q * v)) (mk2 (p * v + (0 - r) * q) (q * v)) : Fin') h₀ L m s Q E base (envX cn cs L a ccd cl :: outer)) :
    wpAny (model PySem.Challenge.pw_ov0068_01 w) (ktrTop dp un gd cn cs L a ccd cl outer) (call (.ref 134) [.ref X, .ref Y]) Q E s :=
  kC news X Y p q r v t u t' u' c c' hm0 hm1 hp0 hp1 hp2 hp3 hp4 _ _ _ _ _ _ _ _ _ _ _ _ _ _ _ _ _ kB kF kX kN kT hk hd hu kr
abbrev MulOK (Kf : Frag) (pg : Program) (w : World) (mean : ExcName → Option Value) (mg mb : Str → Option Value) : Prop :=
  ∀ (news : Led) (X Y : Addr) (p q r v : Int) (t u t' u' : Tok) (c c' : Nat), (X, tupO p q t u c) ∈ news → (Y, tupO r v t' u' c') ∈ news → (0 < q) → (0 < v) → (IntMulOk p r) → (IntMulOk q v) → Cal Kf pg w mean mg mb 112 24 141 [.ref X, .ref Y] news (RTup news (mk1 (p * r) (q * v)) (mk2 (p * r) (q * v)))
theorem use_mul {Kf : Frag} {pg : Program} {w : World} {mean : ExcName → Option Value} {mg mb : Str → Option Value} {news : Led} {X Y : Addr} {p q r v : Int} {t u t' u' : Tok} {c c' : Nat}
    {dp un : Nat} {gd : Option (List Code)} {cn : Str} {cs : Scope} {a : Addr} {ccd : Value} {cl : List (Str × Addr)} {outer : List Env} {A₀ : Around} {base h₀ : Heap} {L : Addr} {m : Str → Option Value} {s : Shared} {Q E : Value → Shared → Prop}
    (kB : Below A₀ base outer h₀) (kF : Fr h₀ L s.heap m) (kX : Kf.In h₀) (kN : News h₀ L s.heap news) (kT : Top pg (Lo pg) mean mg mb h₀) (kC : MulOK Kf pg w mean mg mb) (hk : cs.kind = .function) (hm0 : (X, tupO p q t u c) ∈ news) (hm1 : (Y, tupO r v t' u' c') ∈ news) (hp0 : 0 < q) (hp1 : 0 < v) (hp2 : IntMulOk p r) (hp3 : IntMulOk q v)
    (hd : dp + 112 < recursionLimit) (hu : un + 24 < cLine) (kr : (RTup news (mk1 (p * r) (q * v)) (mk2 (p * r) (q * v)) : Fin') h₀ L m s Q E base (envX cn cs L a ccd cl :: outer)) :
    wpAny (model PySem.Challenge.pw_ov0068_01 w) (ktrTop dp un gd cn cs L a ccd cl outer) (call (.ref 141) [.ref X, .ref Y]) Q E s :=
  kC news X Y p q r v t u t' u' c c' hm0 hm1 hp0 hp1 hp2 hp3 _ _ _ _ _ _ _ _ _ _ _ _ _ _ _ _ _ kB kF kX kN kT hk hd hu kr
abbrev DivOK (Kf : Frag) (pg : Program) (w : World) (mean : ExcName → Option Value) (mg mb : Str → Option Value) : Prop :=
  ∀ (news : Led) (X Y : Addr) (p q r v : Int) (t u t' u' : Tok) (c c' : Nat), (X, tupO p q t u c) ∈ news → (Y, tupO r v t' u' c') ∈ news → (0 < q) → (0 < v) → (r ≠ 0) → (IntMulOk p v) → (IntMulOk q r) → Cal Kf pg w mean mg mb 112 24 148 [.ref X, .ref Y] news (RTup news (mk1 (p * v) (q * r)) (mk2 (p * v) (q * r)))
theorem use_div {Kf : Frag} {pg : Program} {w : World} {mean : ExcName → Option Value} {mg mb : Str → Option Value} {news : Led} {X Y : Addr} {p q r v : Int} {t u t' u' : Tok} {c c' : Nat}
    {dp un : Nat} {gd : Option (List Code)} {cn : Str} {cs : Scope} {a : Addr} {ccd : Value} {cl : List (Str × Addr)} {outer : List Env} {A₀ : Around} {base h₀ : Heap} {L : Addr} {m : Str → Option Value} {s : Shared} {Q E : Value → Shared → Prop}
    (kB : Below A₀ base outer h₀) (kF : Fr h₀ L s.heap m) (kX : Kf.In h₀) (kN : News h₀ L s.heap news) (kT : Top pg (Lo pg) mean mg mb h₀) (kC : DivOK Kf pg w mean mg mb) (hk : cs.kind = .function) (hm0 : (X, tupO p q t u c) ∈ news) (hm1 : (Y, tupO r v t' u' c') ∈ news) (hp0 : 0 < q) (hp1 : 0 < v) (hp2 : r ≠ 0) (hp3 : IntMulOk p v) (hp4 : IntMulOk q r)
    (hd : dp + 112 < recursionLimit) (hu : un + 24 < cLine) (kr : (RTup news (mk1 (p * v) (q * r)) (mk2 (p * v) (q * r)) : Fin') h₀ L m s Q E base (envX cn cs L a ccd cl :: outer)) :
    wpAny (model PySem.Challenge.pw_ov0068_01 w) (ktrTop dp un gd cn cs L a ccd cl outer) (call (.ref 148) [.ref X, .ref Y]) Q E s :=
  kC news X Y p q r v t u t' u' c c' hm0 hm1 hp0 hp1 hp2 hp3 hp4 _ _ _ _ _ _ _ _ _ _ _ _ _ _ _ _ _ kB kF kX kN kT hk hd hu kr
abbrev IsfinOK (Kf : Frag) (pg : Program) (w : World) (mean : ExcName → Option Value) (mg mb : Str → Option Value) : Prop :=
  ∀ (news : Led) (X : Addr) (p q : Int) (t u : Tok) (c : Nat), (X, tupO p q t u c) ∈ news → (0 < q) → Cal Kf pg w mean mg mb 1 8 106 [.ref X] news (RBool news true)
theorem use_isfin {Kf : Frag} {pg : Program} {w : World} {mean : ExcName → Option Value} {mg mb : Str → Option Value} {news : Led} {X : Addr} {p q : Int} {t u : Tok} {c : Nat}
    {dp un : Nat} {gd : Option (List Code)} {cn : Str} {cs : Scope} {a : Addr} {ccd : Value} {cl : List (Str × Addr)} {outer : List Env} {A₀ : Around} {base h₀ : Heap} {L : Addr} {m : Str → Option Value} {s : Shared} {Q E : Value → Shared → Prop}
    (kB : Below A₀ base outer h₀) (kF : Fr h₀ L s.heap m) (kX : Kf.In h₀) (kN : News h₀ L s.heap news) (kT : Top pg (Lo pg) mean mg mb h₀) (kC : IsfinOK Kf pg w mean mg mb) (hk : cs.kind = .function) (hm0 : (X, tupO p q t u c) ∈ news) (hp0 : 0 < q)
    (hd : dp + 1 < recursionLimit) (hu : un + 8 < cLine) (kr : (RBool news true : Fin') h₀ L m s Q E base (envX cn cs L a ccd cl :: outer)) :
    wpAny (model PySem.Challenge.pw_ov0068_01 w) (ktrTop dp un gd cn cs L a ccd cl outer) (call (.ref 106) [.ref X]) Q E s :=
  kC news X p q t u c hm0 hp0 _ _ _ _ _ _ _ _ _ _ _ _ _ _ _ _ _ kB kF kX kN kT hk hd hu kr
abbrev FloorOK (Kf : Frag) (pg : Program) (w : World) (mean : ExcName → Option Value) (mg mb : Str → Option Value) : Prop :=
  ∀ (news : Led) (X : Addr) (p q : Int) (t u : Tok) (c : Nat), (X, tupO p q t u c) ∈ news → (0 < q) → Cal Kf pg w mean mg mb 112 16 197 [.ref X] news (RTup news (p.fdiv q) 1)
theorem use_floor {Kf : Frag} {pg : Program} {w : World} {mean : ExcName → Option Value} {mg mb : Str → Option Value} {news : Led} {X : Addr} {p q : Int} {t u : Tok} {c : Nat}
    {dp un : Nat} {gd : Option (List Code)} {cn : Str} {cs : Scope} {a : Addr} {ccd : Value} {cl : List (Str × Addr)} {outer : List Env} {A₀ : Around} {base h₀ : Heap} {L : Addr} {m : Str → Option Value} {s : Shared} {Q E : Value → Shared → Prop}
    (kB : Below A₀ base outer h₀) (kF : Fr h₀ L s.heap m) (kX : Kf.In h₀) (kN : News h₀ L s.heap news) (kT : Top pg (Lo pg) mean mg mb h₀) (kC : FloorOK Kf pg w mean mg mb) (hk : cs.kind = .function) (hm0 : (X, tupO p q t u c) ∈ news) (hp0 : 0 < q)
    (hd : dp + 112 < recursionLimit) (hu : un + 16 < cLine) (kr : (RTup news (p.fdiv q) 1 : Fin') h₀ L m s Q E base (envX cn cs L a ccd cl :: outer)) :
    wpAny (model PySem.Challenge.pw_ov0068_01 w) (ktrTop dp un gd cn cs L a ccd cl outer) (call (.ref 197) [.ref X]) Q E s :=
  kC news X p q t u c hm0 hp0 _ _ _ _ _ _ _ _ _ _ _ _ _ _ _ _ _ kB kF kX kN kT hk hd hu kr
theorem mk2_gt {n d : Int} (h : d ≠ 0) : 0 < mk2 n d := by
  have hD : 0 < mkD d := by unfold mkD; split <;> omega
  have hg : 0 < gcdI (absI (mkN n d)) (mkD d) := by
    have h1 := gcd_ne (a := absI (mkN n d)) (b := mkD d) (by omega)
    unfold gcdI at h1 ⊢
    omega
  have hdvd : gcdI (absI (mkN n d)) (mkD d) ∣ mkD d := by
    unfold gcdI
    exact Int.gcd_dvd_right _ _
  unfold mk2
  generalize gcdI (absI (mkN n d)) (mkD d) = g at *
  obtain ⟨k, hk⟩ := hdvd
  rw [hk, Int.mul_comm, Int.fdiv_eq_ediv_of_nonneg _ (Int.le_of_lt hg), Int.mul_ediv_cancel _ (by omega)]
  rw [hk] at hD
  by_cases h2 : 0 < k
  · exact h2
  · exfalso
    have := Int.mul_nonneg (Int.le_of_lt hg) (show 0 ≤ -k by omega)
    rw [Int.mul_neg] at this
    omega
abbrev flD (p q r v : Int) : Int := (mk1 (p * v) (q * r)).fdiv (mk2 (p * v) (q * r))
abbrev rM1 (p q r v : Int) : Int := mk1 (flD p q r v * r) (1 * v)
abbrev rM2 (p q r v : Int) : Int := mk2 (flD p q r v * r) (1 * v)
abbrev IdivOK (Kf : Frag) (pg : Program) (w : World) (mean : ExcName → Option Value) (mg mb : Str → Option Value) : Prop :=
  ∀ (news : Led) (X Y : Addr) (p q r v : Int) (t u t' u' : Tok) (c c' : Nat), (X, tupO p q t u c) ∈ news → (Y, tupO r v t' u' c') ∈ news → (0 < q) → (0 < v) → (r ≠ 0) → (IntMulOk p v) → (IntMulOk q r) → Cal Kf pg w mean mg mb 114 32 204 [.ref X, .ref Y] news (RTup news (flD p q r v) 1)
theorem use_idiv {Kf : Frag} {pg : Program} {w : World} {mean : ExcName → Option Value} {mg mb : Str → Option Value} {news : Led} {X Y : Addr} {p q r v : Int} {t u t' u' : Tok} {c c' : Nat}
    {dp un : Nat} {gd : Option (List Code)} {cn : Str} {cs : Scope} {a : Addr} {ccd : Value} {cl : List (Str × Addr)} {outer : List Env} {A₀ : Around} {base h₀ : Heap} {L : Addr} {m : Str → Option Value} {s : Shared} {Q E : Value → Shared → Prop}
    (kB : Below A₀ base outer h₀) (kF : Fr h₀ L s.heap m) (kX : Kf.In h₀) (kN : News h₀ L s.heap news) (kT : Top pg (Lo pg) mean mg mb h₀) (kC : IdivOK Kf pg w mean mg mb) (hk : cs.kind = .function) (hm0 : (X, tupO p q t u c) ∈ news) (hm1 : (Y, tupO r v t' u' c') ∈ news) (hp0 : 0 < q) (hp1 : 0 < v) (hp2 : r ≠ 0) (hp3 : IntMulOk p v) (hp4 : IntMulOk q r)
    (hd : dp + 114 < recursionLimit) (hu : un + 32 < cLine) (kr : (RTup news (flD p q r v) 1 : Fin') h₀ L m s Q E base (envX cn cs L a ccd cl :: outer)) :
    wpAny (model PySem.Challenge.pw_ov0068_01 w) (ktrTop dp un gd cn cs L a ccd cl outer) (call (.ref 204) [.ref X, .ref Y]) Q E s :=
  kC news X Y p q r v t u t' u' c c' hm0 hm1 hp0 hp1 hp2 hp3 hp4 _ _ _ _ _ _ _ _ _ _ _ _ _ _ _ _ _ kB kF kX kN kT hk hd hu kr
abbrev RemdOK (Kf : Frag) (pg : Program) (w : World) (mean : ExcName → Option Value) (mg mb : Str → Option Value) : Prop :=
  ∀ (news : Led) (X Y : Addr) (p q r v : Int) (t u t' u' : Tok) (c c' : Nat), (X, tupO p q t u c) ∈ news → (Y, tupO r v t' u' c') ∈ news → (0 < q) → (0 < v) → (r ≠ 0) → (IntMulOk p v) → (IntMulOk q r) → (IntMulOk (flD p q r v) r) → (IntMulOk 1 v) → (IntMulOk p (rM2 p q r v)) → (IntMulOk (0 - rM1 p q r v) q) → (IntMulOk q (rM2 p q r v)) → Cal Kf pg w mean mg mb 116 40 211 [.ref X, .ref Y] news (RTup news (mk1 (p * rM2 p q r v + (0 - rM1 p q r v) * q) (q * rM2 p q r v)) (mk2 (p * rM2 p q r v + (0 - rM1 p q r v) * q) (q * rM2 p q r v)))
theorem use_remd {Kf : Frag} {pg : Program} {w : World} {mean : ExcName → Option Value} {mg mb : Str → Option Value} {news : Led} {X Y : Addr} {p q r v : Int} {t u t' u' : Tok} {c c' : Nat}
    {dp un : Nat} {gd : Option (List Code)} {cn : Str} {cs : Scope} {a : Addr} {ccd : Value} {cl : List (Str × Addr)} {outer : List Env} {A₀ : Around} {base h₀ : Heap} {L : Addr} {m : Str → Option Value} {s : Shared} {Q E : Value → Shared → Prop}
    (kB : Below A₀ base outer h₀) (kF : Fr h₀ L s.heap m) (kX : Kf.In h₀) (kN : News h₀ L s.heap news) (kT : Top pg (Lo pg) mean mg mb h₀) (kC : RemdOK Kf pg w mean mg mb) (hk : cs.kind = .function) (hm0 : (X, tupO p q t u c) ∈ news) (hm1 : (Y, tupO r v t' u' c') ∈ news) (hp0 : 0 < q) (hp1 : 0 < v) (hp2 : r ≠ 0) (hp3 : IntMulOk p v) (hp4 : IntMulOk q r) (hp5 : IntMulOk (flD p q r v) r) (hp6 : IntMulOk 1 v) (hp7 : IntMulOk p (rM2 p q r v)) (hp8 : IntMulOk (0 - rM1 p q r v) q) (hp9 : IntMulOk q (rM2 p q r v))
    (hd : dp + 116 < recursionLimit) (hu : un + 40 < cLine) (kr : (RTup news (mk1 (p * rM2 p q r v + (0 - rM1 p q r v) * q) (q * rM2 p q r v)) (mk2 (p * rM2 p q r v + (0 - rM1 p q r v) * q) (q * rM2 p q r v)) : Fin') h₀ L m s Q E base (envX cn cs L a ccd cl :: outer)) :
    wpAny (model PySem.Challenge.pw_ov0068_01 w) (ktrTop dp un gd cn cs L a ccd cl outer) (call (.ref 211) [.ref X, .ref Y]) Q E s :=
  kC news X Y p q r v t u t' u' c c' hm0 hm1 hp0 hp1 hp2 hp3 hp4 hp5 hp6 hp7 hp8 hp9 _ _ _ _ _ _ _ _ _ _ _ _ _ _ _ _ _ kB kF kX kN kT hk hd hu kr
theorem dict_mapFields (o : Obj) (f : Array Value → Array Value) : (o.mapFields f).dict = o.dict := by
  obtain ⟨c, d, dt, sl⟩ := o
  cases dt <;> rfl
/-- e: its class, its dict d, its newest traceback entry, and that entry's mark fl -/
def TrD (base h : Heap) (e d : Addr) (cls fl : Value) : Prop :=
  ∃ oe vs T oT ts, h.get? e = some oe ∧ (oe.cls = cls ∧ oe.dict = some d) ∧ oe.data = .fields vs ∧ vs[1]? = some (.ref T) ∧ base.get? T = none ∧ T ≠ e ∧ h.get? T = some oT ∧ oT.data = .fields ts ∧ ts[3]? = some fl
def FlyD (base : Heap) (l : List Env) (e d : Addr) (cls fl : Value) (h : Heap) : Prop := base.StaysIn h ∧ base.get? e = none ∧ h.FunFrames base l ∧ TrD base h e d cls fl
section
variable {M : Model} {A : Around} {E : Value → Shared → Prop} {s : Shared} {base : Heap} {env : Env} {outer l : List Env} {L e d : Addr} {cls fl : Value} {Q : Unit → Shared → Prop}
theorem entry_D {oe : Obj} {vs : Array Value} {head : Value} {hadNext : Bool} (hfr : A.frames = some (env :: outer)) (hl : s.heap.FunFrames base (env :: outer)) (hf : env.frame = some L)
    (he : s.heap.get? e = some oe) (hc : oe.cls = cls) (hdc : oe.dict = some d) (hkb : base.StaysIn s.heap) (hen : base.get? e = none) (hd : oe.data = .fields vs) (hsz : 1 < vs.size)
    (h : ∀ h', FlyD base (env :: outer) e d cls (rawInt L) h' → s.heap.UpToSlots h' → Q () { s with heap := h' }) :
    wpAny M A (do let a ← frameOf env; let pl ← entryPlaceOf L hadNext; let b ← EntryCells.newEntry head a .none (rawInt L) .none pl; setField (.ref e) 1 b) Q E s := by
  have apart : ∀ b o, s.heap.get? b = some o → (∀ ws, o.data ≠ .fields ws) → b ≠ e := fun b o hb hn q => by
    rw [q, he] at hb
    cases hb
    exact hn vs hd
  have out : e ∉ (env :: outer).filterMap (·.frame) := fun hm => by
    obtain ⟨_, o, ho, hn⟩ := hl.mem hm
    exact apart e o ho hn rfl
  refine wpAny_bind (wpAny_frameOf_fun hfr hl hf fun g hg => ?_)
  refine wpAny_bind (wpAny_entryPlaceOf fun pl hpl => ?_)
  unfold EntryCells.newEntry newFields
  refine wpAny_bind (wpAny_newObj_type ?_ (hpl.sizeOk5 _ _ _ _ _))
  have e1 : g.get? e = some oe := (hg.2.1 e out).trans he
  have gb : base.StaysIn g := fun b o hb => (hg.2.1 b fun hm => by rw [(hl.mem hm).1] at hb; cases hb).trans (hkb b o hb)
  have h3 : ([head, .ref L, .none, rawInt L, .none] ++ (if pl.isEmpty then List.replicate 6 Value.none else pl)).toArray[3]? = some (rawInt L) := by
    rw [List.getElem?_toArray]
    rfl
  generalize hts : ([head, .ref L, .none, rawInt L, .none] ++ (if pl.isEmpty then List.replicate 6 Value.none else pl)).toArray = ts at h3 ⊢
  have e2 := Heap.get?_push_of_some { cls := .type "traceback", dict := none, data := .fields ts } e1
  refine wpAny_setField e2 hd hsz ?_
  have hT : g.objs.size ≠ e := Nat.ne_of_gt (Heap.lt_size e1)
  have hd3 := Obj.data_mapFields hd (·.setIfInBounds 1 (Value.ref g.objs.size))
  have e3 := Heap.get?_update_self (Obj.mapFields (·.setIfInBounds 1 (Value.ref g.objs.size))) e2 (Obj.isFreed_of_fields hd3)
  have t3 := (Heap.get?_update_other (g.push { cls := .type "traceback", dict := none, data := .fields ts }) (Obj.mapFields (·.setIfInBounds 1 (Value.ref g.objs.size))) (Ne.symm hT)).trans (Heap.get?_push_size g rfl)
  have keep : ∀ b o, b ≠ e → g.get? b = some o → ((g.push { cls := .type "traceback", dict := none, data := .fields ts }).update e (Obj.mapFields (·.setIfInBounds 1 (Value.ref g.objs.size)))).get? b = some o := fun b o hb ho => by
    rw [Heap.get?_update_other _ _ (Ne.symm hb)]
    exact Heap.get?_push_of_some _ ho
  refine h _ ⟨fun b o hb => keep b o (fun q => by rw [q, hen] at hb; cases hb) (gb b o hb), hen, hl.of_keeps fun b o hb hn => ?_, ?_⟩ fun b o hb hn => ?_
  · obtain ⟨sl, hs⟩ := hg.2.2 b o hb
    exact ⟨_, keep b _ (apart b o hb hn) hs, rfl⟩
  · exact ⟨_, _, g.objs.size, _, ts, e3, ⟨(Obj.cls_mapFields _ _).trans hc, (dict_mapFields _ _).trans hdc⟩, hd3, by simp [hsz], gb.fresh, hT, t3, rfl, h3⟩
  · obtain ⟨sl, hs⟩ := hg.2.2 b o hb
    exact ⟨sl, keep b _ (apart b o hb hn) hs⟩
theorem note_first {oe : Obj} {vs : Array Value} (hfr : A.frames = some (env :: outer)) (hl : s.heap.FunFrames base (env :: outer)) (hf : env.frame = some L)
    (he : s.heap.get? e = some oe) (hc : oe.cls = cls) (hdc : oe.dict = some d) (hkb : base.StaysIn s.heap) (hen : base.get? e = none) (hd : oe.data = .fields vs) (h1 : vs[1]? = some .none)
    (h : ∀ h', FlyD base (env :: outer) e d cls (rawInt L) h' → s.heap.UpToSlots h' → Q () { s with heap := h' }) : wpAny M A (noteFrame (.ref e) env) Q E s := by
  unfold noteFrame
  simp only [hf]
  refine wpAny_bind (wpAny_field he hd h1 ?_)
  rw [if_neg (by decide)]
  exact entry_D hfr hl hf he hc hdc hkb hen hd (Array.getElem?_eq_some_iff.mp h1).1 h
theorem note_next (hfr : A.frames = some (env :: outer)) (hf : env.frame = some L) (hx : FlyD base (env :: outer) e d cls .none s.heap)
    (h : ∀ h', FlyD base (env :: outer) e d cls (rawInt L) h' → s.heap.UpToSlots h' → Q () { s with heap := h' }) : wpAny M A (noteFrame (.ref e) env) Q E s := by
  obtain ⟨kb, ken, kl, oe, vs, T, oT, ts, he, ⟨hc, hdc⟩, hd, h1, hnT, hTe, hT, hdT, h3⟩ := hx
  unfold noteFrame
  simp only [hf]
  refine wpAny_bind (wpAny_field he hd h1 ?_)
  rw [if_pos (show (Value.ref T != Value.none) = true from by simp)]
  refine wpAny_bind (wpAny_field hT hdT h3 ?_)
  rw [if_neg (show ¬ ((Value.none == rawInt L) = true) from by simp [rawInt])]
  refine wpAny_bind (wpAny_setField hT hdT (Array.getElem?_eq_some_iff.mp h3).1 ?_)
  have away : ∀ b, b ≠ T → (s.heap.update T (Obj.mapFields (·.setIfInBounds 3 Value.none))).get? b = s.heap.get? b := fun b hb => Heap.get?_update_other _ _ (Ne.symm hb)
  have apart : ∀ b o, s.heap.get? b = some o → (∀ ws, o.data ≠ .fields ws) → b ≠ T := fun b o hb hn q => by
    rw [q, hT] at hb
    cases hb
    exact hn ts hdT
  refine entry_D hfr (kl.of_keeps fun b o hb hn => ⟨o, (away b (apart b o hb hn)).trans hb, rfl⟩) hf ((away e (Ne.symm hTe)).trans he) hc hdc
    (fun b o hb => (away b fun q => by rw [q, hnT] at hb; cases hb).trans (kb b o hb)) ken hd (Array.getElem?_eq_some_iff.mp h1).1 fun h' x1 x2 => h h' x1 fun b o hb hn => x2 b o ((away b (apart b o hb hn)).trans hb) hn
theorem land_D (hx : FlyD base l e d cls fl s.heap) (h : ∀ h', FlyD base l e d cls .none h' → s.heap.UpToSlots h' → Q () { s with heap := h' }) : wpAny M A (setFlight (.ref e) none) Q E s := by
  obtain ⟨kb, ken, kl, oe, vs, T, oT, ts, he, hc, hd, h1, hnT, hTe, hT, hdT, h3⟩ := hx
  have hz := (Array.getElem?_eq_some_iff.mp h3).1
  unfold setFlight
  refine wpAny_bind (wpAny_field he hd h1 ?_)
  rw [if_pos (show (Value.ref T != Value.none) = true from by simp)]
  have away : ∀ b, b ≠ T → (s.heap.update T (Obj.mapFields (·.setIfInBounds 3 ((none : Option Addr).elim Value.none fun f => rawInt f)))).get? b = s.heap.get? b := fun b hb => Heap.get?_update_other _ _ (Ne.symm hb)
  have apart : ∀ b o, s.heap.get? b = some o → (∀ ws, o.data ≠ .fields ws) → b ≠ T := fun b o hb hn q => by
    rw [q, hT] at hb
    cases hb
    exact hn ts hdT
  refine wpAny_setField hT hdT hz (h _ ⟨fun b o hb => (away b fun q => by rw [q, hnT] at hb; cases hb).trans (kb b o hb), ken, kl.of_keeps fun b o hb hn => ⟨o, (away b (apart b o hb hn)).trans hb, rfl⟩, ?_⟩
    fun b o hb hn => ⟨o.slots, (away b (apart b o hb hn)).trans hb⟩)
  exact ⟨oe, vs, T, _, _, (away e (Ne.symm hTe)).trans he, hc, hd, h1, hnT, hTe, Heap.get?_update_self _ hT (Obj.isFreed_of_fields (Obj.data_mapFields hdT _)), Obj.data_mapFields hdT _, by simp [hz]⟩
theorem FlyD.off {h : Heap} (hx : FlyD base (env :: outer) e d cls fl h) : FlyD base outer e d cls fl h :=
  let ⟨k1, k2, ⟨_, _, k3⟩, k4⟩ := hx
  ⟨k1, k2, k3, k4⟩
theorem leaving_first {oe : Obj} {vs : Array Value} (hfr : A.frames = some (env :: outer)) (hl : s.heap.FunFrames base (env :: outer)) (hf : env.frame = some L)
    (he : s.heap.get? e = some oe) (hc : oe.cls = cls) (hdc : oe.dict = some d) (hkb : base.StaysIn s.heap) (hen : base.get? e = none) (hd : oe.data = .fields vs) (h1 : vs[1]? = some .none)
    (h : ∀ h', FlyD base outer e d cls .none h' → s.heap.UpToSlots h' → Q () { s with heap := h' }) : wpAny M A (leaving env (.ref e)) Q E s := by
  unfold leaving
  exact wpAny_bind (note_first hfr hl hf he hc hdc hkb hen hd h1 fun g x1 x2 => land_D x1 fun g' y1 y2 => h g' y1.off (x2.trans y2))
theorem leaving_on (hfr : A.frames = some (env :: outer)) (hf : env.frame = some L) (hx : FlyD base (env :: outer) e d cls .none s.heap)
    (h : ∀ h', FlyD base outer e d cls .none h' → s.heap.UpToSlots h' → Q () { s with heap := h' }) : wpAny M A (leaving env (.ref e)) Q E s := by
  unfold leaving
  exact wpAny_bind (note_next hfr hf hx fun g x1 x2 => land_D x1 fun g' y1 y2 => h g' y1.off (x2.trans y2))
end
theorem fly_base {base B h : Heap} {l : List Env} {e d : Addr} {cls fl : Value} (k : base.StaysIn B) (x : FlyD B l e d cls fl h) : FlyD base l e d cls fl h := by
  obtain ⟨f1, f2, f3, oe, vs, T, oT, ts, a1, a2, a3, a4, a5, a6⟩ := x
  exact ⟨fun b o q => f1 b o (k b o q), fresh_of_stays k f2, funFrames_base k f3, oe, vs, T, oT, ts, a1, a2, a3, a4, fresh_of_stays k a5, a6⟩
/-- e flies through the frames l; what the ledger names stands, and G but for the frames -/
def RaiD (base G : Heap) (l : List Env) (e d : Addr) (cls : Value) (news : Led) (h : Heap) : Prop :=
  ∃ B, base.StaysIn B ∧ (∀ b o, G.get? b = some o → b ∉ l.filterMap (·.frame) → B.get? b = some o) ∧ (∀ q ∈ news, B.get? q.1 = some q.2 ∧ G.get? q.1 = none ∧ base.get? q.1 = none) ∧ FlyD B l e d cls .none h
theorem RaiD.sub {base G h : Heap} {l : List Env} {e d : Addr} {cls : Value} {news news' : Led} (R : RaiD base G l e d cls news h) (hs : ∀ q ∈ news', q ∈ news) : RaiD base G l e d cls news' h :=
  let ⟨B, h1, h2, h3, h4⟩ := R
  ⟨B, h1, h2, fun q hq => h3 q (hs q hq), h4⟩
abbrev excO (cls : Value) (t d : Addr) : Obj := { cls := cls, dict := some d, data := .fields #[.ref t, .none, .none, .none, .bool false, .none] }
section
variable {M : Model} {A : Around} {E : Value → Shared → Prop} {s' : Shared} {base g : Heap} {outer : List Env} {L a e t d : Addr} {m : Str → Option Value} {name : Str} {scope : Scope} {cd cls : Value} {Q : Unit → Shared → Prop} {news : Led}
theorem leave_first_D (K : Below A base outer g) (F : Fr g L s'.heap m) (N : News g L s'.heap news) (he : s'.heap.get? e = some (excO cls t d)) (hne : g.get? e = none) (hap : ∀ q ∈ news, q.1 ≠ e)
    (hQ : ∀ h', RaiD base g outer e d cls news h' → g.UpToSlots h' → Q () { s' with heap := h' }) (hk : scope.kind = .function := by rfl) :
    wpAny M (A.deeper (envOf name scope L a cd)) (leaving (envOf name scope L a cd) (.ref e)) Q E s' := by
  have K' := K.push (name := name) (a := a) (cd := cd) F hk
  have hin : ∀ env ∈ (envOf name scope L a cd :: outer), ∀ b, env.frame = some b → b ∈ (e :: (envOf name scope L a cd :: outer).filterMap (·.frame)) := fun env he b hb => .tail _ (List.mem_filterMap.mpr ⟨env, he, hb⟩)
  have sg : ∀ b o, g.get? b = some o → b ∉ outer.filterMap (·.frame) → (hideAll s'.heap (e :: (envOf name scope L a cd :: outer).filterMap (·.frame))).get? b = some o := fun b o q nm => hideAll_get _ (F.keep b o q) fun hm => by
    rcases List.mem_cons.mp hm with rfl | hm
    · rw [hne] at q; cases q
    · rcases kts_mem hm with z | z
      · rw [z, kts_self F] at q; cases q
      · exact nm z
  have st : base.StaysIn (hideAll s'.heap (e :: (envOf name scope L a cd :: outer).filterMap (·.frame))) := fun b o q => sg b o (K.stays b o q) fun hm => by
    rw [(K.frames.mem hm).1] at q; cases q
  refine leaving_first (base := hideAll s'.heap (e :: (envOf name scope L a cd :: outer).filterMap (·.frame))) K'.stack (funFrames_hide K'.frames hin) rfl he rfl rfl (fun b o q => of_hideAll _ q) (hideAll_none _ (.head _)) rfl rfl fun h' x1 x2 => ?_
  refine hQ h' ⟨_, st, sg, fun q hq => ⟨hideAll_get _ (N q hq).1 fun hm => ?_, (N q hq).2.2, fresh_of_stays K.stays (N q hq).2.2⟩, x1⟩ ((Heap.UpToSlots.of_keeps F.keep).trans x2)
  rcases List.mem_cons.mp hm with hm | hm
  · exact hap q hq hm
  · rcases kts_mem hm with z | z
    · exact (N q hq).2.1 z
    · obtain ⟨o, ho, _⟩ := (K.frames.mem z).2
      rw [(N q hq).2.2] at ho; cases ho
theorem leave_on_D {g₂ : Heap} (K : Below A base outer g) (F : Fr g L g₂ m) (R : RaiD base g₂ (envOf name scope L a cd :: outer) e d cls news s'.heap) (hsm : g₂.UpToSlots s'.heap)
    (hQ : ∀ h', RaiD base g outer e d cls news h' → g.UpToSlots h' → Q () { s' with heap := h' }) :
    wpAny M (A.deeper (envOf name scope L a cd)) (leaving (envOf name scope L a cd) (.ref e)) Q E s' := by
  obtain ⟨B, hB, hG, hl, hfl⟩ := R
  refine leaving_on (Around.frames_deeper K.stack) rfl hfl fun h' x1 x2 => hQ h' ⟨B, hB, fun b o q nm => hG b o (F.keep b o q) fun hm => ?_, fun q hq => ⟨(hl q hq).1, kts_none F.keep (hl q hq).2.1, (hl q hq).2.2⟩, x1⟩ ((Heap.UpToSlots.of_keeps F.keep).trans (hsm.trans x2))
  rcases kts_mem hm with z | z
  · rw [z, kts_self F] at q; cases q
  · exact nm z
end
theorem FlyD.obj {base h : Heap} {l : List Env} {e d : Addr} {cls fl : Value} (x : FlyD base l e d cls fl h) : ∃ oe vs, h.get? e = some oe ∧ oe.cls = cls ∧ oe.dict = some d ∧ oe.data = .fields vs :=
  let ⟨_, _, _, oe, vs, _, _, _, he, hc, hd, _⟩ := x
  ⟨oe, vs, he, hc.1, hc.2, hd⟩
section
variable {prog : Program} {w : World} {A₀ : Around} {E : Value → Shared → Prop} {s' : Shared} {base g g₀ G : Heap} {outer : List Env} {L a e d C : Addr} {m : Str → Option Value} {name : Str} {scope : Scope} {cd : Value}
  {n : Str} {b₀ : Stmt} {suite : List Stmt} {pos np : Pos} {rest : List ExceptHandler} {Q : Flow → Shared → Prop} {news : Led} {KF : Frag}
  {p : Program} {loose : List Str} {mean : ExcName → Option Value} {mg mb : Str → Option Value} {x : Str}
theorem caught_DS (R : RaiD base G (envOf name scope L a cd :: outer) e d (.ref C) news s'.heap) (F : Fr g L G m) (K : Below A₀ base outer g) (hsm : G.UpToSlots s'.heap) (XB : KF.In base) (TB : Top p loose mean mg mb base)
    (D : KtsDicts (outer.filterMap (·.frame)) g) (T0 : KtsTurn (outer.filterMap (·.frame)) g₀ g)
    (ex : nsIn KF mainGlobals x = some (some (.ref C))) (q : ktsIn KF C "BaseException" = true)
    (k : ∀ h' g' oe tk, KtsTurn (outer.filterMap (·.frame)) g₀ g' → Fr g' L h' (fun y => if y = n then some (.ref e) else m y) → News g' L h' ((e, oe) :: news) → oe.cls = .ref C → oe.dict = some d → notCls oe = true → Below A₀ base outer g' → KF.In g' → Top p loose mean mg mb g' → KtsDicts (outer.filterMap (·.frame)) g' →
      wpAny (model prog w) ((A₀.deeper (envOf name scope L a cd)).mark (some (.ref e))) (execs (b₀ :: suite) (envOf name scope L a cd))
        (fun f s₄ => wpAny (model prog w) (A₀.deeper (envOf name scope L a cd)) (do bindName (envOf name scope L a cd) n .none; unbindBehindTheSuite (envOf name scope L a cd) n pos) (fun _ s₅ => Q f s₅) E s₄)
        (AsSuiteRaised (model prog w) ((A₀.deeper (envOf name scope L a cd)).mark (some (.ref e))) (envOf name scope L a cd) n pos (notedBy (model prog w) ((A₀.deeper (envOf name scope L a cd)).mark (some (.ref e))) (envOf name scope L a cd) (cameBackBy (model prog w) (A₀.deeper (envOf name scope L a cd)) (envOf name scope L a cd) E)))
        { s' with heap := h', toks := tk })
    (hk : scope.kind = .function := by rfl) (hlo : (envOf name scope L a cd).kindOf n = some .local := by rfl) (hx : (envOf name scope L a cd).kindOf x = some .globalImplicit := by rfl) (hd : (x == ("__debug__" : Str)) = false := by decide) :
    wpAny (model prog w) (A₀.deeper (envOf name scope L a cd)) (noteFrame (.ref e) (envOf name scope L a cd))
      (fun _ s₂ => wpAny (model prog w) (A₀.deeper (envOf name scope L a cd)) (setFlight (.ref e) none) (fun _ s₃ =>
        wpAny (model prog w) (A₀.deeper (envOf name scope L a cd)) (handleBy (.ref e) (envOf name scope L a cd) (.ExceptHandler (some (.Name x np)) (some n) (b₀ :: suite) pos :: rest)) Q E s₃) E s₂) E s' := by
  obtain ⟨B, hB, hBG, hl, hfl⟩ := R
  have hL : B.get? L = none := by
    obtain ⟨_, ⟨L', _, hf, hn', _⟩, _⟩ := hfl.2.2.1
    obtain rfl : L = L' := Option.some.inj hf
    exact hn'
  refine note_next (Around.frames_deeper K.stack) rfl hfl fun h₄ f₄ s₄ => ?_
  refine land_D f₄ fun h₅ f₅ s₅' => ?_
  have s₅ := s₄.trans s₅'
  obtain ⟨g₅, T₅, F₅, K₅⟩ := kts_ground K F hBG f₅.1 (hsm.trans s₅)
  have X₅ : KF.In g₅ := XB.keeps K₅.stays
  have P₅ : TopRead p loose mg mb g₅ := topRead_of (TB.keeps K₅.stays)
  obtain ⟨ob, _, hob, hobc, _⟩ := f₅.obj
  obtain ⟨nm, q', N, bs, bm, hdct, sn, sub, ab, col, dd, k0, k1, k2, k3, k5, newId, hC, hbase, _⟩ := kts_cls X₅ q
  refine wpAny_handleBy_cons (codeAny_handlers_test (name_K F₅ X₅ P₅ ex ?_ hk hx hd)) (by intro q; cases q)
  refine wpAny_excMatches_sub_self (F₅.keep _ _ hC) hob hobc hbase (codeAny_handlers_suite_as ?_)
  refine land_D f₅ fun h₆ f₆ s₆ => ?_
  obtain ⟨g₆, T₆, F₆, K₆⟩ := kts_ground K F hBG f₆.1 ((hsm.trans s₅).trans s₆)
  obtain ⟨oe, ws, hoe, hoec, hoed, hoef⟩ := f₆.obj
  have ne₆ : g₆.get? e = none := T₆.none_ _ (kts_fresh F hBG f₆.2.1 fun o ho mm => by
    obtain ⟨_, o', ho', hd'⟩ := K.frames.mem mm
    rw [ho] at ho'
    cases ho'
    obtain ⟨sl, hs⟩ := ((hsm.trans s₅).trans s₆) _ _ (F.keep _ _ ho) hd'
    rw [hoe] at hs
    cases hs
    exact hd' _ hoef)
  have Nl : News g₆ L h₆ news := fun q hq => ⟨f₆.1 _ _ (hl q hq).1, (fun z => by have := (hl q hq).1; rw [z, hL] at this; cases this), T₆.none_ _ (kts_none F.keep (hl q hq).2.1)⟩
  have N₆ : News g₆ L h₆ ((e, oe) :: news) := News.more F₆ Nl hoe (fun es n q => by rw [hoef] at q; cases q) ne₆
  refine stN F₆ N₆ (fun h₇ F₇ N₇ => ?_) hk hlo
  exact k h₇ g₆ oe _ (T0.trans T₆) F₇ N₇ hoec hoed (by unfold notCls; rw [hoef]) K₆ (XB.keeps K₆.stays) (TB.keeps K₆.stays) (D.turn T₆)
theorem caught_D0 (R : RaiD g G (envOf name scope L a cd :: outer) e d (.ref C) news s'.heap) (F : Fr g L G m) (K : Below A₀ g outer g) (hsm : G.UpToSlots s'.heap) (X : KF.In g) (T : TopRead p loose mg mb g)
    (ex : nsIn KF mainGlobals x = some (some (.ref C))) (q : ktsIn KF C "BaseException" = true)
    (k : ∀ h' oe tk, Fr g L h' (fun y => if y = n then some (.ref e) else m y) → News g L h' ((e, oe) :: news) → oe.cls = .ref C → oe.dict = some d → notCls oe = true →
      wpAny (model prog w) ((A₀.deeper (envOf name scope L a cd)).mark (some (.ref e))) (execs (b₀ :: suite) (envOf name scope L a cd))
        (fun f s₄ => wpAny (model prog w) (A₀.deeper (envOf name scope L a cd)) (do bindName (envOf name scope L a cd) n .none; unbindBehindTheSuite (envOf name scope L a cd) n pos) (fun _ s₅ => Q f s₅) E s₄)
        (AsSuiteRaised (model prog w) ((A₀.deeper (envOf name scope L a cd)).mark (some (.ref e))) (envOf name scope L a cd) n pos (notedBy (model prog w) ((A₀.deeper (envOf name scope L a cd)).mark (some (.ref e))) (envOf name scope L a cd) (cameBackBy (model prog w) (A₀.deeper (envOf name scope L a cd)) (envOf name scope L a cd) E)))
        { s' with heap := h', toks := tk })
    (hk : scope.kind = .function := by rfl) (hlo : (envOf name scope L a cd).kindOf n = some .local := by rfl) (hx : (envOf name scope L a cd).kindOf x = some .globalImplicit := by rfl) (hd : (x == ("__debug__" : Str)) = false := by decide) :
    wpAny (model prog w) (A₀.deeper (envOf name scope L a cd)) (noteFrame (.ref e) (envOf name scope L a cd))
      (fun _ s₂ => wpAny (model prog w) (A₀.deeper (envOf name scope L a cd)) (setFlight (.ref e) none) (fun _ s₃ =>
        wpAny (model prog w) (A₀.deeper (envOf name scope L a cd)) (handleBy (.ref e) (envOf name scope L a cd) (.ExceptHandler (some (.Name x np)) (some n) (b₀ :: suite) pos :: rest)) Q E s₃) E s₂) E s' := by
  obtain ⟨B, hB, _, hl, hfl⟩ := R
  have hL : B.get? L = none := by
    obtain ⟨_, ⟨L', _, hf, hn', _⟩, _⟩ := hfl.2.2.1
    obtain rfl : L = L' := Option.some.inj hf
    exact hn'
  refine note_next (Around.frames_deeper K.stack) rfl hfl fun h₄ f₄ s₄ => ?_
  refine land_D f₄ fun h₅ f₅ s₅' => ?_
  have s₅ := s₄.trans s₅'
  have F₅ := F.of_stays (fly_base hB f₅).1 (hsm.trans s₅)
  obtain ⟨ob, _, hob, hobc, _⟩ := f₅.obj
  obtain ⟨nm, q', N, bs, bm, hdct, sn, sub, ab, col, dd, k0, k1, k2, k3, k5, newId, hC, hbase, _⟩ := kts_cls X q
  refine wpAny_handleBy_cons (codeAny_handlers_test (name_K F₅ X T ex ?_ hk hx hd)) (by intro q; cases q)
  refine wpAny_excMatches_sub_self (F₅.keep _ _ hC) hob hobc hbase (codeAny_handlers_suite_as ?_)
  refine land_D f₅ fun h₆ f₆ s₆ => ?_
  have y₆ := fly_base hB f₆
  have F₆ := F.of_stays y₆.1 ((hsm.trans s₅).trans s₆)
  obtain ⟨oe, ws, hoe, hoec, hoed, hoef⟩ := f₆.obj
  have Nl : News g L h₆ news := fun q hq => ⟨f₆.1 _ _ (hl q hq).1, (fun z => by have := (hl q hq).1; rw [z, hL] at this; cases this), (hl q hq).2.2⟩
  have N₆ : News g L h₆ ((e, oe) :: news) := News.more F₆ Nl hoe (fun es n q => by rw [hoef] at q; cases q) y₆.2.1
  refine stN F₆ N₆ (fun h₇ F₇ N₇ => ?_) hk hlo
  exact k h₇ oe _ F₇ N₇ hoec hoed (by unfold notCls; rw [hoef])
end
abbrev excN (cls : Value) (t : Addr) : Obj := { cls := cls, data := .fields #[.ref t, .none, .none, .none, .bool false, .none] }
section
variable {prog : Program} {w : World} {A : Around} {R : Result → Shared → Prop} {h : Heap} {g : Array GenState} {d : Drawn} {t : Nat} {os : OsState}
variable {nm q : Str} {C N : Addr} {bs bm bmB : List Value} {hdct : Bool} {sn : List Str} {sub : List Value} {ab : Bool} {col : Option Bool} {dd : Option Addr} {k0 k1 k2 k3 k5 : Option Value} {B newId initId : String} {fI : Addr}
theorem exc_core (FB : ExcBaseFacts B newId initId bmB) (T : OwnTail h bmB bm) {rest : List Value} (hC : h.get? C = some (excClassObj nm q C N bs bm hdct sn sub ab col dd k0 k1 k2 k3 k5 newId))
    (hi : Looks (model prog w) h (typeLookup (.ref C) "__init__") (some (.ref fI))) (hb : ∀ self, Looks (model prog w) h (bindSpecial (.ref fI) self) (.ref fI, [self])) (hrest : rest.length ≤ sizeLine)
    (hq : codeAny (model prog w) (A.under (.builtin "type.__call__" ⟨.ref C :: rest, []⟩)) (.call (.ref fI) ⟨.ref (h.objs.size + 1) :: rest, []⟩) (InitBack (h.objs.size + 1) R)
      ⟨(h.push { cls := .type "tuple", data := .seq rest.toArray }).push (excN (.ref C) h.objs.size), g, d, t, os⟩) :
    codeAny (model prog w) A (.call (.ref C) ⟨rest, []⟩) R ⟨h, g, d, t, os⟩ := by
  have f1 := tc_lookup
  have f2 := tc_bind (.ref C)
  have hT : (⟨h, g, d, t, os⟩ : Shared).TypeIs (.ref C) "type" := ⟨_, hC, rfl⟩
  refine codeAny_of_tree ?_
  show wpAny _ _ (callAny (.ref C) _) _ _ _
  repeat (any_goals (first | assumption | with_reducible refine wpAny_loadPart_at hC ?_ | wp_step))
  refine ⟨rfl, ?_⟩
  show codeAny (model prog w) _ (.call (.builtin "type.__call__") ⟨.ref C :: rest, []⟩) _ _
  refine codeAny_call_builtin_at (Code.quiet_builtin _ (by decide +kernel)) entry_typeCall (wpAny_check_type_call_sub hC ?_)
  repeat (first | with_reducible refine wpAny_loadPart_at hC ?_ | with_reducible refine wpAny_madeBy_exc hC ?_ | wp_step)
  refine codeAny_call_builtin_code (Code.quiet_builtin _ FB.quiet) (wpAny_check_new_subT FB T hC ?_)
  refine codeAny_exc_new_subT FB T hC ?_ hrest
  show wpAny _ _ _ _ _ _
  have kk : ∀ b o, h.get? b = some o → ((h.push { cls := .type "tuple", data := .seq rest.toArray }).push (excN (.ref C) h.objs.size)).get? b = some o := fun b o e => Heap.get?_push_of_some _ (Heap.get?_push_of_some _ e)
  have hC₁ := kk _ _ hC
  have hx : ((h.push { cls := .type "tuple", data := .seq rest.toArray }).push (excN (.ref C) h.objs.size)).get? (h.objs.size + 1) = some { cls := .ref C, data := .fields #[.ref h.objs.size, .none, .none, .none, .bool false, .none] } := by heap_get
  have hcC : (Value.ref C :: bm).contains (.ref C) = true := by simp
  unfold isInstance
  repeat (first | with_reducible refine wpAny_loadPart_at hx ?_ | (with_reducible refine wpAny_isSubtype_exc hC₁ ?_; rw [hcC]) | wp_step)
  show wpAny _ _ (typeLookup (.ref C) _) _ _ _
  refine (hi.keeps kk).here ?_
  refine wpAny_holding (wpAny_bind (((hb _).keeps kk).here ?_))
  refine wpAny_bind (wpAny_call (codeAny_mono hq fun r s' z => ?_))
  rcases r with e | (v | _ | _ | _) <;> first | exact z | exact z.elim | skip
  obtain ⟨rfl, z⟩ := z
  exact wpAny_pure (wpAny_pure z)
end
theorem refuse_two (self : Value) (C D : Addr) : refuseLoop self "__setattr__" [.ref C, .ref D, .type "Exception", .type "BaseException", .type "object"] = pure () := by
  rw [refuseLoop_ref, refuseLoop_ref]
  exact PySem.F.store_Exception.passes self
section
open Builtin Builtin.ObjectAttr Builtin.Getset_descriptor
variable {prog : Program} {w : World} {A : Around} {K : Frag} {C D x : Addr} {s : Shared} {h₀ : Heap} {L : Addr} {m : Str → Option Value} {news : Led} {R : Result → Shared → Prop} {E : Value → Shared → Prop}
/-- a first attribute on an object that has no dict yet -/
theorem osa_exc {fs : Array Value} {cd : ClassData} {name : Str} {tk : Tok} {v : Value} (F : Fr h₀ L s.heap m) (N : News h₀ L s.heap ((x, ({ cls := .ref C, data := .fields fs } : Obj)) :: news)) (hx : ∀ p ∈ news, p.1 ≠ x) (X : K.In s.heap)
    (hc : clsIn K C = some cd) (hmro : cd.mro = [.ref C, .ref D, .type "Exception", .type "BaseException", .type "object"]) (hd : cd.hasDict = true) (ht : takerIn K C name = some none)
    (h : ∀ h' dx tk', Fr h₀ L h' m → News h₀ L h' ((x, ({ cls := .ref C, dict := some dx, data := .fields fs } : Obj)) :: (dx, dictOf [⟨PyData.keyHash w.params name, .str name tk', v⟩] 1) :: news) → (∀ p ∈ news, p.1 < dx) → x < dx → R (.ok (.ret .none)) { s with heap := h', toks := tk' + 1 }) :
    codeAny (model prog w) A (.call (.builtin "object.__setattr__") ⟨[.ref x, .str name tk, v], []⟩) R s := by
  have SF := PySem.F.store_object
  have D0 := (N _ (.head _)).1
  have It : Looks (model prog w) s.heap (typeOf (.ref x)) (.ref C) := (Looks.ld D0).andThen .now
  have hm : Looks (model prog w) s.heap (mroOf (.ref C)) cd.mro := (looks_clsIn X hc).andThen .now
  have hin : mroIn K C (.type "object") = some true := by
    unfold mroIn
    rw [hc, Option.bind_some, hmro]
    rfl
  have sub : Looks (model prog w) s.heap (isInstance (.ref x) (.type "object")) true := It.andThen (looks_mroIn X hin)
  refine codeAny_call_builtin SF.slot.plain SF.entry (@check_slot (model prog w) _ _ s "object.__setattr__" "object" "__setattr__" (.ref x) [.str name tk, v] [] _ SF.kind SF.split sub (SF.args (.ref x) (.str name tk) v) ?_)
  obtain ⟨attr, ha, hr⟩ := Option.bind_eq_some_iff.mp ht
  have L3 : Looks (model prog w) s.heap (storeTaker? attr) none := by
    cases attr with
    | none => exact .now
    | some a =>
      obtain ⟨b, hb, hb'⟩ := Option.map_eq_some_iff.mp hr
      refine (looks_takesIn X hb).andThen ?_
      cases b with
      | true => cases hb'
      | false => exact .now
  rw [osa_eq, refuse_eq]
  refine wpAny_bind (wpAny_bind (It.here (wpAny_bind (hm.here ?_))))
  rw [hmro, refuse_two]
  refine wpAny_pure (wpAny_bind (It.here (wpAny_bind ((looks_findIn X ha).here (wpAny_bind (L3.here ?_))))))
  show wpAny _ _ (storeInOwnDict (.ref x) (.ref C) (.str name tk) name v attr.isSome) _ _ _
  obtain ⟨hh, g, dr, t, os⟩ := s
  refine wpAny_bind (wpAny_pure (wpAny_bind (wpAny_bind (wpAny_loadPart D0 (wpAny_bind ((looks_clsIn X hc).here ?_))))))
  rw [hd]
  have F1 := F.push emptyDict
  have N1 := N.push F emptyDict
  have hxs : x < hh.objs.size := Heap.lt_size D0
  have hlt : ∀ p ∈ news, p.1 < hh.objs.size := fun p hp => Heap.lt_size (N p (.tail _ hp)).1
  obtain ⟨F2, N2⟩ := news_upd (pre := [(hh.objs.size, emptyDict)]) (post := news) (f := fun o => { o with dict := some hh.objs.size }) F1 N1 (fun p hp => by rw [List.mem_singleton.mp hp]; exact Nat.ne_of_gt hxs) hx rfl rfl
  obtain ⟨F3, N3⟩ := news_upd (pre := []) (post := (x, ({ cls := .ref C, dict := some hh.objs.size, data := .fields fs } : Obj)) :: news) (f := Obj.putName name (PyData.keyHash w.params name) (.str name t) v) F2 N2 (fun _ hp => nomatch hp)
    (fun p hp => (List.mem_cons.mp hp).elim (fun e => by rw [e]; exact Nat.ne_of_lt hxs) fun e => Nat.ne_of_lt (hlt p e)) (putName_dict name (PyData.keyHash w.params name) (.str name t) v [] 0) rfl
  refine wpAny_bind (wpAny_alloc (wpAny_bind (wpAny_update (N1 (x, _) (.tail _ (.head _))).1 (wpAny_pure ?_))))
  refine wpAny_bind (wpAny_pure (wpAny_bind ?_))
  unfold nsSet
  refine wpAny_bind (wpAny_bind (wpAny_askSetting (wpAny_pure (wpAny_bind (wpAny_mkText (wpAny_bind (wpAny_loadPart (N2 (hh.objs.size, emptyDict) (.head _)).1 ?_)))))))
  dsimp only
  rw [aRefKeyMayBeTheName_at, if_neg (by simp)]
  refine wpAny_updatePart (N2 (hh.objs.size, emptyDict) (.head _)).1 ?_
  refine wpAny_bind (wpAny_lookBehind (N3 _ (.head _)).1 (pastItsLine_dict (by show _ ≤ _; rw [sizeLine_eq]; simp [putL])) ?_)
  refine wpAny_pure (h _ hh.objs.size t F3 (fun p hp => N3 p ?_) hlt hxs)
  rcases List.mem_cons.mp hp with rfl | hp
  · exact .tail _ (.head _)
  · rcases List.mem_cons.mp hp with rfl | hp
    · exact .head _
    · exact .tail _ (.tail _ hp)
end
section
variable {prog : Program} {w : World} {A : Around} {K : Frag} {C D x : Addr} {s : Shared} {h₀ : Heap} {L : Addr} {m : Str → Option Value} {news : Led} {E : Value → Shared → Prop} {Q : Unit → Shared → Prop}
theorem set_exc {fs : Array Value} {cd : ClassData} {name : Str} {v : Value} (F : Fr h₀ L s.heap m) (N : News h₀ L s.heap ((x, ({ cls := .ref C, data := .fields fs } : Obj)) :: news)) (hx : AllLt x news) (X : K.In h₀)
    (hc : clsIn K C = some cd) (hmro : cd.mro = [.ref C, .ref D, .type "Exception", .type "BaseException", .type "object"]) (hd : cd.hasDict = true) (ht : takerIn K C name = some none)
    (hs : findIn K (.ref C) "__setattr__" = some (some (.builtin "object.__setattr__")))
    (h : ∀ h' dx tk', Fr h₀ L h' m → News h₀ L h' ((x, ({ cls := .ref C, dict := some dx, data := .fields fs } : Obj)) :: (dx, dictOf [⟨PyData.keyHash w.params name, .str name tk', v⟩] 1) :: news) → AllLt dx news → x < dx → Q () { s with heap := h', toks := tk' + 1 }) :
    wpAny (model prog w) A (setAttr (.ref x) name v) Q E s :=
  set_plain (X.keeps F.keep) (od := none) ⟨(N _ (.head _)).1, rfl, rfl, trivial⟩ hs (osa_exc (s := { s with toks := s.toks + 1 }) F N (fun p hp => Nat.ne_of_lt (ktn_ltOf hx p hp)) (X.keeps F.keep) hc hmro hd ht fun h' dx tk' F' N' l1 l2 => h h' dx tk' F' N' (allLt_of l1) l2)
end
abbrev msgO (P : Params) (msg : Str) (t1 tm : Tok) : Obj := dictOf [⟨PyData.keyHash P "message", .str "message" t1, .str msg tm⟩] 1
abbrev RExcO (w : World) (news : Led) (msg : Str) (tm : Tok) : Fin' := fun h₀ L m s Q _ _ _ => ∀ (e d tt : Addr) (t1 : Tok) (h' : Heap) (tk' : Nat), Fr h₀ L h' m → News h₀ L h' ((e, excO (.ref 65) tt d) :: (d, msgO w.params msg t1 tm) :: news) → AllLt d news → AllLt e news → @LT.lt Nat _ e d → Q (.ref e) { s with heap := h', toks := tk' }
theorem ret_exc {w : World} {news : Led} {msg : Str} {tm t1 : Tok} {h₀ h' : Heap} {L e d tt : Addr} {x : Addr × Obj} {m : Str → Option Value} {s : Shared} {Q E : Value → Shared → Prop} {b : Heap} {o : List Env} {tk' : Nat}
    (hret : RExcO w news msg tm h₀ L m s Q E b o) (F : Fr h₀ L h' m) (N : News h₀ L h' ((e, excO (.ref 65) tt d) :: (d, msgO w.params msg t1 tm) :: x :: news)) (h1 : AllLt d news) (h2 : AllLt e news) (h3 : @LT.lt Nat _ e d) : Q (.ref e) { s with heap := h', toks := tk' } := by
  refine hret e d tt t1 h' tk' F (fun p hp => N p ?_) h1 h2 h3
  rcases List.mem_cons.mp hp with rfl | hp
  · exact .head _
  · rcases List.mem_cons.mp hp with rfl | hp
    · exact .tail _ (.head _)
    · exact .tail _ (.tail _ (.tail _ hp))
abbrev RefusalOK (Kf : Frag) (pg : Program) (w : World) (mean : ExcName → Option Value) (mg mb : Str → Option Value) : Prop :=
  ∀ (news : Led) (msg : Str) (tm : Tok), Cal Kf pg w mean mg mb 3 16 65 [.str msg tm] news (RExcO w news msg tm)
theorem use_refusal {Kf : Frag} {pg : Program} {w : World} {mean : ExcName → Option Value} {mg mb : Str → Option Value} {news : Led} {msg : Str} {tm : Tok}
    {dp un : Nat} {gd : Option (List Code)} {cn : Str} {cs : Scope} {a : Addr} {ccd : Value} {cl : List (Str × Addr)} {outer : List Env} {A₀ : Around} {base h₀ : Heap} {L : Addr} {m : Str → Option Value} {s : Shared} {Q E : Value → Shared → Prop}
    (kB : Below A₀ base outer h₀) (kF : Fr h₀ L s.heap m) (kX : Kf.In h₀) (kN : News h₀ L s.heap news) (kT : Top pg (Lo pg) mean mg mb h₀) (kC : RefusalOK Kf pg w mean mg mb) (hk : cs.kind = .function)
    (hd : dp + 3 < recursionLimit) (hu : un + 16 < cLine) (kr : (RExcO w news msg tm : Fin') h₀ L m s Q E base (envX cn cs L a ccd cl :: outer)) :
    wpAny (model PySem.Challenge.pw_ov0068_01 w) (ktrTop dp un gd cn cs L a ccd cl outer) (call (.ref 65) [.str msg tm]) Q E s :=
  kC news msg tm _ _ _ _ _ _ _ _ _ _ _ _ _ _ _ _ _ kB kF kX kN kT hk hd hu kr
def RaisePost (C : Addr) (E : Value → Shared → Prop) (v : Value) (s₁ : Shared) : Prop :=
  ∃ e t d nm q N bs bm hdct sn sub ab col dd k0 k1 k2 k3 k5 newId, v = .ref e ∧ s₁.heap.get? C = some (excClassObj nm q C N bs bm hdct sn sub ab col dd k0 k1 k2 k3 k5 newId) ∧ bm.contains (.type "BaseException") = true ∧
    s₁.heap.get? e = some (excO (.ref C) t d) ∧ E (.ref e) s₁
theorem raise_post {K : Frag} {C e t d : Addr} {h₀ : Heap} {L : Addr} {m : Str → Option Value} {s : Shared} {news : Led} {E : Value → Shared → Prop}
    (F : Fr h₀ L s.heap m) (N : News h₀ L s.heap ((e, excO (.ref C) t d) :: news)) (X : K.In h₀) (q : ktsIn K C "BaseException" = true) (h : E (.ref e) s) : RaisePost C E (.ref e) s := by
  obtain ⟨nm, q', N', bs, bm, hdct, sn, sub, ab, col, dd, k0, k1, k2, k3, k5, newId, hC, hb, _⟩ := kts_cls (X.keeps F.keep) q
  exact ⟨e, t, d, nm, q', N', bs, bm, hdct, sn, sub, ab, col, dd, k0, k1, k2, k3, k5, newId, rfl, hC, hb, (N _ (.head _)).1, h⟩
theorem raise_exc {prog : Program} {w : World} {A : Around} {E : Value → Shared → Prop} {s : Shared} {env : Env} {C : Addr} {x : Expr} {pos : Pos} {Q : Flow → Shared → Prop} (hh : A.handled = none)
    (h : wpAny (model prog w) A (eval x env) (RaisePost C E) E s) : wpAny (model prog w) A (exec (.Raise (some x) none pos) env) Q E s := by
  rw [arm_exec_Raise]
  simp only [evalOpt, Option.map]
  refine wpAny_bind (wpAny_standAt ?_)
  unfold raiseStmt
  refine wpAny_bind (wpAny_bind (wpAny_mono h (fun v s₁ h₁ => wpAny_bind (wpAny_standAt (wpAny_pure ?_))) fun _ _ x => x))
  obtain ⟨e, t, d, nm, q, N, bs, bm, hdct, sn, sub, ab, col, dd, k0, k1, k2, k3, k5, newId, rfl, hC, hb, he, hE⟩ := h₁
  have hcB : (Value.ref C :: bm).contains (.type "BaseException") = true := by rw [List.contains_cons, hb, Bool.or_true]
  obtain ⟨hp, g, dr, tk, os⟩ := s₁
  repeat (first | with_reducible refine wpAny_loadPart_at he ?_ | with_reducible refine wpAny_loadPart_at hC ?_ | (with_reducible refine wpAny_isSubtype_exc hC ?_; rw [hcB]) | wp_step)
  exact wpAny_raiseNew_none hh hE
theorem leave_first_N {M : Model} {A : Around} {E : Value → Shared → Prop} {s' : Shared} {base g : Heap} {outer : List Env} {L a e t d : Addr} {m : Str → Option Value} {name : Str} {scope : Scope} {cd cls : Value} {Q : Unit → Shared → Prop} {news : Led}
    (K : Below A base outer g) (F : Fr g L s'.heap m) (N : News g L s'.heap ((e, excO cls t d) :: news)) (hap : ∀ q ∈ news, q.1 ≠ e)
    (hQ : ∀ h', RaiD base g outer e d cls news h' → g.UpToSlots h' → Q () { s' with heap := h' }) (hk : scope.kind = .function := by rfl) :
    wpAny M (A.deeper (envOf name scope L a cd)) (leaving (envOf name scope L a cd) (.ref e)) Q E s' :=
  leave_first_D K F (fun p hp => N p (.tail _ hp)) (N _ (.head _)).1 (N _ (.head _)).2.2 hap hQ hk
abbrev refused : Str := Str.ofString "result is not exact"
abbrev RExc (w : World) (news : Led) : Fin' := fun h₀ L m s _ E base envs => ∀ (e d : Addr) (G : Heap) (t1 tm : Tok) (h' : Heap) (tk' : Nat), Fr h₀ L G m → RaiD base G envs e d (.ref 65) ((d, msgO w.params refused t1 tm) :: news) h' → G.UpToSlots h' → E (.ref e) { s with heap := h', toks := tk' }
theorem ret_rexc {w : World} {news news' : Led} {h₀ G h' : Heap} {L e d : Addr} {m : Str → Option Value} {s : Shared} {E : Value → Shared → Prop} {base : Heap} {envs : List Env} {t1 tm : Tok} {tk' : Nat}
    (hret : RExc w news h₀ L m s (fun _ _ => True) E base envs) (F : Fr h₀ L G m) (R : RaiD base G envs e d (.ref 65) news' h') (U : G.UpToSlots h') (hm : (d, msgO w.params refused t1 tm) ∈ news') (hn : ∀ q ∈ news, q ∈ news') : E (.ref e) { s with heap := h', toks := tk' } :=
  hret e d G t1 tm h' tk' F (R.sub fun q hq => (List.mem_cons.mp hq).elim (fun e => e ▸ hm) (hn q)) U
abbrev RWith (w : World) (news : Led) (X : Addr) (ok : Prop) : Fin' := fun h₀ L m s Q E base envs => (ok → ∀ (h' : Heap) (tk' : Nat), Fr h₀ L h' m → News h₀ L h' news → Q (.ref X) { s with heap := h', toks := tk' }) ∧ (¬ ok → RExc w news h₀ L m s Q E base envs)
@[irreducible] def T5 : Int := ((10 ^ 5000 : Nat) : Int)
abbrev MostOK (K : Frag) : Prop := nsIn K mainGlobals (Str.ofString "MOST_DOUBLE") = some (some (.int T5 493))
local macro_rules | `(tactic| k_all) => `(tactic| (refine' fun p hp => Nat.ne_of_lt (ktn_ltOf ?ka p hp); (case ka => assumption)))
abbrev WithinOK (Kf : Frag) (pg : Program) (w : World) (mean : ExcName → Option Value) (mg mb : Str → Option Value) : Prop :=
  ∀ (news : Led) (X : Addr) (p q : Int) (t u : Tok) (c : Nat), (X, tupO p q t u c) ∈ news → Cal Kf pg w mean mg mb 6 32 324 [.ref X] news (RWith w news X (absI p ≤ T5 ∧ q ≤ T5))
theorem use_within {Kf : Frag} {pg : Program} {w : World} {mean : ExcName → Option Value} {mg mb : Str → Option Value} {news : Led} {X : Addr} {p q : Int} {t u : Tok} {c : Nat}
    {dp un : Nat} {gd : Option (List Code)} {cn : Str} {cs : Scope} {a : Addr} {ccd : Value} {cl : List (Str × Addr)} {outer : List Env} {A₀ : Around} {base h₀ : Heap} {L : Addr} {m : Str → Option Value} {s : Shared} {Q E : Value → Shared → Prop}
    (kB : Below A₀ base outer h₀) (kF : Fr h₀ L s.heap m) (kX : Kf.In h₀) (kN : News h₀ L s.heap news) (kT : Top pg (Lo pg) mean mg mb h₀) (kC : WithinOK Kf pg w mean mg mb) (hk : cs.kind = .function) (hm0 : (X, tupO p q t u c) ∈ news)
    (hd : dp + 6 < recursionLimit) (hu : un + 32 < cLine) (kr : (RWith w news X (absI p ≤ T5 ∧ q ≤ T5) : Fin') h₀ L m s Q E base (envX cn cs L a ccd cl :: outer)) :
    wpAny (model PySem.Challenge.pw_ov0068_01 w) (ktrTop dp un gd cn cs L a ccd cl outer) (call (.ref 324) [.ref X]) Q E s :=
  kC news X p q t u c hm0 _ _ _ _ _ _ _ _ _ _ _ _ _ _ _ _ _ kB kF kX kN kT hk hd hu kr
inductive Op where | add | sub | mul | div | idv | mod
def Op.s : Op → Str
  | .add => Str.ofString "+"
  | .sub => Str.ofString "-"
  | .mul => Str.ofString "*"
  | .div => Str.ofString "/"
  | .idv => Str.ofString "%/%"
  | .mod => Str.ofString "%%"
def opA (o : Op) (p q r v : Int) : Int := match o with
  | .add => mk1 (p * v + r * q) (q * v)
  | .sub => mk1 (p * v + (0 - r) * q) (q * v)
  | .mul => mk1 (p * r) (q * v)
  | .div => mk1 (p * v) (q * r)
  | .idv => flD p q r v
  | .mod => mk1 (p * rM2 p q r v + (0 - rM1 p q r v) * q) (q * rM2 p q r v)
def opB (o : Op) (p q r v : Int) : Int := match o with
  | .add => mk2 (p * v + r * q) (q * v)
  | .sub => mk2 (p * v + (0 - r) * q) (q * v)
  | .mul => mk2 (p * r) (q * v)
  | .div => mk2 (p * v) (q * r)
  | .idv => 1
  | .mod => mk2 (p * rM2 p q r v + (0 - rM1 p q r v) * q) (q * rM2 p q r v)
def opOk (o : Op) (p q r v : Int) : Prop := match o with
  | .idv => True
  | .mod => True
  | o => absI (opA o p q r v) ≤ T5 ∧ opB o p q r v ≤ T5
structure OpHyp (p q r v : Int) : Prop where
  q0 : 0 < q
  v0 : 0 < v
  r0 : r ≠ 0
  m1 : IntMulOk p v
  m2 : IntMulOk r q
  m3 : IntMulOk q v
  m4 : IntMulOk (0 - r) q
  m5 : IntMulOk p r
  m6 : IntMulOk q r
  m7 : IntMulOk (flD p q r v) r
  m8 : IntMulOk 1 v
  m9 : IntMulOk p (rM2 p q r v)
  m10 : IntMulOk (0 - rM1 p q r v) q
  m11 : IntMulOk q (rM2 p q r v)
abbrev RTwo (w : World) (news : Led) (ok : Prop) (p q : Int) : Fin' := fun h₀ L m s Q E base envs => (ok → RTup news p q h₀ L m s Q E base envs) ∧ (¬ ok → RExc w news h₀ L m s Q E base envs)
abbrev DopOK (Kf : Frag) (pg : Program) (w : World) (mean : ExcName → Option Value) (mg mb : Str → Option Value) : Prop :=
  ∀ (news : Led) (o : Op) (ts : Tok) (X Y : Addr) (p q r v : Int) (t u t' u' : Tok) (c c' : Nat), (X, tupO p q t u c) ∈ news → (Y, tupO r v t' u' c') ∈ news → (OpHyp p q r v) → Cal Kf pg w mean mg mb 120 64 331 [.str o.s ts, .ref X, .ref Y] news (RTwo w news (opOk o p q r v) (opA o p q r v) (opB o p q r v))
theorem use_dop {Kf : Frag} {pg : Program} {w : World} {mean : ExcName → Option Value} {mg mb : Str → Option Value} {news : Led} {o : Op} {ts : Tok} {X Y : Addr} {p q r v : Int} {t u t' u' : Tok} {c c' : Nat}
    {dp un : Nat} {gd : Option (List Code)} {cn : Str} {cs : Scope} {a : Addr} {ccd : Value} {cl : List (Str × Addr)} {outer : List Env} {A₀ : Around} {base h₀ : Heap} {L : Addr} {m : Str → Option Value} {s : Shared} {Q E : Value → Shared → Prop}
    (kB : Below A₀ base outer h₀) (kF : Fr h₀ L s.heap m) (kX : Kf.In h₀) (kN : News h₀ L s.heap news) (kT : Top pg (Lo pg) mean mg mb h₀) (kC : DopOK Kf pg w mean mg mb) (hk : cs.kind = .function) (hm0 : (X, tupO p q t u c) ∈ news) (hm1 : (Y, tupO r v t' u' c') ∈ news) (hp0 : OpHyp p q r v)
    (hd : dp + 120 < recursionLimit) (hu : un + 64 < cLine) (kr : (RTwo w news (opOk o p q r v) (opA o p q r v) (opB o p q r v) : Fin') h₀ L m s Q E base (envX cn cs L a ccd cl :: outer)) :
    wpAny (model PySem.Challenge.pw_ov0068_01 w) (ktrTop dp un gd cn cs L a ccd cl outer) (call (.ref 331) [.str o.s ts, .ref X, .ref Y]) Q E s :=
  kC news o ts X Y p q r v t u t' u' c c' hm0 hm1 hp0 _ _ _ _ _ _ _ _ _ _ _ _ _ _ _ _ _ kB kF kX kN kT hk hd hu kr
def pwA (p q n : Int) : Int := if 0 ≤ n then p ^ n.toNat else mk1 (q ^ (0 - n).toNat) (p ^ (0 - n).toNat)
def pwB (p q n : Int) : Int := if 0 ≤ n then q ^ n.toNat else mk2 (q ^ (0 - n).toNat) (p ^ (0 - n).toNat)
abbrev Tiny (a : Int) : Prop := Builtin.Int.intBits a ≤ 64
theorem tiny_pow {a n : Int} (h : Tiny a) (hn : 0 ≤ n) (hm : n ≤ 20000) : (Builtin.Int.intBits a : Int) * n ≤ 2 ^ 27 := by
  have h' : (Builtin.Int.intBits a : Int) ≤ 64 := by exact_mod_cast h
  calc (Builtin.Int.intBits a : Int) * n ≤ 64 * n := Int.mul_le_mul_of_nonneg_right h' hn
    _ ≤ 2 ^ 27 := by omega
theorem eq_tt {prog : Program} {w : World} {A : Around} {E : Value → Shared → Prop} {s : Shared} {X Y : Addr} {p q r v : Int} {t u t' u' : Tok} {c c' : Nat} {Q : Value → Shared → Prop}
    (hX : s.heap.get? X = some (tupO p q t u c)) (hY : s.heap.get? Y = some (tupO r v t' u' c')) (hu : A.units + 64 < cLine) (h : Q (.bool (decide (p = r ∧ q = v))) s) :
    wpAny (model prog w) A (compareOp .Eq (.ref X) (.ref Y)) Q E s := by
  refine eq_dataH (da := .tuple [.int p, .int q]) (db := .tuple [.int r, .int v]) (reads_tuple_at hX rfl rfl (.cons (.int _ _) (.cons (.int _ _) .nil))) (reads_tuple_at hY rfl rfl (.cons (.int _ _) (.cons (.int _ _) .nil))) rfl rfl hu ?_
  have e : PyData.eqv (.tuple [.int p, .int q]) (.tuple [.int r, .int v]) = decide (p = r ∧ q = v) := by
    simp only [PyData.eqv, PyData.eqvAll]
    by_cases h1 : p = r <;> by_cases h2 : q = v <;> simp [h1, h2]
  rw [e]
  exact h
theorem ne_tt {prog : Program} {w : World} {A : Around} {E : Value → Shared → Prop} {s : Shared} {X Y : Addr} {p q r v : Int} {t u t' u' : Tok} {c c' : Nat} {Q : Value → Shared → Prop}
    (hX : s.heap.get? X = some (tupO p q t u c)) (hY : s.heap.get? Y = some (tupO r v t' u' c')) (hu : A.units + 64 < cLine) (h : Q (.bool (!decide (p = r ∧ q = v))) s) :
    wpAny (model prog w) A (compareOp .NotEq (.ref X) (.ref Y)) Q E s := by
  refine ne_dataH (da := .tuple [.int p, .int q]) (db := .tuple [.int r, .int v]) (reads_tuple_at hX rfl rfl (.cons (.int _ _) (.cons (.int _ _) .nil))) (reads_tuple_at hY rfl rfl (.cons (.int _ _) (.cons (.int _ _) .nil))) rfl rfl hu ?_
  have e : PyData.eqv (.tuple [.int p, .int q]) (.tuple [.int r, .int v]) = decide (p = r ∧ q = v) := by
    simp only [PyData.eqv, PyData.eqvAll]
    by_cases h1 : p = r <;> by_cases h2 : q = v <;> simp [h1, h2]
  rw [e]
  exact h
theorem pwA_pos {p q n : Int} (h : 0 ≤ n) : p ^ n.toNat = pwA p q n := by unfold pwA; rw [if_pos h]
theorem pwB_pos {p q n : Int} (h : 0 ≤ n) : q ^ n.toNat = pwB p q n := by unfold pwB; rw [if_pos h]
theorem pwA_neg {p q n : Int} (h : ¬ 0 ≤ n) : mk1 (q ^ (0 - n).toNat) (p ^ (0 - n).toNat) = pwA p q n := by unfold pwA; rw [if_neg h]
theorem pwB_neg {p q n : Int} (h : ¬ 0 ≤ n) : mk2 (q ^ (0 - n).toNat) (p ^ (0 - n).toNat) = pwB p q n := by unfold pwB; rw [if_neg h]
abbrev WholeOK (Kf : Frag) (pg : Program) (w : World) (mean : ExcName → Option Value) (mg mb : Str → Option Value) : Prop :=
  ∀ (news : Led) (X : Addr) (p q n : Int) (t u : Tok) (c : Nat) (tn : Tok), (X, tupO p q t u c) ∈ news → (¬ (p = 1 ∧ q = 1)) → (p ≠ 0 ∧ p ≠ -1) → (Tiny p) → (Tiny q) → Cal Kf pg w mean mg mb 112 96 190 [.ref X, .int n tn] news (RTwo w news (absI n ≤ 4096) (pwA p q n) (pwB p q n))
theorem use_whole {Kf : Frag} {pg : Program} {w : World} {mean : ExcName → Option Value} {mg mb : Str → Option Value} {news : Led} {X : Addr} {p q n : Int} {t u : Tok} {c : Nat} {tn : Tok}
    {dp un : Nat} {gd : Option (List Code)} {cn : Str} {cs : Scope} {a : Addr} {ccd : Value} {cl : List (Str × Addr)} {outer : List Env} {A₀ : Around} {base h₀ : Heap} {L : Addr} {m : Str → Option Value} {s : Shared} {Q E : Value → Shared → Prop}
    (kB : Below A₀ base outer h₀) (kF : Fr h₀ L s.heap m) (kX : Kf.In h₀) (kN : News h₀ L s.heap news) (kT : Top pg (Lo pg) mean mg mb h₀) (kC : WholeOK Kf pg w mean mg mb) (hk : cs.kind = .function) (hm0 : (X, tupO p q t u c) ∈ news) (hp0 : ¬ (p = 1 ∧ q = 1)) (hp1 : p ≠ 0 ∧ p ≠ -1) (hp2 : Tiny p) (hp3 : Tiny q)
    (hd : dp + 112 < recursionLimit) (hu : un + 96 < cLine) (kr : (RTwo w news (absI n ≤ 4096) (pwA p q n) (pwB p q n) : Fin') h₀ L m s Q E base (envX cn cs L a ccd cl :: outer)) :
    wpAny (model PySem.Challenge.pw_ov0068_01 w) (ktrTop dp un gd cn cs L a ccd cl outer) (call (.ref 190) [.ref X, .int n tn]) Q E s :=
  kC news X p q n t u c tn hm0 hp0 hp1 hp2 hp3 _ _ _ _ _ _ _ _ _ _ _ _ _ _ _ _ _ kB kF kX kN kT hk hd hu kr
theorem t5_big : (1000 : Int) ≤ T5 := by
  unfold T5
  have h : (10 ^ 3 : Nat) ≤ 10 ^ 5000 := Nat.pow_le_pow_right (by omega) (by omega)
  have h' : ((10 ^ 3 : Nat) : Int) ≤ ((10 ^ 5000 : Nat) : Int) := Int.ofNat_le.mpr h
  exact h'
abbrev RRef (news : Led) (X : Addr) : Fin' := fun h₀ L m s Q _ _ _ => ∀ (h' : Heap) (tk' : Nat), Fr h₀ L h' m → News h₀ L h' news → Q (.ref X) { s with heap := h', toks := tk' }
theorem ret_ref {news news' : Led} {X : Addr} {h₀ h' : Heap} {L : Addr} {m : Str → Option Value} {s : Shared} {Q E : Value → Shared → Prop} {b : Heap} {o : List Env} {tk' : Nat}
    (hret : RRef news X h₀ L m s Q E b o) (F : Fr h₀ L h' m) (N : News h₀ L h' news') (hn : ∀ p ∈ news, p ∈ news') : Q (.ref X) { s with heap := h', toks := tk' } :=
  hret h' tk' F fun p hp => N p (hn p hp)
theorem ret_none {news news' : Led} {h₀ h' : Heap} {L : Addr} {m : Str → Option Value} {s : Shared} {Q E : Value → Shared → Prop} {b : Heap} {o : List Env} {tk' : Nat}
    (hret : RNone news h₀ L m s Q E b o) (F : Fr h₀ L h' m) (N : News h₀ L h' news') (hn : ∀ p ∈ news, p ∈ news') : Q .none { s with heap := h', toks := tk' } :=
  hret h' tk' F fun p hp => N p (hn p hp)
abbrev WithinoneOK (Kf : Frag) (pg : Program) (w : World) (mean : ExcName → Option Value) (mg mb : Str → Option Value) : Prop :=
  ∀ (news : Led), Cal Kf pg w mean mg mb 6 32 324 [.ref 71] news (RRef news 71)
theorem use_withinone {Kf : Frag} {pg : Program} {w : World} {mean : ExcName → Option Value} {mg mb : Str → Option Value} {news : Led} 
    {dp un : Nat} {gd : Option (List Code)} {cn : Str} {cs : Scope} {a : Addr} {ccd : Value} {cl : List (Str × Addr)} {outer : List Env} {A₀ : Around} {base h₀ : Heap} {L : Addr} {m : Str → Option Value} {s : Shared} {Q E : Value → Shared → Prop}
    (kB : Below A₀ base outer h₀) (kF : Fr h₀ L s.heap m) (kX : Kf.In h₀) (kN : News h₀ L s.heap news) (kT : Top pg (Lo pg) mean mg mb h₀) (kC : WithinoneOK Kf pg w mean mg mb) (hk : cs.kind = .function)
    (hd : dp + 6 < recursionLimit) (hu : un + 32 < cLine) (kr : (RRef news 71 : Fin') h₀ L m s Q E base (envX cn cs L a ccd cl :: outer)) :
    wpAny (model PySem.Challenge.pw_ov0068_01 w) (ktrTop dp un gd cn cs L a ccd cl outer) (call (.ref 324) [.ref 71]) Q E s :=
  kC news  _ _ _ _ _ _ _ _ _ _ _ _ _ _ _ _ _ kB kF kX kN kT hk hd hu kr
abbrev PowoneOK (Kf : Frag) (pg : Program) (w : World) (mean : ExcName → Option Value) (mg mb : Str → Option Value) : Prop :=
  ∀ (news : Led) (X Y : Addr) (p q n : Int) (t u t' u' : Tok) (c c' : Nat), (X, tupO p q t u c) ∈ news → (Y, tupO n 1 t' u' c') ∈ news → ((p = 1 ∧ q = 1) ∨ n = 0) → Cal Kf pg w mean mg mb 113 104 169 [.ref X, .ref Y] news (RRef news 71)
theorem use_powone {Kf : Frag} {pg : Program} {w : World} {mean : ExcName → Option Value} {mg mb : Str → Option Value} {news : Led} {X Y : Addr} {p q n : Int} {t u t' u' : Tok} {c c' : Nat}
    {dp un : Nat} {gd : Option (List Code)} {cn : Str} {cs : Scope} {a : Addr} {ccd : Value} {cl : List (Str × Addr)} {outer : List Env} {A₀ : Around} {base h₀ : Heap} {L : Addr} {m : Str → Option Value} {s : Shared} {Q E : Value → Shared → Prop}
    (kB : Below A₀ base outer h₀) (kF : Fr h₀ L s.heap m) (kX : Kf.In h₀) (kN : News h₀ L s.heap news) (kT : Top pg (Lo pg) mean mg mb h₀) (kC : PowoneOK Kf pg w mean mg mb) (hk : cs.kind = .function) (hm0 : (X, tupO p q t u c) ∈ news) (hm1 : (Y, tupO n 1 t' u' c') ∈ news) (hp0 : (p = 1 ∧ q = 1) ∨ n = 0)
    (hd : dp + 113 < recursionLimit) (hu : un + 104 < cLine) (kr : (RRef news 71 : Fin') h₀ L m s Q E base (envX cn cs L a ccd cl :: outer)) :
    wpAny (model PySem.Challenge.pw_ov0068_01 w) (ktrTop dp un gd cn cs L a ccd cl outer) (call (.ref 169) [.ref X, .ref Y]) Q E s :=
  kC news X Y p q n t u t' u' c c' hm0 hm1 hp0 _ _ _ _ _ _ _ _ _ _ _ _ _ _ _ _ _ kB kF kX kN kT hk hd hu kr
abbrev PowgenOK (Kf : Frag) (pg : Program) (w : World) (mean : ExcName → Option Value) (mg mb : Str → Option Value) : Prop :=
  ∀ (news : Led) (X Y : Addr) (p q n : Int) (t u t' u' : Tok) (c c' : Nat), (X, tupO p q t u c) ∈ news → (Y, tupO n 1 t' u' c') ∈ news → (¬ ((p = 1 ∧ q = 1) ∨ n = 0)) → (p ≠ 0 ∧ p ≠ -1 ∧ 0 < q) → (Tiny p) → (Tiny q) → Cal Kf pg w mean mg mb 113 104 169 [.ref X, .ref Y] news (RTwo w news (absI n ≤ 4096) (pwA p q n) (pwB p q n))
theorem use_powgen {Kf : Frag} {pg : Program} {w : World} {mean : ExcName → Option Value} {mg mb : Str → Option Value} {news : Led} {X Y : Addr} {p q n : Int} {t u t' u' : Tok} {c c' : Nat}
    {dp un : Nat} {gd : Option (List Code)} {cn : Str} {cs : Scope} {a : Addr} {ccd : Value} {cl : List (Str × Addr)} {outer : List Env} {A₀ : Around} {base h₀ : Heap} {L : Addr} {m : Str → Option Value} {s : Shared} {Q E : Value → Shared → Prop}
    (kB : Below A₀ base outer h₀) (kF : Fr h₀ L s.heap m) (kX : Kf.In h₀) (kN : News h₀ L s.heap news) (kT : Top pg (Lo pg) mean mg mb h₀) (kC : PowgenOK Kf pg w mean mg mb) (hk : cs.kind = .function) (hm0 : (X, tupO p q t u c) ∈ news) (hm1 : (Y, tupO n 1 t' u' c') ∈ news) (hp0 : ¬ ((p = 1 ∧ q = 1) ∨ n = 0)) (hp1 : p ≠ 0 ∧ p ≠ -1 ∧ 0 < q) (hp2 : Tiny p) (hp3 : Tiny q)
    (hd : dp + 113 < recursionLimit) (hu : un + 104 < cLine) (kr : (RTwo w news (absI n ≤ 4096) (pwA p q n) (pwB p q n) : Fin') h₀ L m s Q E base (envX cn cs L a ccd cl :: outer)) :
    wpAny (model PySem.Challenge.pw_ov0068_01 w) (ktrTop dp un gd cn cs L a ccd cl outer) (call (.ref 169) [.ref X, .ref Y]) Q E s :=
  kC news X Y p q n t u t' u' c c' hm0 hm1 hp0 hp1 hp2 hp3 _ _ _ _ _ _ _ _ _ _ _ _ _ _ _ _ _ kB kF kX kN kT hk hd hu kr
abbrev DponeOK (Kf : Frag) (pg : Program) (w : World) (mean : ExcName → Option Value) (mg mb : Str → Option Value) : Prop :=
  ∀ (news : Led) (ts : Tok) (X Y : Addr) (p q n : Int) (t u t' u' : Tok) (c c' : Nat), (X, tupO p q t u c) ∈ news → (Y, tupO n 1 t' u' c') ∈ news → ((p = 1 ∧ q = 1) ∨ n = 0) → Cal Kf pg w mean mg mb 116 112 331 [.str (Str.ofString "^") ts, .ref X, .ref Y] news (RRef news 71)
theorem use_dpone {Kf : Frag} {pg : Program} {w : World} {mean : ExcName → Option Value} {mg mb : Str → Option Value} {news : Led} {ts : Tok} {X Y : Addr} {p q n : Int} {t u t' u' : Tok} {c c' : Nat}
    {dp un : Nat} {gd : Option (List Code)} {cn : Str} {cs : Scope} {a : Addr} {ccd : Value} {cl : List (Str × Addr)} {outer : List Env} {A₀ : Around} {base h₀ : Heap} {L : Addr} {m : Str → Option Value} {s : Shared} {Q E : Value → Shared → Prop}
    (kB : Below A₀ base outer h₀) (kF : Fr h₀ L s.heap m) (kX : Kf.In h₀) (kN : News h₀ L s.heap news) (kT : Top pg (Lo pg) mean mg mb h₀) (kC : DponeOK Kf pg w mean mg mb) (hk : cs.kind = .function) (hm0 : (X, tupO p q t u c) ∈ news) (hm1 : (Y, tupO n 1 t' u' c') ∈ news) (hp0 : (p = 1 ∧ q = 1) ∨ n = 0)
    (hd : dp + 116 < recursionLimit) (hu : un + 112 < cLine) (kr : (RRef news 71 : Fin') h₀ L m s Q E base (envX cn cs L a ccd cl :: outer)) :
    wpAny (model PySem.Challenge.pw_ov0068_01 w) (ktrTop dp un gd cn cs L a ccd cl outer) (call (.ref 331) [.str (Str.ofString "^") ts, .ref X, .ref Y]) Q E s :=
  kC news ts X Y p q n t u t' u' c c' hm0 hm1 hp0 _ _ _ _ _ _ _ _ _ _ _ _ _ _ _ _ _ kB kF kX kN kT hk hd hu kr
abbrev DpgenOK (Kf : Frag) (pg : Program) (w : World) (mean : ExcName → Option Value) (mg mb : Str → Option Value) : Prop :=
  ∀ (news : Led) (ts : Tok) (X Y : Addr) (p q n : Int) (t u t' u' : Tok) (c c' : Nat), (X, tupO p q t u c) ∈ news → (Y, tupO n 1 t' u' c') ∈ news → (¬ ((p = 1 ∧ q = 1) ∨ n = 0)) → (p ≠ 0 ∧ p ≠ -1 ∧ 0 < q) → (Tiny p) → (Tiny q) → Cal Kf pg w mean mg mb 116 112 331 [.str (Str.ofString "^") ts, .ref X, .ref Y] news (RTwo w news (absI n ≤ 4096 ∧ absI (pwA p q n) ≤ T5 ∧ pwB p q n ≤ T5) (pwA p q n) (pwB p q n))
theorem use_dpgen {Kf : Frag} {pg : Program} {w : World} {mean : ExcName → Option Value} {mg mb : Str → Option Value} {news : Led} {ts : Tok} {X Y : Addr} {p q n : Int} {t u t' u' : Tok} {c c' : Nat}
    {dp un : Nat} {gd : Option (List Code)} {cn : Str} {cs : Scope} {a : Addr} {ccd : Value} {cl : List (Str × Addr)} {outer : List Env} {A₀ : Around} {base h₀ : Heap} {L : Addr} {m : Str → Option Value} {s : Shared} {Q E : Value → Shared → Prop}
    (kB : Below A₀ base outer h₀) (kF : Fr h₀ L s.heap m) (kX : Kf.In h₀) (kN : News h₀ L s.heap news) (kT : Top pg (Lo pg) mean mg mb h₀) (kC : DpgenOK Kf pg w mean mg mb) (hk : cs.kind = .function) (hm0 : (X, tupO p q t u c) ∈ news) (hm1 : (Y, tupO n 1 t' u' c') ∈ news) (hp0 : ¬ ((p = 1 ∧ q = 1) ∨ n = 0)) (hp1 : p ≠ 0 ∧ p ≠ -1 ∧ 0 < q) (hp2 : Tiny p) (hp3 : Tiny q)
    (hd : dp + 116 < recursionLimit) (hu : un + 112 < cLine) (kr : (RTwo w news (absI n ≤ 4096 ∧ absI (pwA p q n) ≤ T5 ∧ pwB p q n ≤ T5) (pwA p q n) (pwB p q n) : Fin') h₀ L m s Q E base (envX cn cs L a ccd cl :: outer)) :
    wpAny (model PySem.Challenge.pw_ov0068_01 w) (ktrTop dp un gd cn cs L a ccd cl outer) (call (.ref 331) [.str (Str.ofString "^") ts, .ref X, .ref Y]) Q E s :=
  kC news ts X Y p q n t u t' u' c c' hm0 hm1 hp0 hp1 hp2 hp3 _ _ _ _ _ _ _ _ _ _ _ _ _ _ _ _ _ kB kF kX kN kT hk hd hu kr
abbrev NoneaOK (Kf : Frag) (pg : Program) (w : World) (mean : ExcName → Option Value) (mg mb : Str → Option Value) : Prop :=
  ∀ (news : Led) (ts : Tok) (Y : Addr), Cal Kf pg w mean mg mb 16 64 331 [.str (Str.ofString "+") ts, .none, .ref Y] news (RNone news)
theorem use_nonea {Kf : Frag} {pg : Program} {w : World} {mean : ExcName → Option Value} {mg mb : Str → Option Value} {news : Led} {ts : Tok} {Y : Addr}
    {dp un : Nat} {gd : Option (List Code)} {cn : Str} {cs : Scope} {a : Addr} {ccd : Value} {cl : List (Str × Addr)} {outer : List Env} {A₀ : Around} {base h₀ : Heap} {L : Addr} {m : Str → Option Value} {s : Shared} {Q E : Value → Shared → Prop}
    (kB : Below A₀ base outer h₀) (kF : Fr h₀ L s.heap m) (kX : Kf.In h₀) (kN : News h₀ L s.heap news) (kT : Top pg (Lo pg) mean mg mb h₀) (kC : NoneaOK Kf pg w mean mg mb) (hk : cs.kind = .function)
    (hd : dp + 16 < recursionLimit) (hu : un + 64 < cLine) (kr : (RNone news : Fin') h₀ L m s Q E base (envX cn cs L a ccd cl :: outer)) :
    wpAny (model PySem.Challenge.pw_ov0068_01 w) (ktrTop dp un gd cn cs L a ccd cl outer) (call (.ref 331) [.str (Str.ofString "+") ts, .none, .ref Y]) Q E s :=
  kC news ts Y _ _ _ _ _ _ _ _ _ _ _ _ _ _ _ _ _ kB kF kX kN kT hk hd hu kr
abbrev NonemOK (Kf : Frag) (pg : Program) (w : World) (mean : ExcName → Option Value) (mg mb : Str → Option Value) : Prop :=
  ∀ (news : Led) (ts : Tok) (X : Addr) (p q : Int) (t u : Tok) (c : Nat), (X, tupO p q t u c) ∈ news → (0 < q) → Cal Kf pg w mean mg mb 16 64 331 [.str (Str.ofString "*") ts, .ref X, .none] news (RNone news)
theorem use_nonem {Kf : Frag} {pg : Program} {w : World} {mean : ExcName → Option Value} {mg mb : Str → Option Value} {news : Led} {ts : Tok} {X : Addr} {p q : Int} {t u : Tok} {c : Nat}
    {dp un : Nat} {gd : Option (List Code)} {cn : Str} {cs : Scope} {a : Addr} {ccd : Value} {cl : List (Str × Addr)} {outer : List Env} {A₀ : Around} {base h₀ : Heap} {L : Addr} {m : Str → Option Value} {s : Shared} {Q E : Value → Shared → Prop}
    (kB : Below A₀ base outer h₀) (kF : Fr h₀ L s.heap m) (kX : Kf.In h₀) (kN : News h₀ L s.heap news) (kT : Top pg (Lo pg) mean mg mb h₀) (kC : NonemOK Kf pg w mean mg mb) (hk : cs.kind = .function) (hm0 : (X, tupO p q t u c) ∈ news) (hp0 : 0 < q)
    (hd : dp + 16 < recursionLimit) (hu : un + 64 < cLine) (kr : (RNone news : Fin') h₀ L m s Q E base (envX cn cs L a ccd cl :: outer)) :
    wpAny (model PySem.Challenge.pw_ov0068_01 w) (ktrTop dp un gd cn cs L a ccd cl outer) (call (.ref 331) [.str (Str.ofString "*") ts, .ref X, .none]) Q E s :=
  kC news ts X p q t u c hm0 hp0 _ _ _ _ _ _ _ _ _ _ _ _ _ _ _ _ _ kB kF kX kN kT hk hd hu kr
abbrev InfaOK (Kf : Frag) (pg : Program) (w : World) (mean : ExcName → Option Value) (mg mb : Str → Option Value) : Prop :=
  ∀ (news : Led) (ts : Tok) (X Y : Addr) (p q : Int) (t u t' u' : Tok) (c c' : Nat), (X, tupO 1 0 t' u' c') ∈ news → (Y, tupO p q t u c) ∈ news → (0 < q) → Cal Kf pg w mean mg mb 16 80 331 [.str (Str.ofString "+") ts, .ref X, .ref Y] news (RRef news X)
theorem use_infa {Kf : Frag} {pg : Program} {w : World} {mean : ExcName → Option Value} {mg mb : Str → Option Value} {news : Led} {ts : Tok} {X Y : Addr} {p q : Int} {t u t' u' : Tok} {c c' : Nat}
    {dp un : Nat} {gd : Option (List Code)} {cn : Str} {cs : Scope} {a : Addr} {ccd : Value} {cl : List (Str × Addr)} {outer : List Env} {A₀ : Around} {base h₀ : Heap} {L : Addr} {m : Str → Option Value} {s : Shared} {Q E : Value → Shared → Prop}
    (kB : Below A₀ base outer h₀) (kF : Fr h₀ L s.heap m) (kX : Kf.In h₀) (kN : News h₀ L s.heap news) (kT : Top pg (Lo pg) mean mg mb h₀) (kC : InfaOK Kf pg w mean mg mb) (hk : cs.kind = .function) (hm0 : (X, tupO 1 0 t' u' c') ∈ news) (hm1 : (Y, tupO p q t u c) ∈ news) (hp0 : 0 < q)
    (hd : dp + 16 < recursionLimit) (hu : un + 80 < cLine) (kr : (RRef news X : Fin') h₀ L m s Q E base (envX cn cs L a ccd cl :: outer)) :
    wpAny (model PySem.Challenge.pw_ov0068_01 w) (ktrTop dp un gd cn cs L a ccd cl outer) (call (.ref 331) [.str (Str.ofString "+") ts, .ref X, .ref Y]) Q E s :=
  kC news ts X Y p q t u t' u' c c' hm0 hm1 hp0 _ _ _ _ _ _ _ _ _ _ _ _ _ _ _ _ _ kB kF kX kN kT hk hd hu kr
abbrev InfsOK (Kf : Frag) (pg : Program) (w : World) (mean : ExcName → Option Value) (mg mb : Str → Option Value) : Prop :=
  ∀ (news : Led) (ts : Tok) (X Y : Addr) (p q : Int) (t u t' u' : Tok) (c c' : Nat), (X, tupO p q t u c) ∈ news → (Y, tupO 1 0 t' u' c') ∈ news → (0 < q) → Cal Kf pg w mean mg mb 16 80 331 [.str (Str.ofString "-") ts, .ref X, .ref Y] news (RTup news (0 - 1) 0)
theorem use_infs {Kf : Frag} {pg : Program} {w : World} {mean : ExcName → Option Value} {mg mb : Str → Option Value} {news : Led} {ts : Tok} {X Y : Addr} {p q : Int} {t u t' u' : Tok} {c c' : Nat}
    {dp un : Nat} {gd : Option (List Code)} {cn : Str} {cs : Scope} {a : Addr} {ccd : Value} {cl : List (Str × Addr)} {outer : List Env} {A₀ : Around} {base h₀ : Heap} {L : Addr} {m : Str → Option Value} {s : Shared} {Q E : Value → Shared → Prop}
    (kB : Below A₀ base outer h₀) (kF : Fr h₀ L s.heap m) (kX : Kf.In h₀) (kN : News h₀ L s.heap news) (kT : Top pg (Lo pg) mean mg mb h₀) (kC : InfsOK Kf pg w mean mg mb) (hk : cs.kind = .function) (hm0 : (X, tupO p q t u c) ∈ news) (hm1 : (Y, tupO 1 0 t' u' c') ∈ news) (hp0 : 0 < q)
    (hd : dp + 16 < recursionLimit) (hu : un + 80 < cLine) (kr : (RTup news (0 - 1) 0 : Fin') h₀ L m s Q E base (envX cn cs L a ccd cl :: outer)) :
    wpAny (model PySem.Challenge.pw_ov0068_01 w) (ktrTop dp un gd cn cs L a ccd cl outer) (call (.ref 331) [.str (Str.ofString "-") ts, .ref X, .ref Y]) Q E s :=
  kC news ts X Y p q t u t' u' c c' hm0 hm1 hp0 _ _ _ _ _ _ _ _ _ _ _ _ _ _ _ _ _ kB kF kX kN kT hk hd hu kr
abbrev CalT (K : Frag) (q : Program) (w : World) (mean : ExcName → Option Value) (mg mb : Str → Option Value) (dpn unn : Nat) (f : Addr) (vs : List Value) (news : Led) (R : Fin') : Prop :=
  ∀ (dp un : Nat) (gd : Option (List Code)) (cn : Str) (cs : Scope) (a : Addr) (ccd : Value) (A₀ : Around) (base h₀ : Heap) (L : Addr) (m : Str → Option Value) (s : Shared) (Q E : Value → Shared → Prop),
    Below A₀ base [] h₀ → Fr h₀ L s.heap m → K.In h₀ → News h₀ L s.heap news → Top q (Lo q) mean mg mb h₀ → K.In base → Top q (Lo q) mean mg mb base → cs.kind = .function →
    dp + dpn < recursionLimit → un + unn < cLine → R h₀ L m s Q E base [envX cn cs L a ccd []] →
    wpAny (model PySem.Challenge.pw_ov0068_01 w) (ktrTop dp un gd cn cs L a ccd [] []) (call (.ref f) vs) Q E s
abbrev RStr (news : Led) (x : Str) : Fin' := fun h₀ L m s Q _ _ _ => ∀ (t : Tok) (h' : Heap) (tk' : Nat), Fr h₀ L h' m → News h₀ L h' news → Q (.str x t) { s with heap := h', toks := tk' }
theorem ret_str {news news' : Led} {x : Str} {h₀ h' : Heap} {L : Addr} {m : Str → Option Value} {s : Shared} {Q E : Value → Shared → Prop} {b : Heap} {o : List Env} {t : Tok} {tk' : Nat}
    (hret : RStr news x h₀ L m s Q E b o) (F : Fr h₀ L h' m) (N : News h₀ L h' news') (hn : ∀ p ∈ news, p ∈ news') : Q (.str x t) { s with heap := h', toks := tk' } :=
  hret t h' tk' F fun p hp => N p (hn p hp)
abbrev RTwoS (news : Led) (ok : Prop) (p q : Int) : Fin' := fun h₀ L m s Q E base envs => (ok → RTup news p q h₀ L m s Q E base envs) ∧ (¬ ok → RStr news refused h₀ L m s Q E base envs)
theorem instAt_exc {h₀ h : Heap} {L e d C : Addr} {oe od : Obj} {news : Led} (N : News h₀ L h news) (m1 : (e, oe) ∈ news) (m2 : (d, od) ∈ news) (c1 : oe.cls = .ref C) (c2 : oe.dict = some d) (c3 : notCls oe = true) : InstAt h e oe C (some od) :=
  ⟨N.get m1, c1, c3, by rw [c2]; exact N.get m2⟩
section
open Builtin Builtin.ObjectAttr
variable {prog : Program} {w : World} {A : Around} {K : Frag} {s : Shared} {x C : Addr} {E : Value → Shared → Prop} {expr : Bool} {Q : Value → Shared → Prop} {ox : Obj} {od : Option Obj} {name : Str} {v : Value}
theorem getattr_exc (X : K.In s.heap) (I : InstAt s.heap x ox C od) (hga : findIn K (.ref C) "__getattribute__" = some (some (.builtin "BaseException.__getattribute__"))) (hgb : findIn K (.ref C) "__getattr__" = some none)
    (hs : mroIn K C (.type "BaseException") = some true) (hf : findObj K C od name = some (.value v)) (hh : handedIn v = true) (h : Q v { s with toks := s.toks + 1 }) : wpAny (model prog w) A (getAttr (.ref x) name expr) Q E s := by
  obtain ⟨hp, g, d, t, os⟩ := s
  have FB := PySem.F.attrBase_Exception
  have L0 := I.type (M := model prog w)
  have L1 := looks_findIn (M := model prog w) X hga
  have L2 := looks_findIn (M := model prog w) X hgb
  have L3 := looks_find (M := model prog w) X I hf
  have f3 := FB.ga.bind (.ref x)
  have sub : Looks (model prog w) hp (isInstance (.ref x) (.type "BaseException")) true := L0.andThen (looks_mroIn X hs)
  have hx0 : (expr && onTheHeap (Value.builtin "BaseException.__getattribute__")) = false := by cases expr <;> rfl
  have hx2 : (Value.builtin "BaseException.__getattribute__" == Value.builtin "object.__getattribute__") = false := by decide +kernel
  have hx1 : (onTheHeap (Value.ref C) && Value.builtin "BaseException.__getattribute__" == Value.builtin "object.__getattribute__") = false := by rw [hx2]; rfl
  have hk : builtinKind "BaseException.__getattribute__" = some .slot := by decide +kernel
  have hsplit : splitId "BaseException.__getattribute__" = some ("BaseException", "__getattribute__") := by decide +kernel
  have ha := PySem.F.args_bexc_ga (.ref x) (.str name t)
  unfold getAttr getAttrBy
  refine wpAny_bind (wpAny_mkText (wpAny_holding (wpAny_bind (L0.at (wpAny_bind (L1.at ?_))))))
  dsimp only
  rw [hx1]
  simp only [Bool.false_eq_true, if_false]
  unfold getAttrByItsOwn hookBefore
  rw [if_pos (show onTheHeap (Value.ref C) = true from rfl)]
  refine wpAny_bind (L2.at ?_)
  refine wpAny_bind (wpAny_attempt (wpAny_holding ?_))
  unfold callGetattribute
  rw [hx0]
  simp only [Bool.false_eq_true, if_false]
  unfold boundAndCalled
  rw [f3]
  refine wpAny_bind (wpAny_pure ?_)
  dsimp only
  refine wpAny_call (codeAny_call_builtin FB.ga.plain PySem.F.entry_bexc_ga ?_)
  have sub' : Looks (model prog w) hp (isInstance (.ref x) (.type "BaseException")) true := sub
  refine @check_slot (model prog w) _ _ _ "BaseException.__getattribute__" "BaseException" "__getattribute__" (.ref x) [.str name t] [] _ hk hsplit sub' ha ?_
  unfold «object.__getattribute__»
  refine wpAny_bind (wpAny_pure (wpAny_bind (wpAny_pure (wpAny_bind (L0.at (wpAny_bind (L3.at ?_)))))))
  refine wpAny_pure ?_
  show wpAny _ _ (handedOut v) _ _ _
  rw [handedOut_of hh]
  exact wpAny_pure h
end
theorem get_msg {prog : Program} {w : World} {A : Around} {K : Frag} {s : Shared} {h₀ : Heap} {L e d : Addr} {m : Str → Option Value} {news : Led} {E : Value → Shared → Prop} {expr : Bool} {Q : Value → Shared → Prop} {oe : Obj} {P : Params} {msg : Str} {t1 tm : Tok}
    (F : Fr h₀ L s.heap m) (X₀ : K.In h₀) (N : News h₀ L s.heap news) (m1 : (e, oe) ∈ news) (c2 : oe.dict = some d) (m2 : (d, msgO P msg t1 tm) ∈ news) (c1 : oe.cls = .ref 65) (c3 : notCls oe = true)
    (hga : findIn K (.ref 65) "__getattribute__" = some (some (.builtin "BaseException.__getattribute__"))) (hgb : findIn K (.ref 65) "__getattr__" = some none) (hs : mroIn K 65 (.type "BaseException") = some true)
    (hh : hasDictIn K 65 = true) (ha : findIn K (.ref 65) (Str.ofString "message") = some none) (h : Q (.str msg tm) { s with toks := s.toks + 1 }) :
    wpAny (model prog w) A (getAttr (.ref e) (Str.ofString "message") expr) Q E s :=
  getattr_exc (X₀.keeps F.keep) (instAt_exc N m1 m2 c1 c2 c3) hga hgb hs (findObj_own hh ha rfl rfl) rfl h
abbrev AskoneOK (Kf : Frag) (pg : Program) (w : World) (mean : ExcName → Option Value) (mg mb : Str → Option Value) : Prop :=
  ∀ (news : Led) (ts : Tok) (X Y : Addr) (p q n : Int) (t u t' u' : Tok) (c c' : Nat), (X, tupO p q t u c) ∈ news → (Y, tupO n 1 t' u' c') ∈ news → ((p = 1 ∧ q = 1) ∨ n = 0) → CalT Kf pg w mean mg mb 118 128 418 [.str (Str.ofString "^") ts, .ref X, .ref Y] news (RRef news 71)
theorem use_askone {Kf : Frag} {pg : Program} {w : World} {mean : ExcName → Option Value} {mg mb : Str → Option Value} {news : Led} {ts : Tok} {X Y : Addr} {p q n : Int} {t u t' u' : Tok} {c c' : Nat}
    {dp un : Nat} {gd : Option (List Code)} {cn : Str} {cs : Scope} {a : Addr} {ccd : Value} {A₀ : Around} {base h₀ : Heap} {L : Addr} {m : Str → Option Value} {s : Shared} {Q E : Value → Shared → Prop}
    (kB : Below A₀ base [] h₀) (kF : Fr h₀ L s.heap m) (kX : Kf.In h₀) (kN : News h₀ L s.heap news) (kT : Top pg (Lo pg) mean mg mb h₀) (kXB : Kf.In base) (kTB : Top pg (Lo pg) mean mg mb base) (kC : AskoneOK Kf pg w mean mg mb) (hk : cs.kind = .function) (hm0 : (X, tupO p q t u c) ∈ news) (hm1 : (Y, tupO n 1 t' u' c') ∈ news) (hp0 : (p = 1 ∧ q = 1) ∨ n = 0)
    (hd : dp + 118 < recursionLimit) (hu : un + 128 < cLine) (kr : (RRef news 71 : Fin') h₀ L m s Q E base [envX cn cs L a ccd []]) :
    wpAny (model PySem.Challenge.pw_ov0068_01 w) (ktrTop dp un gd cn cs L a ccd [] []) (call (.ref 418) [.str (Str.ofString "^") ts, .ref X, .ref Y]) Q E s :=
  kC news ts X Y p q n t u t' u' c c' hm0 hm1 hp0 _ _ _ _ _ _ _ _ _ _ _ _ _ _ _ kB kF kX kN kT kXB kTB hk hd hu kr
abbrev AskgenOK (Kf : Frag) (pg : Program) (w : World) (mean : ExcName → Option Value) (mg mb : Str → Option Value) : Prop :=
  ∀ (news : Led) (ts : Tok) (X Y : Addr) (p q n : Int) (t u t' u' : Tok) (c c' : Nat), (X, tupO p q t u c) ∈ news → (Y, tupO n 1 t' u' c') ∈ news → (¬ ((p = 1 ∧ q = 1) ∨ n = 0)) → (p ≠ 0 ∧ p ≠ -1 ∧ 0 < q) → (Tiny p) → (Tiny q) → CalT Kf pg w mean mg mb 118 128 418 [.str (Str.ofString "^") ts, .ref X, .ref Y] news (RTwoS news (absI n ≤ 4096 ∧ absI (pwA p q n) ≤ T5 ∧ pwB p q n ≤ T5) (pwA p q n) (pwB p q n))
theorem use_askgen {Kf : Frag} {pg : Program} {w : World} {mean : ExcName → Option Value} {mg mb : Str → Option Value} {news : Led} {ts : Tok} {X Y : Addr} {p q n : Int} {t u t' u' : Tok} {c c' : Nat}
    {dp un : Nat} {gd : Option (List Code)} {cn : Str} {cs : Scope} {a : Addr} {ccd : Value} {A₀ : Around} {base h₀ : Heap} {L : Addr} {m : Str → Option Value} {s : Shared} {Q E : Value → Shared → Prop}
    (kB : Below A₀ base [] h₀) (kF : Fr h₀ L s.heap m) (kX : Kf.In h₀) (kN : News h₀ L s.heap news) (kT : Top pg (Lo pg) mean mg mb h₀) (kXB : Kf.In base) (kTB : Top pg (Lo pg) mean mg mb base) (kC : AskgenOK Kf pg w mean mg mb) (hk : cs.kind = .function) (hm0 : (X, tupO p q t u c) ∈ news) (hm1 : (Y, tupO n 1 t' u' c') ∈ news) (hp0 : ¬ ((p = 1 ∧ q = 1) ∨ n = 0)) (hp1 : p ≠ 0 ∧ p ≠ -1 ∧ 0 < q) (hp2 : Tiny p) (hp3 : Tiny q)
    (hd : dp + 118 < recursionLimit) (hu : un + 128 < cLine) (kr : (RTwoS news (absI n ≤ 4096 ∧ absI (pwA p q n) ≤ T5 ∧ pwB p q n ≤ T5) (pwA p q n) (pwB p q n) : Fin') h₀ L m s Q E base [envX cn cs L a ccd []]) :
    wpAny (model PySem.Challenge.pw_ov0068_01 w) (ktrTop dp un gd cn cs L a ccd [] []) (call (.ref 418) [.str (Str.ofString "^") ts, .ref X, .ref Y]) Q E s :=
  kC news ts X Y p q n t u t' u' c c' hm0 hm1 hp0 hp1 hp2 hp3 _ _ _ _ _ _ _ _ _ _ _ _ _ _ _ kB kF kX kN kT kXB kTB hk hd hu kr
abbrev AskopOK (Kf : Frag) (pg : Program) (w : World) (mean : ExcName → Option Value) (mg mb : Str → Option Value) : Prop :=
  ∀ (news : Led) (o : Op) (ts : Tok) (X Y : Addr) (p q r v : Int) (t u t' u' : Tok) (c c' : Nat), (X, tupO p q t u c) ∈ news → (Y, tupO r v t' u' c') ∈ news → (OpHyp p q r v) → CalT Kf pg w mean mg mb 122 80 418 [.str o.s ts, .ref X, .ref Y] news (RTwoS news (opOk o p q r v) (opA o p q r v) (opB o p q r v))
theorem use_askop {Kf : Frag} {pg : Program} {w : World} {mean : ExcName → Option Value} {mg mb : Str → Option Value} {news : Led} {o : Op} {ts : Tok} {X Y : Addr} {p q r v : Int} {t u t' u' : Tok} {c c' : Nat}
    {dp un : Nat} {gd : Option (List Code)} {cn : Str} {cs : Scope} {a : Addr} {ccd : Value} {A₀ : Around} {base h₀ : Heap} {L : Addr} {m : Str → Option Value} {s : Shared} {Q E : Value → Shared → Prop}
    (kB : Below A₀ base [] h₀) (kF : Fr h₀ L s.heap m) (kX : Kf.In h₀) (kN : News h₀ L s.heap news) (kT : Top pg (Lo pg) mean mg mb h₀) (kXB : Kf.In base) (kTB : Top pg (Lo pg) mean mg mb base) (kC : AskopOK Kf pg w mean mg mb) (hk : cs.kind = .function) (hm0 : (X, tupO p q t u c) ∈ news) (hm1 : (Y, tupO r v t' u' c') ∈ news) (hp0 : OpHyp p q r v)
    (hd : dp + 122 < recursionLimit) (hu : un + 80 < cLine) (kr : (RTwoS news (opOk o p q r v) (opA o p q r v) (opB o p q r v) : Fin') h₀ L m s Q E base [envX cn cs L a ccd []]) :
    wpAny (model PySem.Challenge.pw_ov0068_01 w) (ktrTop dp un gd cn cs L a ccd [] []) (call (.ref 418) [.str o.s ts, .ref X, .ref Y]) Q E s :=
  kC news o ts X Y p q r v t u t' u' c c' hm0 hm1 hp0 _ _ _ _ _ _ _ _ _ _ _ _ _ _ _ kB kF kX kN kT kXB kTB hk hd hu kr
abbrev lisO (us : List Value) (n : Nat) : Obj := listOf us.toArray n
inductive Pick (x : Addr × Obj) : Led → Led → Prop
  | head {r : Led} : Pick x (x :: r) r
  | tail {p : Addr × Obj} {r r' : Led} : Pick x r r' → Pick x (p :: r) (p :: r')
theorem Pick.news {x : Addr × Obj} {r r' : Led} (P : Pick x r r') {h₀ h : Heap} {L : Addr} (N : News h₀ L h r) : News h₀ L h (x :: r') := by
  refine fun p hp => N p ?_
  clear N
  induction P with
  | head => exact hp
  | tail _ ih =>
    rcases List.mem_cons.mp hp with rfl | hp
    · exact .tail _ (ih (.head _))
    · rcases List.mem_cons.mp hp with rfl | hp
      · exact .head _
      · exact .tail _ (ih (.tail _ hp))
abbrev RBead (l : Addr) (us : List Value) (news : Led) (most : Int) : Fin' := fun h₀ L m s Q _ _ _ => ∀ (r : Int) (t : Tok) (us' : List Value) (ns' : List Int) (n' : Nat) (h' : Heap) (tk' : Nat), 0 ≤ r → r < most → IntsAre us' ns' → us'.length ≤ us.length → Fr h₀ L h' m → News h₀ L h' ((l, lisO us' n') :: news) → Q (.int r t) { s with heap := h', toks := tk' }
theorem truthy_lis {prog : Program} {w : World} {A : Around} {E : Value → Shared → Prop} {s : Shared} {h₀ : Heap} {L l : Addr} {news : Led} {us : List Value} {n : Nat} {Q : Bool → Shared → Prop}
    (N : News h₀ L s.heap news) (m : (l, lisO us n) ∈ news) (z : us.length ≤ 64) (h : Q (decide (0 < us.length)) { s with toks := s.toks + 1 + 1 }) : wpAny (model prog w) A (truthy (.ref l)) Q E s := by
  refine wpAny_truthy_list (N.isList m) (by rw [List.size_toArray]; omega) ?_
  have e : (!us.toArray.isEmpty) = decide (0 < us.length) := by
    cases us <;> simp
  rw [e]
  exact h
local macro_rules | `(tactic| k_all) => `(tactic| first | assumption | exact List.forall_mem_nil _ | (refine' List.forall_mem_cons.mpr ⟨?a, ?b⟩; (case a => k_ne); (case b => k_all)))
abbrev BeadOK (Kf : Frag) (pg : Program) (w : World) (mean : ExcName → Option Value) (mg mb : Str → Option Value) : Prop :=
  ∀ (news : Led) (l : Addr) (us : List Value) (ns : List Int) (n : Nat) (most : Int) (tm : Tok), (∀ p ∈ news, p.1 ≠ l) → (IntsAre us ns) → (us.length ≤ 64) → (0 < most ∧ most < 10000) → Cal Kf pg w mean mg mb 110 40 376 [.ref l, .int most tm] (((l, lisO us n)) :: news) (RBead l us news most)
theorem use_bead {Kf : Frag} {pg : Program} {w : World} {mean : ExcName → Option Value} {mg mb : Str → Option Value} {news : Led} {l : Addr} {us : List Value} {ns : List Int} {n : Nat} {most : Int} {tm : Tok}
    {dp un : Nat} {gd : Option (List Code)} {cn : Str} {cs : Scope} {a : Addr} {ccd : Value} {cl : List (Str × Addr)} {outer : List Env} {A₀ : Around} {base h₀ : Heap} {L : Addr} {m : Str → Option Value} {s : Shared} {Q E : Value → Shared → Prop} {all : Led}
    (kB : Below A₀ base outer h₀) (kF : Fr h₀ L s.heap m) (kX : Kf.In h₀) (kP : Pick ((l, lisO us n)) all news) (kN : News h₀ L s.heap all) (kT : Top pg (Lo pg) mean mg mb h₀) (kC : BeadOK Kf pg w mean mg mb) (hk : cs.kind = .function) (hp0 : ∀ p ∈ news, p.1 ≠ l) (hp1 : IntsAre us ns) (hp2 : us.length ≤ 64) (hp3 : 0 < most ∧ most < 10000)
    (hd : dp + 110 < recursionLimit) (hu : un + 40 < cLine) (kr : (RBead l us news most : Fin') h₀ L m s Q E base (envX cn cs L a ccd cl :: outer)) :
    wpAny (model PySem.Challenge.pw_ov0068_01 w) (ktrTop dp un gd cn cs L a ccd cl outer) (call (.ref 376) [.ref l, .int most tm]) Q E s :=
  kC news l us ns n most tm hp0 hp1 hp2 hp3 _ _ _ _ _ _ _ _ _ _ _ _ _ _ _ _ _ kB kF kX (kP.news kN) kT hk hd hu kr
def FigOk (f : Int) : Prop := f = 1 ∨ f = 3 ∨ f = 7 ∨ f = 9 ∨ f = -1 ∨ f = -3 ∨ f = -7 ∨ f = -9
abbrev pwO (f k : Int) (t u : Tok) (c : Nat) : Obj := listOf #[.int f t, .int k u] c
abbrev RPow (l : Addr) (us : List Value) (news : Led) (wf : Bool) : Fin' := fun h₀ L m s Q _ _ _ => ∀ (D : Addr) (f k : Int) (t u : Tok) (c : Nat) (us' : List Value) (ns' : List Int) (n' : Nat) (h' : Heap) (tk' : Nat), FigOk f → -5000 ≤ k → k ≤ 5000 → (wf = false → 0 ≤ k) →
  IntsAre us' ns' → us'.length ≤ us.length → Fr h₀ L h' m → News h₀ L h' ((D, pwO f k t u c) :: (l, lisO us' n') :: news) → AllLt D ((l, lisO us' n') :: news) → Q (.ref D) { s with heap := h', toks := tk' }
theorem ret_pow {l D : Addr} {us us' : List Value} {ns' : List Int} {n' : Nat} {wf : Bool} {news news' : Led} {f k : Int} {h₀ h' : Heap} {L : Addr} {m : Str → Option Value} {s : Shared} {Q E : Value → Shared → Prop} {b : Heap} {o : List Env} {t u : Tok} {c tk' : Nat}
    (hret : RPow l us news wf h₀ L m s Q E b o) (F : Fr h₀ L h' m) (N : News h₀ L h' news') (m1 : (D, pwO f k t u c) ∈ news') (m2 : (l, lisO us' n') ∈ news') (hn : ∀ p ∈ news, p ∈ news') (hl : AllLt D ((l, lisO us' n') :: news))
    (hf : FigOk f) (hk : -5000 ≤ k ∧ k ≤ 5000) (hw : wf = false → 0 ≤ k) (hi : IntsAre us' ns') (hz : us'.length ≤ us.length) : Q (.ref D) { s with heap := h', toks := tk' } := by
  refine hret D f k t u c us' ns' n' h' tk' hf hk.1 hk.2 hw hi hz F (fun x hx => ?_) hl
  rcases List.mem_cons.mp hx with rfl | hx
  · exact N _ m1
  · rcases List.mem_cons.mp hx with rfl | hx
    · exact N _ m2
    · exact N x (hn x hx)
theorem fig_pos {r : Int} (h0 : 0 ≤ r) (h1 : r < 4) : FigOk ([1, 3, 7, 9].getD r.toNat 0) := by
  have : r = 0 ∨ r = 1 ∨ r = 2 ∨ r = 3 := by omega
  unfold FigOk
  rcases this with rfl | rfl | rfl | rfl <;> simp
theorem fig_neg {r : Int} (h0 : 0 ≤ r) (h1 : r < 4) : FigOk (0 - [1, 3, 7, 9].getD r.toNat 0) := by
  have : r = 0 ∨ r = 1 ∨ r = 2 ∨ r = 3 := by omega
  unfold FigOk
  rcases this with rfl | rfl | rfl | rfl <;> simp
theorem hgt {r : Int} (h0 : 0 ≤ r) (h1 : r < 8) : 0 ≤ [0, 1, 2, 2499, 2500, 2501, 4999, 5000].getD r.toNat (0 : Int) ∧ [0, 1, 2, 2499, 2500, 2501, 4999, 5000].getD r.toNat (0 : Int) ≤ 5000 := by
  have : r = 0 ∨ r = 1 ∨ r = 2 ∨ r = 3 ∨ r = 4 ∨ r = 5 ∨ r = 6 ∨ r = 7 := by omega
  rcases this with rfl | rfl | rfl | rfl | rfl | rfl | rfl | rfl <;> simp
theorem hk_pos {r : Int} (h0 : 0 ≤ r) (h1 : r < 8) : -5000 ≤ [0, 1, 2, 2499, 2500, 2501, 4999, 5000].getD r.toNat (0 : Int) ∧ [0, 1, 2, 2499, 2500, 2501, 4999, 5000].getD r.toNat (0 : Int) ≤ 5000 := by
  have := hgt h0 h1
  omega
theorem hk_neg {r : Int} (h0 : 0 ≤ r) (h1 : r < 8) : -5000 ≤ 0 - [0, 1, 2, 2499, 2500, 2501, 4999, 5000].getD r.toNat (0 : Int) ∧ 0 - [0, 1, 2, 2499, 2500, 2501, 4999, 5000].getD r.toNat (0 : Int) ≤ 5000 := by
  have := hgt h0 h1
  omega
theorem bool_no {b : Bool} {P : Prop} (h : b = true) : b = false → P := fun e => by rw [h] at e; cases e
abbrev PowerOK (Kf : Frag) (pg : Program) (w : World) (mean : ExcName → Option Value) (mg mb : Str → Option Value) : Prop :=
  ∀ (news : Led) (l : Addr) (us : List Value) (ns : List Int) (n : Nat) (wf : Bool), (∀ p ∈ news, p.1 ≠ l) → (IntsAre us ns) → (us.length ≤ 64) → Cal Kf pg w mean mg mb 112 56 383 [.ref l, .bool wf] (((l, lisO us n)) :: news) (RPow l us news wf)
theorem use_power {Kf : Frag} {pg : Program} {w : World} {mean : ExcName → Option Value} {mg mb : Str → Option Value} {news : Led} {l : Addr} {us : List Value} {ns : List Int} {n : Nat} {wf : Bool}
    {dp un : Nat} {gd : Option (List Code)} {cn : Str} {cs : Scope} {a : Addr} {ccd : Value} {cl : List (Str × Addr)} {outer : List Env} {A₀ : Around} {base h₀ : Heap} {L : Addr} {m : Str → Option Value} {s : Shared} {Q E : Value → Shared → Prop} {all : Led}
    (kB : Below A₀ base outer h₀) (kF : Fr h₀ L s.heap m) (kX : Kf.In h₀) (kP : Pick ((l, lisO us n)) all news) (kN : News h₀ L s.heap all) (kT : Top pg (Lo pg) mean mg mb h₀) (kC : PowerOK Kf pg w mean mg mb) (hk : cs.kind = .function) (hp0 : ∀ p ∈ news, p.1 ≠ l) (hp1 : IntsAre us ns) (hp2 : us.length ≤ 64)
    (hd : dp + 112 < recursionLimit) (hu : un + 56 < cLine) (kr : (RPow l us news wf : Fin') h₀ L m s Q E base (envX cn cs L a ccd cl :: outer)) :
    wpAny (model PySem.Challenge.pw_ov0068_01 w) (ktrTop dp un gd cn cs L a ccd cl outer) (call (.ref 383) [.ref l, .bool wf]) Q E s :=
  kC news l us ns n wf hp0 hp1 hp2 _ _ _ _ _ _ _ _ _ _ _ _ _ _ _ _ _ kB kF kX (kP.news kN) kT hk hd hu kr
def prA (f k : Int) : Int := if k < 0 then f else f * 10 ^ k.toNat
def prB (k : Int) : Int := if k < 0 then 10 ^ (0 - k).toNat else 1
theorem prA_neg {f k : Int} (h : k < 0) : f = prA f k := by unfold prA; rw [if_pos h]
theorem prB_neg {k : Int} (h : k < 0) : 10 ^ (0 - k).toNat = prB k := by unfold prB; rw [if_pos h]
theorem prA_pos {f k : Int} (h : ¬ k < 0) : f * 10 ^ k.toNat = prA f k := by unfold prA; rw [if_neg h]
theorem prB_pos {k : Int} (h : ¬ k < 0) : 1 = prB k := by unfold prB; rw [if_neg h]
theorem tiny10 : Tiny 10 := by decide
theorem bits_fig {f : Int} (h : FigOk f) : Builtin.Int.intBits f ≤ 4 := by
  unfold FigOk at h
  rcases h with rfl | rfl | rfl | rfl | rfl | rfl | rfl | rfl <;> decide
theorem bits_ten (k : Nat) : Builtin.Int.intBits ((10 : Int) ^ k) ≤ 4 * k + 1 := PySem.intBits_pow_le (by decide) k
theorem t5_is : (10 : Int) ^ (5000 : Int).toNat = T5 := by
  unfold T5
  rw [Int.natCast_pow]
  rfl
theorem pow_T5 {prog : Program} {w : World} {A : Around} {E : Value → Shared → Prop} {s : Shared} {t u : Tok} {Q : Value → Shared → Prop} (h : Q (.int T5 s.toks) { s with toks := s.toks + 1 }) :
    wpAny (model prog w) A (binaryOp .Pow (.int 10 t) (.int 5000 u)) Q E s :=
  pow_int (by omega) (tiny_pow tiny10 (by omega) (by omega)) (by rw [t5_is]; exact h)
theorem item_lis {prog : Program} {w : World} {A : Around} {E : Value → Shared → Prop} {s : Shared} {value slice : PySem.Expr} {l : Addr} {vs : List Value} {k : Int} {u : Tok} {v : Value} {Q : Value → Shared → Prop}
    (hl : s.heap.IsList l vs.toArray) (h0 : 0 ≤ k) (hhi : k < 2 ^ 63) (hx : vs[k.toNat]? = some v) (h : Q v s)
    (hs : subscripted slice false (.ref l) (.int k u) = operate [.ref l, .int k u] (getItem (.ref l) (.int k u)) := by with_unfolding_all rfl) :
    wpAny (model prog w) A (subscriptTail value slice (.ref l) (.int k u)) Q E s :=
  tail_any hl.typeIs slot_list_getitem.lookup (wpAny_getItem_list hl h0 hhi (by simpa using hx) h) hs
theorem lis_pw {h₀ h : Heap} {L Z : Addr} {news : Led} {f k : Int} {t u : Tok} {c : Nat} (N : News h₀ L h news) (m : (Z, pwO f k t u c) ∈ news) : h.IsList Z [Value.int f t, Value.int k u].toArray := N.isList m
abbrev PairOK (Kf : Frag) (pg : Program) (w : World) (mean : ExcName → Option Value) (mg mb : Str → Option Value) : Prop :=
  ∀ (news : Led) (Z : Addr) (f k : Int) (t u : Tok) (c : Nat), (Z, pwO f k t u c) ∈ news → (FigOk f) → (-5000 ≤ k ∧ k ≤ 5000) → Cal Kf pg w mean mg mb 4 40 390 [.ref Z] news (RTup news (prA f k) (prB k))
theorem use_pair {Kf : Frag} {pg : Program} {w : World} {mean : ExcName → Option Value} {mg mb : Str → Option Value} {news : Led} {Z : Addr} {f k : Int} {t u : Tok} {c : Nat}
    {dp un : Nat} {gd : Option (List Code)} {cn : Str} {cs : Scope} {a : Addr} {ccd : Value} {cl : List (Str × Addr)} {outer : List Env} {A₀ : Around} {base h₀ : Heap} {L : Addr} {m : Str → Option Value} {s : Shared} {Q E : Value → Shared → Prop}
    (kB : Below A₀ base outer h₀) (kF : Fr h₀ L s.heap m) (kX : Kf.In h₀) (kN : News h₀ L s.heap news) (kT : Top pg (Lo pg) mean mg mb h₀) (kC : PairOK Kf pg w mean mg mb) (hk : cs.kind = .function) (hm0 : (Z, pwO f k t u c) ∈ news) (hp0 : FigOk f) (hp1 : -5000 ≤ k ∧ k ≤ 5000)
    (hd : dp + 4 < recursionLimit) (hu : un + 40 < cLine) (kr : (RTup news (prA f k) (prB k) : Fin') h₀ L m s Q E base (envX cn cs L a ccd cl :: outer)) :
    wpAny (model PySem.Challenge.pw_ov0068_01 w) (ktrTop dp un gd cn cs L a ccd cl outer) (call (.ref 390) [.ref Z]) Q E s :=
  kC news Z f k t u c hm0 hp0 hp1 _ _ _ _ _ _ _ _ _ _ _ _ _ _ _ _ _ kB kF kX kN kT hk hd hu kr
abbrev BoundedOK (Kf : Frag) (pg : Program) (w : World) (mean : ExcName → Option Value) (mg mb : Str → Option Value) : Prop :=
  ∀ (news : Led) (ua lb : Int) (t u : Tok), Cal Kf pg w mean mg mb 4 40 397 [.int ua t, .int lb u] news (RTwoS news (absI ua ≤ T5 ∧ lb ≤ T5) ua lb)
theorem use_bounded {Kf : Frag} {pg : Program} {w : World} {mean : ExcName → Option Value} {mg mb : Str → Option Value} {news : Led} {ua lb : Int} {t u : Tok}
    {dp un : Nat} {gd : Option (List Code)} {cn : Str} {cs : Scope} {a : Addr} {ccd : Value} {cl : List (Str × Addr)} {outer : List Env} {A₀ : Around} {base h₀ : Heap} {L : Addr} {m : Str → Option Value} {s : Shared} {Q E : Value → Shared → Prop}
    (kB : Below A₀ base outer h₀) (kF : Fr h₀ L s.heap m) (kX : Kf.In h₀) (kN : News h₀ L s.heap news) (kT : Top pg (Lo pg) mean mg mb h₀) (kC : BoundedOK Kf pg w mean mg mb) (hk : cs.kind = .function)
    (hd : dp + 4 < recursionLimit) (hu : un + 40 < cLine) (kr : (RTwoS news (absI ua ≤ T5 ∧ lb ≤ T5) ua lb : Fin') h₀ L m s Q E base (envX cn cs L a ccd cl :: outer)) :
    wpAny (model PySem.Challenge.pw_ov0068_01 w) (ktrTop dp un gd cn cs L a ccd cl outer) (call (.ref 397) [.int ua t, .int lb u]) Q E s :=
  kC news ua lb t u _ _ _ _ _ _ _ _ _ _ _ _ _ _ _ _ _ kB kF kX kN kT hk hd hu kr
def qstep (p : Int × Int) (n : Int) : Int × Int := if p.1.fmod n = 0 ∧ p.2.fmod n = 0 then (p.1.fdiv n, p.2.fdiv n) else p
abbrev nAbove : Str := Str.ofString "above"
abbrev nBeneath : Str := Str.ofString "beneath"
abbrev nPrime : Str := Str.ofString "prime"
abbrev TurnOK (prog : Program) (w : World) (A : Around) (E : Value → Shared → Prop) (h₀ : Heap) (env : Env) (body : List Stmt) : Prop :=
  ∀ (a b n : Int) (ta tb tn : Tok) (m : Str → Option Value) (s : Shared) (Q : Flow → Shared → Prop) (news : Led), n ≠ 0 → m nAbove = some (.int a ta) → m nBeneath = some (.int b tb) → m nPrime = some (.int n tn) →
    Fr h₀ env.locals s.heap m → News h₀ env.locals s.heap news →
    (∀ (m' : Str → Option Value) (h' : Heap) (tk' : Nat) (t1 t2 : Tok), m' nAbove = some (.int (qstep (a, b) n).1 t1) → m' nBeneath = some (.int (qstep (a, b) n).2 t2) → (∀ y, y ≠ nAbove → y ≠ nBeneath → m' y = m y) →
      Fr h₀ env.locals h' m' → News h₀ env.locals h' news → Q .next { s with heap := h', toks := tk' }) →
    wpAny (model prog w) A (execs body env) Q E s
theorem str_ne1 : nAbove ≠ nPrime := by decide
theorem str_ne2 : nBeneath ≠ nPrime := by decide
section
variable {prog : Program} {w : World} {A : Around} {E : Value → Shared → Prop} {s : Shared} {env : Env} {h₀ : Heap} {body : List Stmt} {Q : Flow → Shared → Prop}
theorem rest_ok (turn : TurnOK prog w A E h₀ env body) {I : Addr} {lp : Addr × Obj} {news : Led} (hlp : lp ∈ news) (lI : ∀ p ∈ news, p.1 < I) : ∀ (l : List (Int × Tok)) (a b : Int) (ta tb : Tok) (m : Str → Option Value), (∀ p ∈ l, p.1 ≠ 0) →
    m nAbove = some (.int a ta) → m nBeneath = some (.int b tb) →
    (∀ (m' : Str → Option Value) (t1 t2 : Tok) (h' : Heap) (tk' : Nat), m' nAbove = some (.int ((l.map (·.1)).foldl qstep (a, b)).1 t1) → m' nBeneath = some (.int ((l.map (·.1)).foldl qstep (a, b)).2 t2) → (∀ y, y ≠ nAbove → y ≠ nBeneath → y ≠ nPrime → m' y = m y) →
      Fr h₀ env.locals h' m' → News h₀ env.locals h' news → Q .next { s with heap := h', toks := tk' }) →
    ListRest prog w A E h₀ env nPrime body Q s I lp (l.map fun p => .int p.1 p.2) m news
  | [], a, b, ta, tb, m, _, ha, hb, k => ListRest.zero fun h' tk' F' N' => k m ta tb h' tk' ha hb (fun _ _ _ _ => rfl) F' N'
  | (n, tn) :: l, a, b, ta, tb, m, hz, ha, hb, k => by
    refine ListRest.succ fun it h tk hc F N => ?_
    refine turn a b n ta tb tn _ _ _ _ (hz _ (.head _)) ?_ ?_ ?_ F N fun m' h' tk' t1 t2 hA hB hO F' N' => ?_
    · exact (if_neg str_ne1).trans ha
    · exact (if_neg str_ne2).trans hb
    · exact if_pos rfl
    · refine ⟨h', tk', m', news, rfl, F', N', fun p hp => Nat.ne_of_lt (lI p hp), hlp, ?_⟩
      refine rest_ok turn hlp lI l _ _ t1 t2 m' (fun p hp => hz p (.tail _ hp)) hA hB fun m'' u1 u2 h'' tk'' kA kB kO F'' N'' => k m'' u1 u2 h'' tk'' kA kB (fun y y1 y2 y3 => ?_) F'' N''
      exact (kO y y1 y2 y3).trans ((hO y y1 y2).trans (if_neg y3))
theorem loop_ok {ax : Addr} {n1 n2 n3 a b : Int} {t1 t2 t3 ta tb : Tok} {c : Nat} {m₀ : Str → Option Value} {news : Led} (hh : A.handled = none) (F : Fr h₀ env.locals s.heap m₀) (N : News h₀ env.locals s.heap news) (hm : (ax, listOf #[.int n1 t1, .int n2 t2, .int n3 t3] c) ∈ news)
    (hz : n1 ≠ 0 ∧ n2 ≠ 0 ∧ n3 ≠ 0) (ha : m₀ nAbove = some (.int a ta)) (hb : m₀ nBeneath = some (.int b tb)) (turn : TurnOK prog w A E h₀ env body)
    (rest : ∀ (z : Option Value) (h' : Heap) (tk' : Nat) (u1 u2 : Tok), Fr h₀ env.locals h' (fun y => if y = nAbove then some (.int ([n1, n2, n3].foldl qstep (a, b)).1 u1) else if y = nBeneath then some (.int ([n1, n2, n3].foldl qstep (a, b)).2 u2) else if y = nPrime then z else m₀ y) → News h₀ env.locals h' news → Q .next { s with heap := h', toks := tk' }) :
    wpAny (model prog w) A (pyIter (.ref ax)) (fun it s₂ => LoopAtV prog w A h₀ env nPrime body Q E it s₂) E s := by
  refine iter_listUnr (vs := [(n1, t1), (n2, t2), (n3, t3)].map fun p => .int p.1 p.2) hh F N hm rfl rfl fun I lI => ?_
  refine rest_ok turn hm lI [(n1, t1), (n2, t2), (n3, t3)] a b ta tb m₀ (fun p hp => ?_) ha hb fun m' u1 u2 h' tk' hA hB hO F' N' => rest (m' nPrime) h' tk' u1 u2 ?_ N'
  · rcases List.mem_cons.mp hp with rfl | hp
    · exact hz.1
    · rcases List.mem_cons.mp hp with rfl | hp
      · exact hz.2.1
      · rw [List.mem_singleton.mp hp]
        exact hz.2.2
  · have e : m' = fun y => if y = nAbove then some (.int ([n1, n2, n3].foldl qstep (a, b)).1 u1) else if y = nBeneath then some (.int ([n1, n2, n3].foldl qstep (a, b)).2 u2) else if y = nPrime then m' nPrime else m₀ y := by
      funext y
      by_cases y1 : y = nAbove
      · rw [if_pos y1, y1]; exact hA
      · rw [if_neg y1]
        by_cases y2 : y = nBeneath
        · rw [if_pos y2, y2]; exact hB
        · rw [if_neg y2]
          by_cases y3 : y = nPrime
          · rw [if_pos y3, y3]
          · rw [if_neg y3]; exact hO y y1 y2 y3
    rw [← e]
    exact F'
end
theorem bits_q {a b n : Int} (h : Builtin.Int.intBits a ≤ 8 ∧ Builtin.Int.intBits b ≤ 8) : Builtin.Int.intBits (qstep (a, b) n).1 ≤ 8 ∧ Builtin.Int.intBits (qstep (a, b) n).2 ≤ 8 := by
  unfold qstep
  split
  · exact ⟨PySem.intBits_fdiv_le h.1, PySem.intBits_fdiv_le h.2⟩
  · exact h
theorem bits_q3 {f g : Int} (hf : FigOk f) (hg : FigOk g) : Builtin.Int.intBits ([3, 3, 7].foldl qstep (f, g)).1 ≤ 8 ∧ Builtin.Int.intBits ([3, 3, 7].foldl qstep (f, g)).2 ≤ 8 :=
  bits_q (bits_q (bits_q ⟨Nat.le_trans (bits_fig hf) (by decide), Nat.le_trans (bits_fig hg) (by decide)⟩))
theorem fig_flip {f : Int} (h : FigOk f) : FigOk (0 - f) := by
  unfold FigOk at h ⊢
  rcases h with rfl | rfl | rfl | rfl | rfl | rfl | rfl | rfl <;> decide
theorem mul_q {a e : Int} (ha : Builtin.Int.intBits a ≤ 8) (he : e ≤ 20000) : IntMulOk a (10 ^ e.toNat) := IntMulOk.of_le ha (bits_ten _) (by omega)
theorem turn_end {a b n A' B' : Int} {m m' : Str → Option Value} {h₀ h' : Heap} {L : Addr} {s : Shared} {Q : Flow → Shared → Prop} {news : Led} {t1 t2 : Tok} {tk' : Nat}
    (hret : ∀ (m' : Str → Option Value) (h' : Heap) (tk' : Nat) (t1 t2 : Tok), m' nAbove = some (.int (qstep (a, b) n).1 t1) → m' nBeneath = some (.int (qstep (a, b) n).2 t2) → (∀ y, y ≠ nAbove → y ≠ nBeneath → m' y = m y) →
      Fr h₀ L h' m' → News h₀ L h' news → Q .next { s with heap := h', toks := tk' })
    (e : qstep (a, b) n = (A', B')) (F : Fr h₀ L h' m') (N : News h₀ L h' news) (hA : m' nAbove = some (.int A' t1)) (hB : m' nBeneath = some (.int B' t2)) (hO : ∀ y, y ≠ nAbove → y ≠ nBeneath → m' y = m y) : Q .next { s with heap := h', toks := tk' } :=
  hret m' h' tk' t1 t2 (by rw [e]; exact hA) (by rw [e]; exact hB) hO F N
theorem bnd_tup {news : Led} {A B A' B' : Int} {h₀ : Heap} {L : Addr} {m : Str → Option Value} {s : Shared} {Q E : Value → Shared → Prop} {b : Heap} {o : List Env}
    (hret : RTwoS news (absI A ≤ T5 ∧ B ≤ T5) A B h₀ L m s Q E b o) (ok : absI A' ≤ T5 ∧ B' ≤ T5) (eA : A' = A) (eB : B' = B) : RTup news A' B' h₀ L m s Q E b o := by
  subst eA
  subst eB
  exact hret.1 ok
theorem bnd_str {news : Led} {A B A' B' : Int} {h₀ : Heap} {L : Addr} {m : Str → Option Value} {s : Shared} {Q E : Value → Shared → Prop} {b : Heap} {o : List Env}
    (hret : RTwoS news (absI A ≤ T5 ∧ B ≤ T5) A B h₀ L m s Q E b o) (no : ¬ (absI A' ≤ T5 ∧ B' ≤ T5)) (eA : A' = A) (eB : B' = B) : RStr news refused h₀ L m s Q E b o := by
  subst eA
  subst eB
  exact hret.2 no
def mx0 (x : Int) : Int := if 0 > x then 0 else x
def sgn (g x : Int) : Int := if g < 0 then 0 - x else x
def quoA (f k g l : Int) : Int := ([3, 3, 7].foldl qstep (sgn g f, sgn g g)).1 * 10 ^ (mx0 (k - l)).toNat
def quoB (f k g l : Int) : Int := ([3, 3, 7].foldl qstep (sgn g f, sgn g g)).2 * 10 ^ (mx0 (0 - (k - l))).toNat
theorem sgn_neg {g x : Int} (h : g < 0) : sgn g x = 0 - x := if_pos h
theorem sgn_pos {g x : Int} (h : ¬ g < 0) : sgn g x = x := if_neg h
theorem quoA_neg {f k g l : Int} (h : g < 0) : ([3, 3, 7].foldl qstep (0 - f, 0 - g)).1 * 10 ^ (if 0 > k - l then 0 else k - l).toNat = quoA f k g l := by unfold quoA; rw [sgn_neg h, sgn_neg h]; rfl
theorem quoB_neg {f k g l : Int} (h : g < 0) : ([3, 3, 7].foldl qstep (0 - f, 0 - g)).2 * 10 ^ (if 0 > 0 - (k - l) then 0 else 0 - (k - l)).toNat = quoB f k g l := by unfold quoB; rw [sgn_neg h, sgn_neg h]; rfl
theorem quoA_pos {f k g l : Int} (h : ¬ g < 0) : ([3, 3, 7].foldl qstep (f, g)).1 * 10 ^ (if 0 > k - l then 0 else k - l).toNat = quoA f k g l := by unfold quoA; rw [sgn_pos h, sgn_pos h]; rfl
theorem quoB_pos {f k g l : Int} (h : ¬ g < 0) : ([3, 3, 7].foldl qstep (f, g)).2 * 10 ^ (if 0 > 0 - (k - l) then 0 else 0 - (k - l)).toNat = quoB f k g l := by unfold quoB; rw [sgn_pos h, sgn_pos h]; rfl
abbrev QuotOK (Kf : Frag) (pg : Program) (w : World) (mean : ExcName → Option Value) (mg mb : Str → Option Value) : Prop :=
  ∀ (news : Led) (Z Y : Addr) (f k g l : Int) (t u t' u' : Tok) (c c' : Nat), (Z, pwO f k t u c) ∈ news → (Y, pwO g l t' u' c') ∈ news → (FigOk f) → (FigOk g) → (-5000 ≤ k ∧ k ≤ 5000) → (-5000 ≤ l ∧ l ≤ 5000) → Cal Kf pg w mean mg mb 110 56 404 [.ref Z, .ref Y] news (RTwoS news (absI (quoA f k g l) ≤ T5 ∧ quoB f k g l ≤ T5) (quoA f k g l) (quoB f k g l))
theorem use_quot {Kf : Frag} {pg : Program} {w : World} {mean : ExcName → Option Value} {mg mb : Str → Option Value} {news : Led} {Z Y : Addr} {f k g l : Int} {t u t' u' : Tok} {c c' : Nat}
    {dp un : Nat} {gd : Option (List Code)} {cn : Str} {cs : Scope} {a : Addr} {ccd : Value} {cl : List (Str × Addr)} {outer : List Env} {A₀ : Around} {base h₀ : Heap} {L : Addr} {m : Str → Option Value} {s : Shared} {Q E : Value → Shared → Prop}
    (kB : Below A₀ base outer h₀) (kF : Fr h₀ L s.heap m) (kX : Kf.In h₀) (kN : News h₀ L s.heap news) (kT : Top pg (Lo pg) mean mg mb h₀) (kC : QuotOK Kf pg w mean mg mb) (hk : cs.kind = .function) (hm0 : (Z, pwO f k t u c) ∈ news) (hm1 : (Y, pwO g l t' u' c') ∈ news) (hp0 : FigOk f) (hp1 : FigOk g) (hp2 : -5000 ≤ k ∧ k ≤ 5000) (hp3 : -5000 ≤ l ∧ l ≤ 5000)
    (hd : dp + 110 < recursionLimit) (hu : un + 56 < cLine) (kr : (RTwoS news (absI (quoA f k g l) ≤ T5 ∧ quoB f k g l ≤ T5) (quoA f k g l) (quoB f k g l) : Fin') h₀ L m s Q E base (envX cn cs L a ccd cl :: outer)) :
    wpAny (model PySem.Challenge.pw_ov0068_01 w) (ktrTop dp un gd cn cs L a ccd cl outer) (call (.ref 404) [.ref Z, .ref Y]) Q E s :=
  kC news Z Y f k g l t u t' u' c c' hm0 hm1 hp0 hp1 hp2 hp3 _ _ _ _ _ _ _ _ _ _ _ _ _ _ _ _ _ kB kF kX kN kT hk hd hu kr
def dueA (o : Op) (f k g l : Int) : Int := match o with
  | .add => prA f k * prB l + prA g l * prB k
  | .sub => prA f k * prB l + (0 - prA g l) * prB k
  | .mul => f * g * 10 ^ (mx0 (k + l)).toNat
  | .div => quoA f k g l
  | .idv => (prA f k).fdiv (prA g l)
  | .mod => (prA f k).fmod (prA g l)
def dueB (o : Op) (f k g l : Int) : Int := match o with
  | .add => prB k * prB l
  | .sub => prB k * prB l
  | .mul => 10 ^ (mx0 (0 - (k + l))).toNat
  | .div => quoB f k g l
  | .idv => 1
  | .mod => 1
def dueOk (o : Op) (f k g l : Int) : Prop := match o with
  | .idv => True
  | .mod => True
  | o => absI (dueA o f k g l) ≤ T5 ∧ dueB o f k g l ≤ T5
theorem ten_ne (e : Nat) : (10 : Int) ^ e ≠ 0 := Int.pow_ne_zero (by omega)
theorem fig_ne {f : Int} (h : FigOk f) : f ≠ 0 := by
  unfold FigOk at h
  omega
theorem prA_ne {f k : Int} (h : FigOk f) : prA f k ≠ 0 := by
  unfold prA
  split
  · exact fig_ne h
  · exact Int.mul_ne_zero (fig_ne h) (ten_ne _)
theorem prB_gt (k : Int) : 0 < prB k := by
  unfold prB
  split
  · exact Int.pow_pos (by omega)
  · omega
theorem prA_bits {f k : Int} (h : FigOk f) (h2 : k ≤ 5000) : Builtin.Int.intBits (prA f k) ≤ 20005 := by
  unfold prA
  split
  · exact Nat.le_trans (bits_fig h) (by omega)
  · exact Nat.le_trans (PySem.intBits_mul_le (bits_fig h) (bits_ten _)) (by omega)
theorem prB_bits {k : Int} (h2 : -5000 ≤ k) : Builtin.Int.intBits (prB k) ≤ 20005 := by
  unfold prB
  split
  · exact Nat.le_trans (bits_ten _) (by omega)
  · decide
theorem neg_bits {x : Int} {n : Nat} (h : Builtin.Int.intBits x ≤ n) : Builtin.Int.intBits (0 - x) ≤ n := by
  rw [Int.zero_sub]
  exact PySem.intBits_neg_le h
theorem mul_big {a b : Int} (ha : Builtin.Int.intBits a ≤ 20005) (hb : Builtin.Int.intBits b ≤ 20005) : IntMulOk a b := IntMulOk.of_le ha hb (by omega)
abbrev DueOK (Kf : Frag) (pg : Program) (w : World) (mean : ExcName → Option Value) (mg mb : Str → Option Value) : Prop :=
  ∀ (news : Led) (o : Op) (ts : Tok) (Z Y : Addr) (f k g l : Int) (t u t' u' : Tok) (c c' : Nat), (Z, pwO f k t u c) ∈ news → (Y, pwO g l t' u' c') ∈ news → (FigOk f) → (FigOk g) → (-5000 ≤ k ∧ k ≤ 5000) → (-5000 ≤ l ∧ l ≤ 5000) → Cal Kf pg w mean mg mb 114 80 411 [.str o.s ts, .ref Z, .ref Y] news (RTwoS news (dueOk o f k g l) (dueA o f k g l) (dueB o f k g l))
theorem use_due {Kf : Frag} {pg : Program} {w : World} {mean : ExcName → Option Value} {mg mb : Str → Option Value} {news : Led} {o : Op} {ts : Tok} {Z Y : Addr} {f k g l : Int} {t u t' u' : Tok} {c c' : Nat}
    {dp un : Nat} {gd : Option (List Code)} {cn : Str} {cs : Scope} {a : Addr} {ccd : Value} {cl : List (Str × Addr)} {outer : List Env} {A₀ : Around} {base h₀ : Heap} {L : Addr} {m : Str → Option Value} {s : Shared} {Q E : Value → Shared → Prop}
    (kB : Below A₀ base outer h₀) (kF : Fr h₀ L s.heap m) (kX : Kf.In h₀) (kN : News h₀ L s.heap news) (kT : Top pg (Lo pg) mean mg mb h₀) (kC : DueOK Kf pg w mean mg mb) (hk : cs.kind = .function) (hm0 : (Z, pwO f k t u c) ∈ news) (hm1 : (Y, pwO g l t' u' c') ∈ news) (hp0 : FigOk f) (hp1 : FigOk g) (hp2 : -5000 ≤ k ∧ k ≤ 5000) (hp3 : -5000 ≤ l ∧ l ≤ 5000)
    (hd : dp + 114 < recursionLimit) (hu : un + 80 < cLine) (kr : (RTwoS news (dueOk o f k g l) (dueA o f k g l) (dueB o f k g l) : Fin') h₀ L m s Q E base (envX cn cs L a ccd cl :: outer)) :
    wpAny (model PySem.Challenge.pw_ov0068_01 w) (ktrTop dp un gd cn cs L a ccd cl outer) (call (.ref 411) [.str o.s ts, .ref Z, .ref Y]) Q E s :=
  kC news o ts Z Y f k g l t u t' u' c c' hm0 hm1 hp0 hp1 hp2 hp3 _ _ _ _ _ _ _ _ _ _ _ _ _ _ _ _ _ kB kF kX kN kT hk hd hu kr
theorem ints_app {us vs : List Value} {a b : List Int} (h : IntsAre us a) (k : IntsAre vs b) : IntsAre (us ++ vs) (a ++ b) := by
  induction h with
  | nil => exact k
  | cons n t _ ih => exact .cons n t ih
theorem ints_rev {us : List Value} {a : List Int} (h : IntsAre us a) : IntsAre us.reverse a.reverse := by
  induction h with
  | nil => exact .nil
  | cons n t _ ih =>
    rw [List.reverse_cons, List.reverse_cons]
    exact ints_app ih (.cons n t .nil)
theorem rev_lis {prog : Program} {w : World} {A : Around} {E : Value → Shared → Prop} {s : Shared} {h₀ : Heap} {L D : Addr} {m : Str → Option Value} {news news' : Led} {us : List Value} {ns : List Int} {n : Nat} {Q : Value → Shared → Prop}
    (F : Fr h₀ L s.heap m) (N : News h₀ L s.heap news) (U : Upd D (listOf us.toArray n) (listOf us.reverse.toArray n) news news') (hi : IntsAre us ns) (hz : us.length ≤ 64)
    (h : ∀ (vs : List Value) (h' : Heap), vs = us.reverse → Fr h₀ L h' m → News h₀ L h' news' → IntsAre vs ns.reverse → vs.length ≤ 64 → Q .none { s with heap := h' }) : wpAny (model prog w) A (call (.builtin "list.reverse") [.ref D]) Q E s :=
  kl_reverse F N (l := us.reverse) (by simp) U (by rw [sizeLine_eq]; simp; omega) fun h' F' N' => h _ h' rfl F' N' (ints_rev hi) (by rw [List.length_reverse]; exact hz)
theorem absI_nat (x : Int) : absI x = (x.natAbs : Int) := by
  unfold absI
  split <;> omega
theorem gcd_absI (x y : Int) : gcdI (absI x) y = (Int.gcd x y : Int) := by
  unfold gcdI
  rw [absI_nat]
  show ((Nat.gcd ((x.natAbs : Int)).natAbs y.natAbs : Nat) : Int) = (Nat.gcd x.natAbs y.natAbs : Nat)
  rw [Int.natAbs_natCast]
theorem mk_char {n d a b c : Int} (hc : c ≠ 0) (hb : 0 < b) (hn : n = a * c) (hd : d = b * c) (hg : Int.gcd a b = 1) : mk1 n d = a ∧ mk2 n d = b := by
  have key : ∀ e : Int, 0 < e → mkN n d = a * e → mkD d = b * e → mk1 n d = a ∧ mk2 n d = b := by
    intro e he h1 h2
    have g1 : gcdI (absI (mkN n d)) (mkD d) = e := by
      rw [gcd_absI, h1, h2, Int.gcd_mul_right, hg]
      omega
    unfold mk1 mk2
    rw [g1, h1, h2, Int.fdiv_eq_ediv_of_nonneg _ (Int.le_of_lt he), Int.fdiv_eq_ediv_of_nonneg _ (Int.le_of_lt he), Int.mul_ediv_cancel _ (by omega), Int.mul_ediv_cancel _ (by omega)]
    exact ⟨rfl, rfl⟩
  rcases Int.lt_or_gt_of_ne hc with h | h
  · have hd0 : d < 0 := by rw [hd]; exact Int.mul_neg_of_pos_of_neg hb h
    refine key (-c) (by omega) ?_ ?_
    · unfold mkN; rw [if_pos hd0, hn]; grind
    · unfold mkD; rw [if_pos hd0, hd]; grind
  · have hd0 : ¬ d < 0 := by
      have := Int.mul_pos hb h
      rw [hd]; omega
    refine key c h ?_ ?_
    · unfold mkN; rw [if_neg hd0, hn]
    · unfold mkD; rw [if_neg hd0, hd]
theorem mk_one (n : Int) : mk1 n 1 = n ∧ mk2 n 1 = 1 := mk_char (c := 1) (by omega) (by omega) (by omega) (by omega) (by simp)
theorem mk_spec {n d : Int} (hd : d ≠ 0) : ∃ c, c ≠ 0 ∧ n = mk1 n d * c ∧ d = mk2 n d * c := by
  have hD : 0 < mkD d := by unfold mkD; split <;> omega
  have hg : 0 < gcdI (absI (mkN n d)) (mkD d) := by
    unfold gcdI
    have : 0 < Int.gcd (absI (mkN n d)) (mkD d) := Int.gcd_pos_of_ne_zero_right _ (by omega)
    omega
  have d1 : gcdI (absI (mkN n d)) (mkD d) ∣ mkD d := Int.gcd_dvd_right _ _
  have d2 : gcdI (absI (mkN n d)) (mkD d) ∣ mkN n d := by
    rw [gcd_absI]; exact Int.gcd_dvd_left _ _
  have e1 : mk1 n d * gcdI (absI (mkN n d)) (mkD d) = mkN n d := by
    unfold mk1
    rw [Int.fdiv_eq_ediv_of_nonneg _ (Int.le_of_lt hg), Int.ediv_mul_cancel d2]
  have e2 : mk2 n d * gcdI (absI (mkN n d)) (mkD d) = mkD d := by
    unfold mk2
    rw [Int.fdiv_eq_ediv_of_nonneg _ (Int.le_of_lt hg), Int.ediv_mul_cancel d1]
  generalize gcdI (absI (mkN n d)) (mkD d) = g at *
  by_cases h : d < 0
  · refine ⟨-g, by omega, ?_, ?_⟩
    · unfold mkN at e1; rw [if_pos h] at e1; rw [Int.mul_neg, e1]; omega
    · unfold mkD at e2; rw [if_pos h] at e2; rw [Int.mul_neg, e2]; omega
  · refine ⟨g, by omega, ?_, ?_⟩
    · unfold mkN at e1; rw [if_neg h] at e1; omega
    · unfold mkD at e2; rw [if_neg h] at e2; omega
theorem fdiv_scale {a b c : Int} (hc : c ≠ 0) : (a * c).fdiv (b * c) = a.fdiv b := by
  rcases Int.lt_or_gt_of_ne hc with h | h
  · have e1 : a * c = -((-c) * a) := by grind
    have e2 : b * c = -((-c) * b) := by grind
    rw [e1, e2, Int.neg_fdiv_neg, Int.mul_fdiv_mul_of_pos _ _ (by omega)]
  · rw [Int.mul_comm a c, Int.mul_comm b c, Int.mul_fdiv_mul_of_pos _ _ h]
theorem mk_fdiv {n d : Int} (hd : d ≠ 0) : (mk1 n d).fdiv (mk2 n d) = n.fdiv d := by
  obtain ⟨c, hc, h1, h2⟩ := mk_spec (n := n) hd
  have e := fdiv_scale (a := mk1 n d) (b := mk2 n d) hc
  rw [← h1, ← h2] at e
  exact e.symm
theorem prA_all (f k : Int) : prA f k = f * 10 ^ k.toNat := by
  unfold prA
  split
  · have : k.toNat = 0 := by omega
    rw [this]; simp
  · rfl
theorem prB_all (k : Int) : prB k = 10 ^ (0 - k).toNat := by
  unfold prB
  split
  · rfl
  · have : (0 - k).toNat = 0 := by omega
    rw [this]; simp
theorem fig_coprime {f : Int} (h : FigOk f) : Int.gcd f 10 = 1 := by
  unfold FigOk at h
  rcases h with rfl | rfl | rfl | rfl | rfl | rfl | rfl | rfl <;> decide
theorem cop_pow {x : Int} (h : Int.gcd x 10 = 1) (e : Nat) : Int.gcd x (10 ^ e) = 1 := by
  have : Nat.Coprime x.natAbs 10 := h
  show Nat.gcd x.natAbs ((10 : Int) ^ e).natAbs = 1
  rw [Int.natAbs_pow]
  exact Nat.Coprime.pow_right e this
theorem cop_mul {x y z : Int} (h : Int.gcd x z = 1) (k : Int.gcd y z = 1) : Int.gcd (x * y) z = 1 := by
  show Nat.gcd (x * y).natAbs z.natAbs = 1
  rw [Int.natAbs_mul]
  exact Nat.Coprime.mul_left h k
theorem cop_add {f m : Int} (h : Int.gcd f 10 = 1) : Int.gcd (f + m * 10) 10 = 1 := by
  rw [Int.gcd_add_mul_right_left]; exact h

theorem ten_succ {e : Nat} (h : e ≠ 0) : (10 : Int) ^ e = 10 ^ (e - 1) * 10 := by
  obtain ⟨n, rfl⟩ := Nat.exists_eq_succ_of_ne_zero h
  exact Int.pow_succ 10 n
theorem ten_gt (e : Nat) : (0 : Int) < 10 ^ e := Int.pow_pos (by omega)
theorem op_sum {f k G L : Int} (hf : FigOk f) : mk1 (prA f k * 1 + G * 10 ^ L.toNat * prB k) (prB k * 1) = prA f k * 1 + G * 10 ^ L.toNat * prB k ∧ mk2 (prA f k * 1 + G * 10 ^ L.toNat * prB k) (prB k * 1) = prB k * 1 := by
  refine mk_char (c := 1) (by omega) (by have := prB_gt k; omega) (by omega) (by omega) ?_
  rw [prB_all]
  by_cases hk : k < 0
  · have e : (0 - k).toNat ≠ 0 := by omega
    have e2 : k.toNat = 0 := by omega
    rw [Int.mul_one, Int.mul_one]
    refine cop_pow ?_ _
    rw [prA_all, e2, Int.pow_zero, Int.mul_one, ten_succ e, ← Int.mul_assoc]
    exact cop_add (fig_coprime hf)
  · have e : (0 - k).toNat = 0 := by omega
    rw [e]
    simp
theorem law_add {f k g l : Int} (hf : FigOk f) (hl : 0 ≤ l) : opA .add (prA f k) (prB k) (prA g l) (prB l) = dueA .add f k g l ∧ opB .add (prA f k) (prB k) (prA g l) (prB l) = dueB .add f k g l := by
  have e : prB l = 1 := if_neg (by omega)
  unfold opA opB dueA dueB
  simp only [e, prA_all g l]
  exact op_sum hf
theorem law_sub {f k g l : Int} (hf : FigOk f) (hl : 0 ≤ l) : opA .sub (prA f k) (prB k) (prA g l) (prB l) = dueA .sub f k g l ∧ opB .sub (prA f k) (prB k) (prA g l) (prB l) = dueB .sub f k g l := by
  have e : prB l = 1 := if_neg (by omega)
  have e2 : 0 - g * 10 ^ l.toNat = (0 - g) * 10 ^ l.toNat := by grind
  unfold opA opB dueA dueB
  simp only [e, prA_all g l, e2]
  exact op_sum hf
theorem ten_add (a b : Nat) : (10 : Int) ^ a * 10 ^ b = 10 ^ (a + b) := (Int.pow_add 10 a b).symm
theorem cop_split {x y : Int} {A B : Nat} (hx : Int.gcd x 10 = 1) (hy : Int.gcd y 10 = 1) (hxy : Int.gcd x y = 1) (h : A = 0 ∨ B = 0) : Int.gcd (x * 10 ^ A) (y * 10 ^ B) = 1 := by
  rcases h with rfl | rfl
  · rw [Int.pow_zero, Int.mul_one, Int.gcd_comm]
    refine cop_mul (by rw [Int.gcd_comm]; exact hxy) ?_
    rw [Int.gcd_comm]
    exact cop_pow hx B
  · rw [Int.pow_zero, Int.mul_one]
    refine cop_mul hxy ?_
    rw [Int.gcd_comm]
    exact cop_pow hy A
theorem mk_tens {x y : Int} {N D A B C : Nat} {h : Int} (hx : Int.gcd x 10 = 1) (hy : Int.gcd y 10 = 1) (hxy : Int.gcd x y = 1) (y0 : 0 < y) (h0 : h ≠ 0) (eN : N = A + C) (eD : D = B + C) (hz : A = 0 ∨ B = 0) {n d : Int} (hn : n = x * h * 10 ^ N) (hd : d = y * h * 10 ^ D) :
    mk1 n d = x * 10 ^ A ∧ mk2 n d = y * 10 ^ B := by
  refine mk_char (c := h * 10 ^ C) (Int.mul_ne_zero h0 (ten_ne _)) (Int.mul_pos y0 (ten_gt _)) ?_ ?_ (cop_split hx hy hxy hz)
  · rw [hn, eN, ← ten_add]; grind
  · rw [hd, eD, ← ten_add]; grind
theorem mx0_nat (x : Int) : ((mx0 x).toNat : Int) = mx0 x := by
  unfold mx0
  split <;> omega
theorem mx0_sub (x : Int) : mx0 x - mx0 (0 - x) = x := by
  unfold mx0
  split <;> split <;> omega
theorem mx0_or (x : Int) : (mx0 x).toNat = 0 ∨ (mx0 (0 - x)).toNat = 0 := by
  unfold mx0
  split
  · exact .inl rfl
  · rename_i h
    by_cases h2 : 0 > 0 - x
    · rw [if_pos h2]; exact .inr rfl
    · exact .inl (by omega)
theorem nat_sub (x : Int) : (x.toNat : Int) - ((0 - x).toNat : Int) = x := by omega
theorem tens_at {k l : Int} {a b c d p q : Nat} (hk : (a : Int) - c = k) (hl : (b : Int) - d = l) (hx : (p : Int) - q = k + l) (hz : p = 0 ∨ q = 0) : ∃ C, a + b = p + C ∧ c + d = q + C := by
  rcases hz with rfl | rfl
  · exact ⟨a + b, by omega, by omega⟩
  · exact ⟨c + d, by omega, by omega⟩
theorem tens_split (k l : Int) : ∃ C, k.toNat + l.toNat = (mx0 (k + l)).toNat + C ∧ (0 - k).toNat + (0 - l).toNat = (mx0 (0 - (k + l))).toNat + C :=
  tens_at (nat_sub k) (nat_sub l) (by rw [mx0_nat, mx0_nat, mx0_sub]) (mx0_or _)
theorem law_mul {f k g l : Int} (hf : FigOk f) (hg : FigOk g) : opA .mul (prA f k) (prB k) (prA g l) (prB l) = dueA .mul f k g l ∧ opB .mul (prA f k) (prB k) (prA g l) (prB l) = dueB .mul f k g l := by
  unfold opA opB dueA dueB
  obtain ⟨C, hN, hD⟩ := tens_split k l
  have := mk_tens (x := f * g) (y := 1) (h := 1) (cop_mul (fig_coprime hf) (fig_coprime hg)) (by decide) (by simp) (by decide) (by decide) hN hD (mx0_or _)
    (n := prA f k * prA g l) (d := prB k * prB l) (by rw [prA_all, prA_all, ← ten_add]; grind) (by rw [prB_all, prB_all, ← ten_add]; grind)
  rw [Int.one_mul] at this
  exact this
theorem quo_fin {f g : Int} (hf : FigOk f) (hg : FigOk g) : ∃ h : Int, h ≠ 0 ∧ f = ([3, 3, 7].foldl qstep (sgn g f, sgn g g)).1 * h ∧ g = ([3, 3, 7].foldl qstep (sgn g f, sgn g g)).2 * h ∧ Int.gcd ([3, 3, 7].foldl qstep (sgn g f, sgn g g)).1 10 = 1 ∧
    Int.gcd ([3, 3, 7].foldl qstep (sgn g f, sgn g g)).2 10 = 1 ∧ Int.gcd ([3, 3, 7].foldl qstep (sgn g f, sgn g g)).1 ([3, 3, 7].foldl qstep (sgn g f, sgn g g)).2 = 1 ∧ 0 < ([3, 3, 7].foldl qstep (sgn g f, sgn g g)).2 := by
  refine ⟨g.fdiv ([3, 3, 7].foldl qstep (sgn g f, sgn g g)).2, ?_⟩
  unfold FigOk at hf hg
  rcases hf with rfl | rfl | rfl | rfl | rfl | rfl | rfl | rfl <;> rcases hg with rfl | rfl | rfl | rfl | rfl | rfl | rfl | rfl <;> decide +kernel
theorem law_div {f k g l : Int} (hf : FigOk f) (hg : FigOk g) : opA .div (prA f k) (prB k) (prA g l) (prB l) = dueA .div f k g l ∧ opB .div (prA f k) (prB k) (prA g l) (prB l) = dueB .div f k g l := by
  obtain ⟨h, h0, e1, e2, c1, c2, c3, p0⟩ := quo_fin hf hg
  unfold opA opB dueA dueB quoA quoB
  generalize ([3, 3, 7].foldl qstep (sgn g f, sgn g g)).1 = x at *
  generalize ([3, 3, 7].foldl qstep (sgn g f, sgn g g)).2 = y at *
  obtain ⟨C, hN, hD⟩ := tens_split k (0 - l)
  have e3 : 0 - (0 - l) = l := by omega
  have e4 : k + (0 - l) = k - l := by omega
  rw [e4] at hN
  rw [e3, e4] at hD
  exact mk_tens (x := x) (y := y) (h := h) c1 c2 c3 p0 h0 hN hD (mx0_or _)
    (n := prA f k * prB l) (d := prB k * prA g l) (by rw [prA_all, prB_all, ← ten_add, e1]; grind) (by rw [prA_all, prB_all, ← ten_add, e2]; grind)
theorem law_idv {f k g l : Int} (hg : FigOk g) (hk : 0 ≤ k) (hl : 0 ≤ l) : opA .idv (prA f k) (prB k) (prA g l) (prB l) = dueA .idv f k g l ∧ opB .idv (prA f k) (prB k) (prA g l) (prB l) = dueB .idv f k g l := by
  have e1 : prB l = 1 := if_neg (by omega)
  have e2 : prB k = 1 := if_neg (by omega)
  show (mk1 (prA f k * prB l) (prB k * prA g l)).fdiv (mk2 (prA f k * prB l) (prB k * prA g l)) = (prA f k).fdiv (prA g l) ∧ (1 : Int) = 1
  rw [e1, e2, Int.mul_one, Int.one_mul, mk_fdiv (prA_ne hg)]
  exact ⟨rfl, rfl⟩
theorem law_mod {f k g l : Int} (hg : FigOk g) (hk : 0 ≤ k) (hl : 0 ≤ l) : opA .mod (prA f k) (prB k) (prA g l) (prB l) = dueA .mod f k g l ∧ opB .mod (prA f k) (prB k) (prA g l) (prB l) = dueB .mod f k g l := by
  have e1 : prB l = 1 := if_neg (by omega)
  have e2 : prB k = 1 := if_neg (by omega)
  unfold opA opB dueA dueB rM1 rM2 flD
  rw [e1, e2]
  simp only [Int.mul_one, Int.one_mul, mk_fdiv (prA_ne hg), (mk_one _).1, (mk_one _).2]
  refine ⟨?_, trivial⟩
  rw [Int.fmod_def]
  grind
theorem law_all {o : Op} {f k g l : Int} (hf : FigOk f) (hg : FigOk g) (h1 : (o = .idv ∨ o = .mod) → 0 ≤ k) (h2 : ¬ (o = .mul ∨ o = .div) → 0 ≤ l) :
    opA o (prA f k) (prB k) (prA g l) (prB l) = dueA o f k g l ∧ opB o (prA f k) (prB k) (prA g l) (prB l) = dueB o f k g l := by
  cases o
  · exact law_add hf (h2 (by simp))
  · exact law_sub hf (h2 (by simp))
  · exact law_mul hf hg
  · exact law_div hf hg
  · exact law_idv hg (h1 (by simp)) (h2 (by simp))
  · exact law_mod hg (h1 (by simp)) (h2 (by simp))
theorem law_ok {o : Op} {f k g l : Int} (hf : FigOk f) (hg : FigOk g) (h1 : (o = .idv ∨ o = .mod) → 0 ≤ k) (h2 : ¬ (o = .mul ∨ o = .div) → 0 ≤ l) :
    opOk o (prA f k) (prB k) (prA g l) (prB l) ↔ dueOk o f k g l := by
  obtain ⟨e1, e2⟩ := law_all hf hg h1 h2
  cases o <;> simp only [opOk, dueOk, e1, e2]
def BaseOk (b e : Int) : Prop := (b = 1 ∧ e = 0) ∨ (b = 3 ∧ e = 0) ∨ (b = -1 ∧ e = 1) ∨ (b = 1 ∧ e = 2) ∨ (b = 1 ∧ e = -1) ∨ (b = 1 ∧ e = -2)
theorem base_fig {b e : Int} (h : BaseOk b e) : FigOk b := by
  unfold BaseOk at h
  unfold FigOk
  rcases h with ⟨rfl, rfl⟩ | ⟨rfl, rfl⟩ | ⟨rfl, rfl⟩ | ⟨rfl, rfl⟩ | ⟨rfl, rfl⟩ | ⟨rfl, rfl⟩ <;> decide
/-- what the law reckons as «above» -/
def abv (b s : Int) : Int := if b < 0 ∧ s.fmod 2 = 1 then 0 - (absI b) ^ s.toNat else (absI b) ^ s.toNat
theorem neg_pow (x : Int) (n : Nat) : (-x) ^ n = if n % 2 = 1 then 0 - x ^ n else x ^ n := by
  induction n with
  | zero => simp
  | succ n ih =>
    rw [Int.pow_succ, ih, Int.pow_succ]
    by_cases h : n % 2 = 1
    · rw [if_pos h, if_neg (by omega)]; grind
    · rw [if_neg h, if_pos (by omega)]; grind
theorem abv_is {b s : Int} (hs : 0 ≤ s) : abv b s = b ^ s.toNat := by
  unfold abv absI
  by_cases hb : b < 0
  · have e : b ^ s.toNat = (- -b) ^ s.toNat := by rw [Int.neg_neg]
    rw [e, neg_pow (-b)]
    have e2 : (s.fmod 2 = 1) ↔ s.toNat % 2 = 1 := by
      rw [Int.fmod_eq_emod_of_nonneg s (by omega)]
      omega
    simp only [hb, true_and, if_true, e2]
  · simp only [hb, false_and, if_false]
theorem mx0_mul {e n : Int} (hn : 0 ≤ n) : (mx0 (e * n)).toNat = e.toNat * n.toNat := by
  unfold mx0
  rcases Int.lt_or_le e 0 with h | h
  · have h1 : e.toNat = 0 := by omega
    rw [h1, Nat.zero_mul]
    have := Int.mul_nonneg (show 0 ≤ -e by omega) hn
    rw [Int.neg_mul] at this
    split <;> omega
  · have := Int.mul_nonneg h hn
    rw [if_neg (by omega), Int.toNat_mul h hn]
theorem mx0_mul' {e n : Int} (hn : 0 ≤ n) : (mx0 (0 - e * n)).toNat = (0 - e).toNat * n.toNat := by
  have : 0 - e * n = (0 - e) * n := by grind
  rw [this, mx0_mul hn]
theorem prA_pow (b e : Int) {n : Int} (hn : 0 ≤ n) : prA b e ^ n.toNat = b ^ n.toNat * 10 ^ (mx0 (e * n)).toNat := by
  rw [prA_all, Int.mul_pow, ← Int.pow_mul, mx0_mul hn]
theorem prB_pow (e : Int) {n : Int} (hn : 0 ≤ n) : prB e ^ n.toNat = 10 ^ (mx0 (0 - e * n)).toNat := by
  rw [prB_all, ← Int.pow_mul, mx0_mul' hn]
theorem pw_pos {b e n : Int} (hn : 0 ≤ n) : pwA (prA b e) (prB e) n = abv b n * 10 ^ (mx0 (e * n)).toNat ∧ pwB (prA b e) (prB e) n = 10 ^ (mx0 (0 - e * n)).toNat := by
  unfold pwA pwB
  rw [if_pos hn, if_pos hn, prA_pow b e hn, prB_pow e hn, abv_is hn]
  exact ⟨rfl, rfl⟩
def sig (x : Int) : Int := if x < 0 then -1 else 1
theorem pow_cop {b : Int} (hb : FigOk b) (n : Nat) : Int.gcd (b ^ n) 10 = 1 := by
  have := cop_pow (x := 10) (e := n) |> fun _ => fig_coprime hb
  have h : Nat.Coprime b.natAbs 10 := this
  show Nat.gcd (b ^ n).natAbs 10 = 1
  rw [Int.natAbs_pow]
  exact Nat.Coprime.pow_left n h
theorem pw_neg {b e n : Int} (hb : FigOk b) (hn : n < 0) : pwA (prA b e) (prB e) n = sig (abv b (0 - n)) * 10 ^ (mx0 (0 - e * (0 - n))).toNat ∧ pwB (prA b e) (prB e) n = absI (abv b (0 - n)) * 10 ^ (mx0 (e * (0 - n))).toNat := by
  unfold pwA pwB
  have hs : 0 ≤ 0 - n := by omega
  rw [if_neg (by omega), if_neg (by omega), prA_pow b e hs, prB_pow e hs, abv_is hs]
  have hx : b ^ (0 - n).toNat ≠ 0 := Int.pow_ne_zero (fig_ne hb)
  have hg := pow_cop hb (0 - n).toNat
  generalize b ^ (0 - n).toNat = x at *
  have hy : Int.gcd (absI x) 10 = 1 := by
    rw [absI_nat]
    show Nat.gcd ((x.natAbs : Int)).natAbs 10 = 1
    rw [Int.natAbs_natCast]
    exact hg
  refine mk_tens (x := sig x) (y := absI x) (h := sig x) (N := (mx0 (0 - e * (0 - n))).toNat) (D := (mx0 (e * (0 - n))).toNat) (A := (mx0 (0 - e * (0 - n))).toNat) (B := (mx0 (e * (0 - n))).toNat) (C := 0) ?_ hy ?_ ?_ ?_ rfl rfl ?_ ?_ ?_
  · unfold sig; split <;> decide
  · unfold sig; split <;> simp
  · unfold absI; split <;> omega
  · unfold sig; split <;> omega
  · unfold mx0
    generalize e * (0 - n) = z
    split <;> split <;> omega
  · unfold sig; split <;> simp
  · unfold sig absI; split <;> grind
theorem one_is {b e : Int} (h : BaseOk b e) : (prA b e = 1 ∧ prB e = 1) ↔ (b = 1 ∧ e = 0) := by
  unfold BaseOk at h
  rcases h with ⟨rfl, rfl⟩ | ⟨rfl, rfl⟩ | ⟨rfl, rfl⟩ | ⟨rfl, rfl⟩ | ⟨rfl, rfl⟩ | ⟨rfl, rfl⟩ <;> decide
theorem base_p {b e : Int} (h : BaseOk b e) : prA b e ≠ 0 ∧ prA b e ≠ -1 ∧ 0 < prB e := by
  unfold BaseOk at h
  rcases h with ⟨rfl, rfl⟩ | ⟨rfl, rfl⟩ | ⟨rfl, rfl⟩ | ⟨rfl, rfl⟩ | ⟨rfl, rfl⟩ | ⟨rfl, rfl⟩ <;> decide
theorem one_vals {b e n : Int} (hn : (b = 1 ∧ e = 0) ∨ n = 0) : abv b (absI n) = 1 ∧ e * absI n = 0 := by
  have hs : 0 ≤ absI n := by unfold absI; split <;> omega
  rw [abv_is hs]
  rcases hn with ⟨rfl, rfl⟩ | rfl
  · rw [Int.one_pow]; simp
  · have : absI 0 = 0 := by decide
    rw [this]; simp

theorem pw_ok {b e : Int} (h : BaseOk b e) : (prA b e = 1 ∧ prB e = 1 → b = 1 ∧ e = 0) := (one_is h).mp
theorem bits_mkN {n d : Int} {m : Nat} (h : Builtin.Int.intBits n ≤ m) : Builtin.Int.intBits (mkN n d) ≤ m := by
  unfold mkN
  split
  · exact neg_bits h
  · exact h
theorem bits_mkD {d : Int} {m : Nat} (h : Builtin.Int.intBits d ≤ m) : Builtin.Int.intBits (mkD d) ≤ m := by
  unfold mkD
  split
  · exact neg_bits h
  · exact h
theorem bits_mk1 {n d : Int} {m : Nat} (h : Builtin.Int.intBits n ≤ m) : Builtin.Int.intBits (mk1 n d) ≤ m := PySem.intBits_fdiv_le (bits_mkN h)
theorem bits_mk2 {n d : Int} {m : Nat} (h : Builtin.Int.intBits d ≤ m) : Builtin.Int.intBits (mk2 n d) ≤ m := PySem.intBits_fdiv_le (bits_mkD h)
theorem ophyp {p q r v : Int} (q0 : 0 < q) (v0 : 0 < v) (r0 : r ≠ 0) (bp : Builtin.Int.intBits p ≤ 20005) (bq : Builtin.Int.intBits q ≤ 20005) (br : Builtin.Int.intBits r ≤ 20005) (bv : Builtin.Int.intBits v ≤ 20005) : OpHyp p q r v := by
  have b1 : Builtin.Int.intBits (1 * v) ≤ 20005 := by rw [Int.one_mul]; exact bv
  have bf : Builtin.Int.intBits (flD p q r v) ≤ 40010 := PySem.intBits_fdiv_le (bits_mk1 (PySem.intBits_mul_le bp bv))
  have bm1 : Builtin.Int.intBits (rM1 p q r v) ≤ 60015 := bits_mk1 (PySem.intBits_mul_le bf br)
  have bm2 : Builtin.Int.intBits (rM2 p q r v) ≤ 20005 := bits_mk2 b1
  exact ⟨q0, v0, r0, mul_big bp bv, mul_big br bq, mul_big bq bv, mul_big (neg_bits br) bq, mul_big bp br, mul_big bq br, IntMulOk.of_le bf br (by omega), IntMulOk.of_le (m := 1) (by decide) bv (by omega), mul_big bp bm2,
    IntMulOk.of_le (neg_bits bm1) bq (by omega), mul_big bq bm2⟩
theorem ophyp_pr {f k g l : Int} (hf : FigOk f) (hg : FigOk g) (hk : -5000 ≤ k ∧ k ≤ 5000) (hl : -5000 ≤ l ∧ l ≤ 5000) : OpHyp (prA f k) (prB k) (prA g l) (prB l) :=
  ophyp (prB_gt k) (prB_gt l) (prA_ne hg) (prA_bits hf hk.2) (prB_bits hk.1) (prA_bits hg hl.2) (prB_bits hl.1)
theorem ophyp_small {p r : Int} (hp : Builtin.Int.intBits p ≤ 20005) (hr : Builtin.Int.intBits r ≤ 20005) (r0 : r ≠ 0) : OpHyp p 1 r 1 := ophyp (by omega) (by omega) r0 hp (by decide) hr (by decide)
def fstA : Op → Int
  | .add => 3
  | .sub => 1
  | .mul => 2
  | .div => 2
  | .idv => 2
  | .mod => 0
theorem opA_fst (o : Op) : opA o 2 1 1 1 = fstA o := by cases o <;> decide +kernel
theorem opB_fst (o : Op) : opB o 2 1 1 1 = 1 := by cases o <;> decide +kernel
theorem opOk_fst (o : Op) : opOk o 2 1 1 1 := by
  have h := t5_big
  cases o <;> simp only [opOk, opA_fst, opB_fst] <;> first | trivial | (constructor <;> first | omega | (unfold absI fstA; split <;> omega))
theorem ophyp_fst : OpHyp 2 1 1 1 := ophyp_small (by decide) (by decide) (by decide)
theorem tiny_base {b e : Int} (h : BaseOk b e) : Tiny (prA b e) ∧ Tiny (prB e) := by
  unfold BaseOk at h
  rcases h with ⟨rfl, rfl⟩ | ⟨rfl, rfl⟩ | ⟨rfl, rfl⟩ | ⟨rfl, rfl⟩ | ⟨rfl, rfl⟩ | ⟨rfl, rfl⟩ <;> decide
def Op.n : Op → Nat
  | .add => 0
  | .sub => 1
  | .mul => 2
  | .div => 3
  | .idv => 4
  | .mod => 5
theorem law_wf {o : Op} {f k g l : Int} (hf : FigOk f) (hg : FigOk g) (h1 : (o.n = 4 ∨ o.n = 5) → 0 ≤ k) (h2 : ¬ (o.n = 2 ∨ o.n = 3) → 0 ≤ l) :
    (opA o (prA f k) (prB k) (prA g l) (prB l) = dueA o f k g l ∧ opB o (prA f k) (prB k) (prA g l) (prB l) = dueB o f k g l) ∧ (opOk o (prA f k) (prB k) (prA g l) (prB l) ↔ dueOk o f k g l) := by
  have a1 : (o = .idv ∨ o = .mod) → 0 ≤ k := fun h => h1 (by rcases h with rfl | rfl <;> simp [Op.n])
  have a2 : ¬ (o = .mul ∨ o = .div) → 0 ≤ l := fun h => h2 (by cases o <;> simp_all [Op.n])
  exact ⟨law_all hf hg a1 a2, law_ok hf hg a1 a2⟩
theorem two_s {news : Led} {ok ok' : Prop} {p q p' q' : Int} {h₀ : Heap} {L : Addr} {m : Str → Option Value} {s : Shared} {Q E : Value → Shared → Prop} {b : Heap} {o : List Env}
    (h : RTwoS news ok' p' q' h₀ L m s Q E b o) (e1 : p = p') (e2 : q = q') (e3 : ok ↔ ok') : RTwoS news ok p q h₀ L m s Q E b o := by
  subst e1
  subst e2
  exact ⟨fun k => h.1 (e3.mp k), fun k => h.2 fun k' => k (e3.mpr k')⟩
theorem two_e {w : World} {news : Led} {ok ok' : Prop} {p q p' q' : Int} {h₀ : Heap} {L : Addr} {m : Str → Option Value} {s : Shared} {Q E : Value → Shared → Prop} {b : Heap} {o : List Env}
    (h : RTwo w news ok' p' q' h₀ L m s Q E b o) (e1 : p = p') (e2 : q = q') (e3 : ok ↔ ok') : RTwo w news ok p q h₀ L m s Q E b o := by
  subst e1
  subst e2
  exact ⟨fun k => h.1 (e3.mp k), fun k => h.2 fun k' => k (e3.mpr k')⟩
abbrev AsklawOK (Kf : Frag) (pg : Program) (w : World) (mean : ExcName → Option Value) (mg mb : Str → Option Value) : Prop :=
  ∀ (news : Led) (o : Op) (ts : Tok) (X Y : Addr) (f k g l : Int) (t u t' u' : Tok) (c c' : Nat), (X, tupO (prA f k) (prB k) t u c) ∈ news → (Y, tupO (prA g l) (prB l) t' u' c') ∈ news → (FigOk f) → (FigOk g) → (-5000 ≤ k ∧ k ≤ 5000) → (-5000 ≤ l ∧ l ≤ 5000) → ((o.n = 4 ∨ o.n = 5) → 0 ≤ k) → (¬ (o.n = 2 ∨ o.n = 3) → 0 ≤ l) → CalT Kf pg w mean mg mb 122 80 418 [.str o.s ts, .ref X, .ref Y] news (RTwoS news (dueOk o f k g l) (dueA o f k g l) (dueB o f k g l))
theorem use_asklaw {Kf : Frag} {pg : Program} {w : World} {mean : ExcName → Option Value} {mg mb : Str → Option Value} {news : Led} {o : Op} {ts : Tok} {X Y : Addr} {f k g l : Int} {t u t' u' : Tok} {c c' : Nat}
    {dp un : Nat} {gd : Option (List Code)} {cn : Str} {cs : Scope} {a : Addr} {ccd : Value} {A₀ : Around} {base h₀ : Heap} {L : Addr} {m : Str → Option Value} {s : Shared} {Q E : Value → Shared → Prop}
    (kB : Below A₀ base [] h₀) (kF : Fr h₀ L s.heap m) (kX : Kf.In h₀) (kN : News h₀ L s.heap news) (kT : Top pg (Lo pg) mean mg mb h₀) (kXB : Kf.In base) (kTB : Top pg (Lo pg) mean mg mb base) (kC : AsklawOK Kf pg w mean mg mb) (hk : cs.kind = .function) (hm0 : (X, tupO (prA f k) (prB k) t u c) ∈ news) (hm1 : (Y, tupO (prA g l) (prB l) t' u' c') ∈ news) (hp0 : FigOk f) (hp1 : FigOk g) (hp2 : -5000 ≤ k ∧ k ≤ 5000) (hp3 : -5000 ≤ l ∧ l ≤ 5000) (hp4 : (o.n = 4 ∨ o.n = 5) → 0 ≤ k) (hp5 : ¬ (o.n = 2 ∨ o.n = 3) → 0 ≤ l)
    (hd : dp + 122 < recursionLimit) (hu : un + 80 < cLine) (kr : (RTwoS news (dueOk o f k g l) (dueA o f k g l) (dueB o f k g l) : Fin') h₀ L m s Q E base [envX cn cs L a ccd []]) :
    wpAny (model PySem.Challenge.pw_ov0068_01 w) (ktrTop dp un gd cn cs L a ccd [] []) (call (.ref 418) [.str o.s ts, .ref X, .ref Y]) Q E s :=
  kC news o ts X Y f k g l t u t' u' c c' hm0 hm1 hp0 hp1 hp2 hp3 hp4 hp5 _ _ _ _ _ _ _ _ _ _ _ _ _ _ _ kB kF kX kN kT kXB kTB hk hd hu kr
abbrev DoplawOK (Kf : Frag) (pg : Program) (w : World) (mean : ExcName → Option Value) (mg mb : Str → Option Value) : Prop :=
  ∀ (news : Led) (o : Op) (ts : Tok) (X Y : Addr) (f k g l : Int) (t u t' u' : Tok) (c c' : Nat), (X, tupO (prA f k) (prB k) t u c) ∈ news → (Y, tupO (prA g l) (prB l) t' u' c') ∈ news → (FigOk f) → (FigOk g) → (-5000 ≤ k ∧ k ≤ 5000) → (-5000 ≤ l ∧ l ≤ 5000) → ((o.n = 4 ∨ o.n = 5) → 0 ≤ k) → (¬ (o.n = 2 ∨ o.n = 3) → 0 ≤ l) → Cal Kf pg w mean mg mb 120 64 331 [.str o.s ts, .ref X, .ref Y] news (RTwo w news (dueOk o f k g l) (dueA o f k g l) (dueB o f k g l))
theorem use_doplaw {Kf : Frag} {pg : Program} {w : World} {mean : ExcName → Option Value} {mg mb : Str → Option Value} {news : Led} {o : Op} {ts : Tok} {X Y : Addr} {f k g l : Int} {t u t' u' : Tok} {c c' : Nat}
    {dp un : Nat} {gd : Option (List Code)} {cn : Str} {cs : Scope} {a : Addr} {ccd : Value} {cl : List (Str × Addr)} {outer : List Env} {A₀ : Around} {base h₀ : Heap} {L : Addr} {m : Str → Option Value} {s : Shared} {Q E : Value → Shared → Prop}
    (kB : Below A₀ base outer h₀) (kF : Fr h₀ L s.heap m) (kX : Kf.In h₀) (kN : News h₀ L s.heap news) (kT : Top pg (Lo pg) mean mg mb h₀) (kC : DoplawOK Kf pg w mean mg mb) (hk : cs.kind = .function) (hm0 : (X, tupO (prA f k) (prB k) t u c) ∈ news) (hm1 : (Y, tupO (prA g l) (prB l) t' u' c') ∈ news) (hp0 : FigOk f) (hp1 : FigOk g) (hp2 : -5000 ≤ k ∧ k ≤ 5000) (hp3 : -5000 ≤ l ∧ l ≤ 5000) (hp4 : (o.n = 4 ∨ o.n = 5) → 0 ≤ k) (hp5 : ¬ (o.n = 2 ∨ o.n = 3) → 0 ≤ l)
    (hd : dp + 120 < recursionLimit) (hu : un + 64 < cLine) (kr : (RTwo w news (dueOk o f k g l) (dueA o f k g l) (dueB o f k g l) : Fin') h₀ L m s Q E base (envX cn cs L a ccd cl :: outer)) :
    wpAny (model PySem.Challenge.pw_ov0068_01 w) (ktrTop dp un gd cn cs L a ccd cl outer) (call (.ref 331) [.str o.s ts, .ref X, .ref Y]) Q E s :=
  kC news o ts X Y f k g l t u t' u' c c' hm0 hm1 hp0 hp1 hp2 hp3 hp4 hp5 _ _ _ _ _ _ _ _ _ _ _ _ _ _ _ _ _ kB kF kX kN kT hk hd hu kr
abbrev DopfstOK (Kf : Frag) (pg : Program) (w : World) (mean : ExcName → Option Value) (mg mb : Str → Option Value) : Prop :=
  ∀ (news : Led) (o : Op) (ts : Tok) (X Y : Addr) (t u t' u' : Tok) (c c' : Nat), (X, tupO 2 1 t u c) ∈ news → (Y, tupO 1 1 t' u' c') ∈ news → Cal Kf pg w mean mg mb 120 64 331 [.str o.s ts, .ref X, .ref Y] news (RTup news (fstA o) 1)
theorem use_dopfst {Kf : Frag} {pg : Program} {w : World} {mean : ExcName → Option Value} {mg mb : Str → Option Value} {news : Led} {o : Op} {ts : Tok} {X Y : Addr} {t u t' u' : Tok} {c c' : Nat}
    {dp un : Nat} {gd : Option (List Code)} {cn : Str} {cs : Scope} {a : Addr} {ccd : Value} {cl : List (Str × Addr)} {outer : List Env} {A₀ : Around} {base h₀ : Heap} {L : Addr} {m : Str → Option Value} {s : Shared} {Q E : Value → Shared → Prop}
    (kB : Below A₀ base outer h₀) (kF : Fr h₀ L s.heap m) (kX : Kf.In h₀) (kN : News h₀ L s.heap news) (kT : Top pg (Lo pg) mean mg mb h₀) (kC : DopfstOK Kf pg w mean mg mb) (hk : cs.kind = .function) (hm0 : (X, tupO 2 1 t u c) ∈ news) (hm1 : (Y, tupO 1 1 t' u' c') ∈ news)
    (hd : dp + 120 < recursionLimit) (hu : un + 64 < cLine) (kr : (RTup news (fstA o) 1 : Fin') h₀ L m s Q E base (envX cn cs L a ccd cl :: outer)) :
    wpAny (model PySem.Challenge.pw_ov0068_01 w) (ktrTop dp un gd cn cs L a ccd cl outer) (call (.ref 331) [.str o.s ts, .ref X, .ref Y]) Q E s :=
  kC news o ts X Y t u t' u' c c' hm0 hm1 _ _ _ _ _ _ _ _ _ _ _ _ _ _ _ _ _ kB kF kX kN kT hk hd hu kr
theorem ne_idv (o : Op) : (o.s != Str.ofString "%/%") = decide (o.n ≠ 4) := by cases o <;> decide
theorem ne_mod (o : Op) : (o.s != Str.ofString "%%") = decide (o.n ≠ 5) := by cases o <;> decide
theorem eq_mul (o : Op) : (o.s == Str.ofString "*") = decide (o.n = 2) := by cases o <;> decide
theorem eq_div (o : Op) : (o.s == Str.ofString "/") = decide (o.n = 3) := by cases o <;> decide
section
variable {prog : Program} {w : World} {A : Around} {E : Value → Shared → Prop} {s : Shared} {h₀ : Heap} {L a : Addr} {m : Str → Option Value} {name : Str} {scope : Scope} {cd : Value} {o : Op} {ts : Tok} {Q : Value → Shared → Prop}
theorem cmp_str {x lit y : Str} {b : Bool} {p1 p2 p3 : Pos} {k : Nat} {t : Tok} (F : Fr h₀ L s.heap m) (hv : m x = some (.str y t)) (e : (y != lit) = b) (h : Q (.bool b) { s with toks := s.toks + 1 })
    (hk : scope.kind = .function := by rfl) (hl : (envOf name scope L a cd).kindOf x = some .local := by rfl) (hd : (x == ("__debug__" : Str)) = false := by decide) :
    wpAny (model prog w) A (eval (.Compare (.Name x p1) [.NotEq] [.Constant (.str lit) k p2] p3) (envOf name scope L a cd)) Q E s :=
  wpAny_Compare1 (ld F hv (Calls.Constant_str (ne_str (by rw [e]; exact h))) hk hl hd)
theorem cmp_strE {x lit y : Str} {b : Bool} {p1 p2 p3 : Pos} {k : Nat} {t : Tok} (F : Fr h₀ L s.heap m) (hv : m x = some (.str y t)) (e : (y == lit) = b) (h : Q (.bool b) { s with toks := s.toks + 1 })
    (hk : scope.kind = .function := by rfl) (hl : (envOf name scope L a cd).kindOf x = some .local := by rfl) (hd : (x == ("__debug__" : Str)) = false := by decide) :
    wpAny (model prog w) A (eval (.Compare (.Name x p1) [.Eq] [.Constant (.str lit) k p2] p3) (envOf name scope L a cd)) Q E s :=
  wpAny_Compare1 (ld F hv (Calls.Constant_str (eq_str (by rw [e]; exact h))) hk hl hd)
theorem wf1 {x : Str} {p1 p2 p3 p4 p5 p6 p7 : Pos} {k k' : Nat} (F : Fr h₀ L s.heap m) (hv : m x = some (.str o.s ts)) (h : ∀ tk', Q (.bool (decide (o.n ≠ 4) && decide (o.n ≠ 5))) { s with toks := tk' })
    (hk : scope.kind = .function := by rfl) (hl : (envOf name scope L a cd).kindOf x = some .local := by rfl) (hd : (x == ("__debug__" : Str)) = false := by decide) :
    wpAny (model prog w) A (eval (.BoolOp .And [.Compare (.Name x p1) [.NotEq] [.Constant (.str (Str.ofString "%/%")) k p2] p3, .Compare (.Name x p4) [.NotEq] [.Constant (.str (Str.ofString "%%")) k' p5] p6] p7) (envOf name scope L a cd)) Q E s := by
  refine BoolOp_and (cmp_str F hv (ne_idv o) (wpAny_truthy_bool ?_) hk hl hd)
  split
  · rename_i h1
    refine BoolOp_one (cmp_str F hv (ne_mod o) ?_ hk hl hd)
    have := h (s.toks + 1 + 1)
    rw [h1, Bool.true_and] at this
    exact this
  · rename_i h1
    have := h (s.toks + 1)
    rw [Bool.eq_false_iff.mpr h1, Bool.false_and] at this
    rw [Bool.eq_false_iff.mpr h1]
    exact this
theorem wf2 {x : Str} {p1 p2 p3 p4 p5 p6 p7 : Pos} {k k' : Nat} (F : Fr h₀ L s.heap m) (hv : m x = some (.str o.s ts)) (h : ∀ tk', Q (.bool (decide (o.n = 2) || decide (o.n = 3))) { s with toks := tk' })
    (hk : scope.kind = .function := by rfl) (hl : (envOf name scope L a cd).kindOf x = some .local := by rfl) (hd : (x == ("__debug__" : Str)) = false := by decide) :
    wpAny (model prog w) A (eval (.BoolOp .Or [.Compare (.Name x p1) [.Eq] [.Constant (.str (Str.ofString "*")) k p2] p3, .Compare (.Name x p4) [.Eq] [.Constant (.str (Str.ofString "/")) k' p5] p6] p7) (envOf name scope L a cd)) Q E s := by
  refine BoolOp_or (cmp_strE F hv (eq_mul o) (wpAny_truthy_bool ?_) hk hl hd)
  split
  · rename_i h1
    have := h (s.toks + 1)
    rw [h1, Bool.true_or] at this
    rw [h1]
    exact this
  · rename_i h1
    refine BoolOp_one (cmp_strE F hv (eq_div o) ?_ hk hl hd)
    have := h (s.toks + 1 + 1)
    rw [Bool.eq_false_iff.mpr h1, Bool.false_or] at this
    exact this
theorem pick_op {T : Addr} {news : Led} {t0 t1 t2 t3 t4 t5 u : Tok} {c : Nat} {r : Int} {value slice : PySem.Expr} (N : News h₀ L s.heap news)
    (hm : (T, listOf #[.str (Str.ofString "+") t0, .str (Str.ofString "-") t1, .str (Str.ofString "*") t2, .str (Str.ofString "/") t3, .str (Str.ofString "%/%") t4, .str (Str.ofString "%%") t5] c) ∈ news) (h0 : 0 ≤ r) (h6 : r < 6)
    (h : ∀ (o : Op) (t : Tok), Q (.str o.s t) s)
    (hs : subscripted slice false (.ref T) (.int r u) = operate [.ref T, .int r u] (getItem (.ref T) (.int r u)) := by with_unfolding_all rfl) :
    wpAny (model prog w) A (subscriptTail value slice (.ref T) (.int r u)) Q E s := by
  have hl : s.heap.IsList T [Value.str (Str.ofString "+") t0, .str (Str.ofString "-") t1, .str (Str.ofString "*") t2, .str (Str.ofString "/") t3, .str (Str.ofString "%/%") t4, .str (Str.ofString "%%") t5].toArray := N.isList hm
  have hr : r = 0 ∨ r = 1 ∨ r = 2 ∨ r = 3 ∨ r = 4 ∨ r = 5 := by omega
  rcases hr with rfl | rfl | rfl | rfl | rfl | rfl
  · exact item_lis hl (by omega) (by omega) rfl (h .add _) hs
  · exact item_lis hl (by omega) (by omega) rfl (h .sub _) hs
  · exact item_lis hl (by omega) (by omega) rfl (h .mul _) hs
  · exact item_lis hl (by omega) (by omega) rfl (h .div _) hs
  · exact item_lis hl (by omega) (by omega) rfl (h .idv _) hs
  · exact item_lis hl (by omega) (by omega) rfl (h .mod _) hs
def NextP (P : Shared → Prop) (fl : Flow) (s' : Shared) : Prop := fl = .next ∧ P s'
theorem cut_app {env : Env} {P : Shared → Prop} {Q : Flow → Shared → Prop} (r : List Stmt) (h2 : ∀ s', P s' → wpAny (model prog w) A (execs r env) Q E s') : ∀ (l : List Stmt) {s : Shared}, wpAny (model prog w) A (execs l env) (NextP P) E s → wpAny (model prog w) A (execs (l ++ r) env) Q E s
  | l, s, h1 => fun Γ p hΓ => by
    have key : ∀ (l : List Stmt) (p : _) (s : Shared), Sem.wp (model prog w) Γ (execs l env) (fun a _ s => NextP P a s) (fun e _ s => E e s) p s → Sem.wp (model prog w) Γ (execs (l ++ r) env) (fun a _ s => Q a s) (fun e _ s => E e s) p s := by
      intro l
      induction l with
      | nil => intro p s h; exact h2 s h.2 Γ p hΓ
      | cons st l ih =>
        intro p s h
        rw [execs_cons, Sem.wp_bind'] at h
        rw [List.cons_append, execs_cons, Sem.wp_bind']
        refine Sem.wp_mono _ Γ _ (fun f p' s' h' => ?_) (fun _ _ _ h' => h') _ _ h
        cases f <;> first | exact ih p' s' h' | (cases h'.1)
    exact key l p s (h1 Γ p hΓ)
theorem cut_at {env : Env} {P : Shared → Prop} {Q : Flow → Shared → Prop} {s : Shared} (k : Nat) {l : List Stmt} (h1 : wpAny (model prog w) A (execs (l.take k) env) (NextP P) E s) (h2 : ∀ s', P s' → wpAny (model prog w) A (execs (l.drop k) env) Q E s') : wpAny (model prog w) A (execs l env) Q E s := by
  have := cut_app (l.drop k) h2 (l.take k) h1
  rw [List.take_append_drop] at this
  exact this
end
abbrev nOp : Str := Str.ofString "op"
abbrev nX : Str := Str.ofString "x"
abbrev nY : Str := Str.ofString "y"
abbrev nDue : Str := Str.ofString "due"
abbrev nBeads : Str := Str.ofString "beads"
def Due (o : Op) (f k g l : Int) (v : Value) (dl : Led) : Prop :=
  (dueOk o f k g l ∧ ∃ (D : Addr) (t1 t2 : Tok) (c : Nat), v = .ref D ∧ dl = [(D, tupO (dueA o f k g l) (dueB o f k g l) t1 t2 c)]) ∨ (¬ dueOk o f k g l ∧ ∃ t : Tok, v = .str refused t ∧ dl = [])
structure PA (h₀ : Heap) (L : Addr) (s s' : Shared) (h' : Heap) (m : Str → Option Value) (o : Op) (ts : Tok) (f k g l : Int) (X Y lb : Addr) (us : List Value) (ns : List Int) (n : Nat) (t u t' u' : Tok) (c c' : Nat) (v : Value) (dl : Led) : Prop where
  sh : ∃ tk', s' = { s with heap := h', toks := tk' }
  hf : FigOk f
  hg : FigOk g
  hk : -5000 ≤ k ∧ k ≤ 5000
  hl : -5000 ≤ l ∧ l ≤ 5000
  w1 : (o.n = 4 ∨ o.n = 5) → 0 ≤ k
  w2 : ¬ (o.n = 2 ∨ o.n = 3) → 0 ≤ l
  mo : m nOp = some (.str o.s ts)
  mx : m nX = some (.ref X)
  my : m nY = some (.ref Y)
  md : m nDue = some v
  mb : m nBeads = some (.ref lb)
  F : Fr h₀ L h' m
  N : News h₀ L h' ((lb, lisO us n) :: (X, tupO (prA f k) (prB k) t u c) :: (Y, tupO (prA g l) (prB l) t' u' c') :: dl)
  hi : IntsAre us ns
  hz : us.length ≤ 64
  lX : @LT.lt Nat _ lb X
  lY : @LT.lt Nat _ lb Y
  ld : ∀ p ∈ dl, p.1 ≠ lb
  due : Due o f k g l v dl
def PA' (h₀ : Heap) (L : Addr) (s s' : Shared) : Prop := ∃ h' m o ts f k g l X Y lb us ns n t u t' u' c c' v dl, PA h₀ L s s' h' m o ts f k g l X Y lb us ns n t u t' u' c c' v dl
theorem cut_A {prog : Program} {w : World} {A : Around} {E : Value → Shared → Prop} {s : Shared} {h₀ : Heap} {L : Addr} {m : Str → Option Value} {env : Env} {Q : Flow → Shared → Prop} (F : Fr h₀ L s.heap m) (k : Nat) (P : Heap → Addr → Shared → Shared → Prop) {l : List Stmt}
    (h1 : wpAny (model prog w) A (execs (l.take k) env) (NextP (P h₀ L s)) E s) (h2 : ∀ s', P h₀ L s s' → wpAny (model prog w) A (execs (l.drop k) env) Q E s') : wpAny (model prog w) A (execs l env) Q E s := cut_at k h1 h2
theorem pa_ok {h₀ : Heap} {L : Addr} {s : Shared} {h' : Heap} {m : Str → Option Value} {o : Op} {ts : Tok} {f k g l : Int} {X Y lb D : Addr} {us : List Value} {ns : List Int} {n : Nat} {t u t' u' t1 t2 : Tok} {c c' c'' : Nat} {tk' : Nat} {news : Led}
    (F : Fr h₀ L h' m) (N : News h₀ L h' news) (mo : m nOp = some (.str o.s ts)) (mx : m nX = some (.ref X)) (my : m nY = some (.ref Y)) (md : m nDue = some (.ref D)) (mb : m nBeads = some (.ref lb))
    (n1 : (lb, lisO us n) ∈ news) (n2 : (X, tupO (prA f k) (prB k) t u c) ∈ news) (n3 : (Y, tupO (prA g l) (prB l) t' u' c') ∈ news) (n4 : (D, tupO (dueA o f k g l) (dueB o f k g l) t1 t2 c'') ∈ news)
    (hf : FigOk f) (hg : FigOk g) (hk : -5000 ≤ k ∧ k ≤ 5000) (hl : -5000 ≤ l ∧ l ≤ 5000) (w1 : (o.n = 4 ∨ o.n = 5) → 0 ≤ k) (w2 : ¬ (o.n = 2 ∨ o.n = 3) → 0 ≤ l) (hi : IntsAre us ns) (hz : us.length ≤ 64)
    (lX : @LT.lt Nat _ lb X) (lY : @LT.lt Nat _ lb Y) (lD : @LT.lt Nat _ lb D) (ok : dueOk o f k g l) : NextP (PA' h₀ L s) .next { s with heap := h', toks := tk' } := by
  refine ⟨rfl, h', m, o, ts, f, k, g, l, X, Y, lb, us, ns, n, t, u, t', u', c, c', .ref D, [(D, tupO (dueA o f k g l) (dueB o f k g l) t1 t2 c'')], ⟨tk', rfl⟩, hf, hg, hk, hl, w1, w2, mo, mx, my, md, mb, F, fun p hp => N p ?_, hi, hz, lX, lY, ?_, .inl ⟨ok, D, t1, t2, c'', rfl, rfl⟩⟩
  · rcases List.mem_cons.mp hp with rfl | hp
    · exact n1
    · rcases List.mem_cons.mp hp with rfl | hp
      · exact n2
      · rcases List.mem_cons.mp hp with rfl | hp
        · exact n3
        · rw [List.mem_singleton.mp hp]; exact n4
  · intro p hp
    rw [List.mem_singleton.mp hp]
    exact Nat.ne_of_gt lD
theorem pa_no {h₀ : Heap} {L : Addr} {s : Shared} {h' : Heap} {m : Str → Option Value} {o : Op} {ts td : Tok} {f k g l : Int} {X Y lb : Addr} {us : List Value} {ns : List Int} {n : Nat} {t u t' u' : Tok} {c c' : Nat} {tk' : Nat} {news : Led}
    (F : Fr h₀ L h' m) (N : News h₀ L h' news) (mo : m nOp = some (.str o.s ts)) (mx : m nX = some (.ref X)) (my : m nY = some (.ref Y)) (md : m nDue = some (.str refused td)) (mb : m nBeads = some (.ref lb))
    (n1 : (lb, lisO us n) ∈ news) (n2 : (X, tupO (prA f k) (prB k) t u c) ∈ news) (n3 : (Y, tupO (prA g l) (prB l) t' u' c') ∈ news)
    (hf : FigOk f) (hg : FigOk g) (hk : -5000 ≤ k ∧ k ≤ 5000) (hl : -5000 ≤ l ∧ l ≤ 5000) (w1 : (o.n = 4 ∨ o.n = 5) → 0 ≤ k) (w2 : ¬ (o.n = 2 ∨ o.n = 3) → 0 ≤ l) (hi : IntsAre us ns) (hz : us.length ≤ 64)
    (lX : @LT.lt Nat _ lb X) (lY : @LT.lt Nat _ lb Y) (no : ¬ dueOk o f k g l) : NextP (PA' h₀ L s) .next { s with heap := h', toks := tk' } := by
  refine ⟨rfl, h', m, o, ts, f, k, g, l, X, Y, lb, us, ns, n, t, u, t', u', c, c', .str refused td, [], ⟨tk', rfl⟩, hf, hg, hk, hl, w1, w2, mo, mx, my, md, mb, F, fun p hp => N p ?_, hi, hz, lX, lY, (fun p hp => nomatch hp), .inr ⟨no, td, rfl, rfl⟩⟩
  rcases List.mem_cons.mp hp with rfl | hp
  · exact n1
  · rcases List.mem_cons.mp hp with rfl | hp
    · exact n2
    · rw [List.mem_singleton.mp hp]; exact n3
theorem lt_led {D lb : Addr} {us : List Value} {n : Nat} {news : Led} (h : AllLt D news) (m : (lb, lisO us n) ∈ news) : @LT.lt Nat _ lb D := ktn_ltOf h _ m
abbrev nBase : Str := Str.ofString "base"
abbrev nTimes : Str := Str.ofString "times_of"
abbrev nLift : Str := Str.ofString "lifted"
abbrev nWant : Str := Str.ofString "wanted"
abbrev nSize : Str := Str.ofString "size"
abbrev nFar : Str := Str.ofString "far"
abbrev nAb : Str := Str.ofString "above"
structure KeepN (m m' : Str → Option Value) : Prop where
  o : m' nOp = m nOp
  x : m' nX = m nX
  y : m' nY = m nY
  d : m' nDue = m nDue
def P1 (m : Str → Option Value) (core : Led) (h₀ : Heap) (L : Addr) (s s' : Shared) : Prop := ∃ (h' : Heap) (tk' : Nat) (m' : Str → Option Value) (n b e : Int) (B : Addr) (tb ub tn : Tok) (cb : Nat),
  s' = { s with heap := h', toks := tk' } ∧ Fr h₀ L h' m' ∧ News h₀ L h' ((B, pwO b e tb ub cb) :: core) ∧ KeepN m m' ∧ BaseOk b e ∧ (-5100 ≤ n ∧ n ≤ 5100) ∧ m' nBase = some (.ref B) ∧ m' nTimes = some (.int n tn)
theorem p1_end {m : Str → Option Value} {core : Led} {h₀ : Heap} {L : Addr} {s : Shared} {h' : Heap} {tk' : Nat} {m' : Str → Option Value} {n b e : Int} {B : Addr} {tb ub tn : Tok} {cb : Nat} {news : Led}
    (F : Fr h₀ L h' m') (N : News h₀ L h' news) (mb : m' nBase = some (.ref B)) (mt : m' nTimes = some (.int n tn)) (hm : (B, pwO b e tb ub cb) ∈ news) (hc : ∀ p ∈ core, p ∈ news) (k1 : m' nOp = m nOp) (k2 : m' nX = m nX) (k3 : m' nY = m nY) (k4 : m' nDue = m nDue)
    (hb : BaseOk b e) (hn : -5100 ≤ n ∧ n ≤ 5100) : NextP (P1 m core h₀ L s) .next { s with heap := h', toks := tk' } :=
  ⟨rfl, h', tk', m', n, b, e, B, tb, ub, tn, cb, rfl, F, fun p hp => N p ((List.mem_cons.mp hp).elim (fun q => q ▸ hm) (hc p)), ⟨k1, k2, k3, k4⟩, hb, hn, mb, mt⟩
section
variable {prog : Program} {w : World} {A : Around} {E : Value → Shared → Prop} {s : Shared} {h₀ : Heap} {L : Addr} {Q : Value → Shared → Prop}
theorem pick_base {T a0 a1 a2 a3 a4 a5 : Addr} {news : Led} {t0 t1 t2 t3 t4 t5 u0 u1 u2 u3 u4 u5 u : Tok} {c c0 c1 c2 c3 c4 c5 : Nat} {r : Int} {value slice : PySem.Expr} (N : News h₀ L s.heap news)
    (hm : (T, listOf #[.ref a0, .ref a1, .ref a2, .ref a3, .ref a4, .ref a5] c) ∈ news) (m0 : (a0, pwO 1 0 t0 u0 c0) ∈ news) (m1 : (a1, pwO 3 0 t1 u1 c1) ∈ news) (m2 : (a2, pwO (-1) 1 t2 u2 c2) ∈ news) (m3 : (a3, pwO 1 2 t3 u3 c3) ∈ news)
    (m4 : (a4, pwO 1 (-1) t4 u4 c4) ∈ news) (m5 : (a5, pwO 1 (-2) t5 u5 c5) ∈ news) (h0 : 0 ≤ r) (h6 : r < 6)
    (h : ∀ (B : Addr) (b e : Int) (t u : Tok) (c : Nat), BaseOk b e → (@Eq Nat B a0 ∨ @Eq Nat B a1 ∨ @Eq Nat B a2 ∨ @Eq Nat B a3 ∨ @Eq Nat B a4 ∨ @Eq Nat B a5) → News h₀ L s.heap ((B, pwO b e t u c) :: news) → Q (.ref B) s)
    (hs : subscripted slice false (.ref T) (.int r u) = operate [.ref T, .int r u] (getItem (.ref T) (.int r u)) := by with_unfolding_all rfl) :
    wpAny (model prog w) A (subscriptTail value slice (.ref T) (.int r u)) Q E s := by
  have hl : s.heap.IsList T [Value.ref a0, Value.ref a1, Value.ref a2, Value.ref a3, Value.ref a4, Value.ref a5].toArray := N.isList hm
  have nn : ∀ {x : Addr × Obj}, x ∈ news → News h₀ L s.heap (x :: news) := fun hx p hp => N p ((List.mem_cons.mp hp).elim (fun q => q ▸ hx) id)
  have hr : r = 0 ∨ r = 1 ∨ r = 2 ∨ r = 3 ∨ r = 4 ∨ r = 5 := by omega
  rcases hr with rfl | rfl | rfl | rfl | rfl | rfl
  · exact item_lis hl (by omega) (by omega) rfl (h a0 1 0 _ _ _ (by unfold BaseOk; omega) (by simp) (nn m0)) hs
  · exact item_lis hl (by omega) (by omega) rfl (h a1 3 0 _ _ _ (by unfold BaseOk; omega) (by simp) (nn m1)) hs
  · exact item_lis hl (by omega) (by omega) rfl (h a2 (-1) 1 _ _ _ (by unfold BaseOk; omega) (by simp) (nn m2)) hs
  · exact item_lis hl (by omega) (by omega) rfl (h a3 1 2 _ _ _ (by unfold BaseOk; omega) (by simp) (nn m3)) hs
  · exact item_lis hl (by omega) (by omega) rfl (h a4 1 (-1) _ _ _ (by unfold BaseOk; omega) (by simp) (nn m4)) hs
  · exact item_lis hl (by omega) (by omega) rfl (h a5 1 (-2) _ _ _ (by unfold BaseOk; omega) (by simp) (nn m5)) hs
end
def liftOk (b e n : Int) : Prop := absI n ≤ 4096 ∧ absI (pwA (prA b e) (prB e) n) ≤ T5 ∧ pwB (prA b e) (prB e) n ≤ T5
def isOne (b e n : Int) : Prop := (prA b e = 1 ∧ prB e = 1) ∨ n = 0
def Lift (b e n : Int) (v : Value) (core : Led) : Prop :=
  (isOne b e n ∧ v = .ref 71) ∨ (¬ isOne b e n ∧ liftOk b e n ∧ ∃ (D : Addr) (t u : Tok) (c : Nat), v = .ref D ∧ (D, tupO (pwA (prA b e) (prB e) n) (pwB (prA b e) (prB e) n) t u c) ∈ core) ∨ (¬ isOne b e n ∧ ¬ liftOk b e n ∧ ∃ t : Tok, v = .str refused t)
def P2 (m : Str → Option Value) (core : Led) (b e n : Int) (B : Addr) (tb ub tn : Tok) (cb : Nat) (h₀ : Heap) (L : Addr) (s s' : Shared) : Prop := ∃ (h' : Heap) (tk' : Nat) (m' : Str → Option Value) (v : Value) (core' : Led),
  s' = { s with heap := h', toks := tk' } ∧ Fr h₀ L h' m' ∧ News h₀ L h' ((B, pwO b e tb ub cb) :: core') ∧ (∀ p ∈ core, p ∈ core') ∧ KeepN m m' ∧ Lift b e n v core' ∧ m' nBase = some (.ref B) ∧ m' nTimes = some (.int n tn) ∧ m' nLift = some v
theorem p2_end {m : Str → Option Value} {core : Led} {h₀ : Heap} {L : Addr} {s : Shared} {h' : Heap} {tk' : Nat} {m' : Str → Option Value} {n b e : Int} {B : Addr} {tb ub tn : Tok} {cb : Nat} {news : Led} {v : Value}
    (F : Fr h₀ L h' m') (N : News h₀ L h' news) (mb : m' nBase = some (.ref B)) (mt : m' nTimes = some (.int n tn)) (ml : m' nLift = some v) (hm : (B, pwO b e tb ub cb) ∈ news) (hc : ∀ p ∈ core, p ∈ news) (k1 : m' nOp = m nOp) (k2 : m' nX = m nX) (k3 : m' nY = m nY) (k4 : m' nDue = m nDue)
    (hl : Lift b e n v news) : NextP (P2 m core b e n B tb ub tn cb h₀ L s) .next { s with heap := h', toks := tk' } :=
  ⟨rfl, h', tk', m', v, news, rfl, F, (fun p hp => N p ((List.mem_cons.mp hp).elim (fun q => q ▸ hm) id)), hc, ⟨k1, k2, k3, k4⟩, hl, mb, mt, ml⟩
theorem lift_a {b e n : Int} {core : Led} (h : isOne b e n) : Lift b e n (.ref 71) core := .inl ⟨h, rfl⟩
theorem lift_b {b e n : Int} {core : Led} {D : Addr} {t u : Tok} {c : Nat} (h : ¬ isOne b e n) (k : liftOk b e n) (hm : (D, tupO (pwA (prA b e) (prB e) n) (pwB (prA b e) (prB e) n) t u c) ∈ core) : Lift b e n (.ref D) core := .inr (.inl ⟨h, k, D, t, u, c, rfl, hm⟩)
theorem lift_c {b e n : Int} {core : Led} {t : Tok} (h : ¬ isOne b e n) (k : ¬ liftOk b e n) : Lift b e n (.str refused t) core := .inr (.inr ⟨h, k, t, rfl⟩)
def PB (m : Str → Option Value) (core : Led) (h₀ : Heap) (L : Addr) (s s' : Shared) : Prop := ∃ (h' : Heap) (tk' : Nat) (m' : Str → Option Value), s' = { s with heap := h', toks := tk' } ∧ Fr h₀ L h' m' ∧ News h₀ L h' core ∧ KeepN m m'
def WA (b e n : Int) : Int := if 0 ≤ n then abv b (absI n) * 10 ^ (mx0 (e * absI n)).toNat else sig (abv b (absI n)) * 10 ^ (mx0 (0 - e * absI n)).toNat
def WB (b e n : Int) : Int := if 0 ≤ n then 10 ^ (mx0 (0 - e * absI n)).toNat else absI (abv b (absI n)) * 10 ^ (mx0 (e * absI n)).toNat
def Far (b e n : Int) : Prop := 4096 < absI n ∧ ¬ (b = 1 ∧ e = 0)
def wOk (b e n : Int) : Prop := ¬ Far b e n ∧ absI (WA b e n) ≤ T5 ∧ WB b e n ≤ T5
theorem absI_nn (n : Int) : 0 ≤ absI n := by unfold absI; split <;> omega
theorem absI_pos {n : Int} (h : 0 ≤ n) : absI n = n := by unfold absI; rw [if_neg (by omega)]
theorem absI_neg {n : Int} (h : n < 0) : absI n = 0 - n := by unfold absI; rw [if_pos h]; omega
theorem pw_is {b e n : Int} (hb : FigOk b) : pwA (prA b e) (prB e) n = WA b e n ∧ pwB (prA b e) (prB e) n = WB b e n := by
  unfold WA WB
  by_cases hn : 0 ≤ n
  · rw [if_pos hn, if_pos hn, absI_pos hn]
    exact pw_pos hn
  · rw [if_neg hn, if_neg hn, absI_neg (by omega)]
    exact pw_neg hb (by omega)
theorem one_w {b e n : Int} (h : BaseOk b e) (ho : isOne b e n) : WA b e n = 1 ∧ WB b e n = 1 ∧ wOk b e n := by
  have h1 : (b = 1 ∧ e = 0) ∨ n = 0 := ho.elim (fun k => .inl ((one_is h).mp k)) .inr
  obtain ⟨e1, e2⟩ := one_vals h1
  have m0 : (mx0 0).toNat = 0 := by decide
  have z0 : (0 : Int) - 0 = 0 := by omega
  have a : WA b e n = 1 := by
    unfold WA
    rw [e1, e2, z0, m0]
    split <;> decide
  have c : WB b e n = 1 := by
    unfold WB
    rw [e1, e2, z0, m0]
    split <;> decide
  refine ⟨a, c, ?_, ?_, ?_⟩
  · rintro ⟨f1, f2⟩
    rcases h1 with h1 | rfl
    · exact f2 h1
    · have : absI 0 = 0 := by decide
      omega
  · have := t5_big
    rw [a]
    have : absI 1 = 1 := by decide
    omega
  · have := t5_big
    omega
theorem lift_w {b e n : Int} (h : BaseOk b e) (ho : ¬ isOne b e n) : liftOk b e n ↔ wOk b e n := by
  obtain ⟨e1, e2⟩ := pw_is (e := e) (n := n) (base_fig h)
  have h1 : ¬ (b = 1 ∧ e = 0) := fun k => ho (.inl ((one_is h).mpr k))
  unfold liftOk wOk Far
  rw [e1, e2]
  constructor
  · rintro ⟨k1, k2⟩
    exact ⟨fun f => by omega, k2⟩
  · rintro ⟨k1, k2⟩
    exact ⟨Int.not_lt.mp fun f => k1 ⟨f, h1⟩, k2⟩
def P3 (m : Str → Option Value) (core : Led) (b e n : Int) (B : Addr) (tb ub tn : Tok) (cb : Nat) (v : Value) (h₀ : Heap) (L : Addr) (s s' : Shared) : Prop := ∃ (h' : Heap) (tk' : Nat) (m' : Str → Option Value) (t1 t2 t3 : Tok),
  s' = { s with heap := h', toks := tk' } ∧ Fr h₀ L h' m' ∧ News h₀ L h' ((B, pwO b e tb ub cb) :: core) ∧ KeepN m m' ∧ m' nBase = some (.ref B) ∧ m' nTimes = some (.int n tn) ∧ m' nLift = some v ∧
  m' nSize = some (.int (absI n) t1) ∧ m' nAb = some (.int (abv b (absI n)) t2) ∧ m' nFar = some (.int (e * absI n) t3)
theorem p3_end {m : Str → Option Value} {core : Led} {h₀ : Heap} {L : Addr} {s : Shared} {h' : Heap} {tk' : Nat} {m' : Str → Option Value} {n b e sz ab fr : Int} {B : Addr} {tb ub tn t1 t2 t3 : Tok} {cb : Nat} {v : Value}
    (F : Fr h₀ L h' m') (N : News h₀ L h' ((B, pwO b e tb ub cb) :: core)) (mb : m' nBase = some (.ref B)) (mt : m' nTimes = some (.int n tn)) (ml : m' nLift = some v) (k1 : m' nOp = m nOp) (k2 : m' nX = m nX) (k3 : m' nY = m nY) (k4 : m' nDue = m nDue)
    (m1 : m' nSize = some (.int sz t1)) (m2 : m' nAb = some (.int ab t2)) (m3 : m' nFar = some (.int fr t3)) (e1 : sz = absI n) (e2 : ab = abv b (absI n)) (e3 : fr = e * absI n) :
    NextP (P3 m core b e n B tb ub tn cb v h₀ L s) .next { s with heap := h', toks := tk' } := by
  subst e1
  subst e2
  subst e3
  exact ⟨rfl, h', tk', m', t1, t2, t3, rfl, F, N, ⟨k1, k2, k3, k4⟩, mb, mt, ml, m1, m2, m3⟩
theorem abv_neg {b s : Int} (h1 : b < 0) (h2 : s.fmod 2 = 1) : 0 - (if b < 0 then -b else b) ^ s.toNat = abv b s := (if_pos ⟨h1, h2⟩).symm
theorem abv_pos1 {b s : Int} (h1 : ¬ b < 0) : (if b < 0 then -b else b) ^ s.toNat = abv b s := (if_neg fun h => h1 h.1).symm
theorem abv_pos2 {b s : Int} (h1 : ¬ s.fmod 2 = 1) : (if b < 0 then -b else b) ^ s.toNat = abv b s := (if_neg fun h => h1 h.2).symm
theorem tiny_abs {b e : Int} (h : BaseOk b e) : Tiny (if b < 0 then -b else b) := by
  unfold BaseOk at h
  rcases h with ⟨rfl, rfl⟩ | ⟨rfl, rfl⟩ | ⟨rfl, rfl⟩ | ⟨rfl, rfl⟩ | ⟨rfl, rfl⟩ | ⟨rfl, rfl⟩ <;> decide
theorem bits_abv {b e s : Int} (h : BaseOk b e) (h0 : 0 ≤ s) (h1 : s ≤ 5100) : Builtin.Int.intBits (abv b s) ≤ 20005 := by
  rw [abv_is h0]
  have hb : Builtin.Int.intBits b ≤ 2 := by
    unfold BaseOk at h
    rcases h with ⟨rfl, rfl⟩ | ⟨rfl, rfl⟩ | ⟨rfl, rfl⟩ | ⟨rfl, rfl⟩ | ⟨rfl, rfl⟩ | ⟨rfl, rfl⟩ <;> decide
  have := PySem.intBits_pow_le hb s.toNat
  omega
theorem far_bd {b e n : Int} (h : BaseOk b e) (hn : -5100 ≤ n ∧ n ≤ 5100) : -10200 ≤ e * absI n ∧ e * absI n ≤ 10200 := by
  have h1 : absI n ≤ 5100 := by unfold absI; split <;> omega
  have h0 := absI_nn n
  unfold BaseOk at h
  rcases h with ⟨rfl, rfl⟩ | ⟨rfl, rfl⟩ | ⟨rfl, rfl⟩ | ⟨rfl, rfl⟩ | ⟨rfl, rfl⟩ | ⟨rfl, rfl⟩ <;> omega
def Want (b e n : Int) (v : Value) (core : Led) : Prop :=
  (wOk b e n ∧ ∃ (D : Addr) (t u : Tok) (c : Nat), v = .ref D ∧ (D, tupO (WA b e n) (WB b e n) t u c) ∈ core) ∨ (¬ wOk b e n ∧ ∃ t : Tok, v = .str refused t)
def P4 (m : Str → Option Value) (core : Led) (b e n : Int) (v : Value) (h₀ : Heap) (L : Addr) (s s' : Shared) : Prop := ∃ (h' : Heap) (tk' : Nat) (m' : Str → Option Value) (v' : Value) (core' : Led),
  s' = { s with heap := h', toks := tk' } ∧ Fr h₀ L h' m' ∧ News h₀ L h' core' ∧ (∀ p ∈ core, p ∈ core') ∧ KeepN m m' ∧ Want b e n v' core' ∧ m' nLift = some v ∧ m' nWant = some v'
theorem p4_end {m : Str → Option Value} {core : Led} {h₀ : Heap} {L : Addr} {s : Shared} {h' : Heap} {tk' : Nat} {m' : Str → Option Value} {n b e : Int} {news : Led} {v v' : Value}
    (F : Fr h₀ L h' m') (N : News h₀ L h' news) (ml : m' nLift = some v) (mw : m' nWant = some v') (hc : ∀ p ∈ core, p ∈ news) (k1 : m' nOp = m nOp) (k2 : m' nX = m nX) (k3 : m' nY = m nY) (k4 : m' nDue = m nDue)
    (hw : Want b e n v' news) : NextP (P4 m core b e n v h₀ L s) .next { s with heap := h', toks := tk' } :=
  ⟨rfl, h', tk', m', v', news, rfl, F, N, hc, ⟨k1, k2, k3, k4⟩, hw, ml, mw⟩
theorem want_far {b e n : Int} {core : Led} {t : Tok} (h : Far b e n) : Want b e n (.str refused t) core := .inr ⟨fun k => k.1 h, t, rfl⟩
theorem want_ok {b e n p q : Int} {core : Led} {D : Addr} {t u : Tok} {c : Nat} (h : ¬ Far b e n) (e1 : p = WA b e n) (e2 : q = WB b e n) (k : absI p ≤ T5 ∧ q ≤ T5) (hm : (D, tupO p q t u c) ∈ core) : Want b e n (.ref D) core := by
  subst e1
  subst e2
  exact .inl ⟨⟨h, k⟩, D, t, u, c, rfl, hm⟩
theorem want_no {b e n p q : Int} {core : Led} {t : Tok} (e1 : p = WA b e n) (e2 : q = WB b e n) (k : ¬ (absI p ≤ T5 ∧ q ≤ T5)) : Want b e n (.str refused t) core := by
  subst e1
  subst e2
  exact .inr ⟨fun h => k h.2, t, rfl⟩
theorem WA_pos {b e n ab fr : Int} (h : 0 ≤ n) (e1 : ab = abv b (absI n)) (e2 : fr = e * absI n) : ab * 10 ^ (if 0 > fr then 0 else fr).toNat = WA b e n := by subst e1; subst e2; exact (if_pos h).symm
theorem WB_pos {b e n fr : Int} (h : 0 ≤ n) (e2 : fr = e * absI n) : 10 ^ (if 0 > 0 - fr then 0 else 0 - fr).toNat = WB b e n := by subst e2; exact (if_pos h).symm
theorem WA_neg1 {b e n ab fr : Int} (h : ¬ 0 ≤ n) (e1 : ab = abv b (absI n)) (e2 : fr = e * absI n) (ha : ab < 0) : -1 * 10 ^ (if 0 > 0 - fr then 0 else 0 - fr).toNat = WA b e n := by
  subst e1; subst e2
  unfold WA sig
  rw [if_neg h, if_pos ha]
  rfl
theorem WA_neg2 {b e n ab fr : Int} (h : ¬ 0 ≤ n) (e1 : ab = abv b (absI n)) (e2 : fr = e * absI n) (ha : ¬ ab < 0) : 1 * 10 ^ (if 0 > 0 - fr then 0 else 0 - fr).toNat = WA b e n := by
  subst e1; subst e2
  unfold WA sig
  rw [if_neg h, if_neg ha]
  rfl
theorem WB_neg {b e n ab fr : Int} (h : ¬ 0 ≤ n) (e1 : ab = abv b (absI n)) (e2 : fr = e * absI n) : (if ab < 0 then -ab else ab) * 10 ^ (if 0 > fr then 0 else fr).toNat = WB b e n := by subst e1; subst e2; exact (if_neg h).symm
theorem same_v {b e n : Int} {v v' : Value} {core core' : Led} (hb : BaseOk b e) (hl : Lift b e n v core) (hw : Want b e n v' core') (hc : ∀ p ∈ core, p ∈ core') :
    (v = .ref 71 ∧ ∃ (D : Addr) (t u : Tok) (c : Nat), v' = .ref D ∧ (D, tupO 1 1 t u c) ∈ core') ∨
    (∃ (p q : Int) (D D' : Addr) (t u t' u' : Tok) (c c' : Nat), v = .ref D ∧ v' = .ref D' ∧ (D, tupO p q t u c) ∈ core' ∧ (D', tupO p q t' u' c') ∈ core') ∨ (∃ t t' : Tok, v = .str refused t ∧ v' = .str refused t') := by
  rcases hl with ⟨ho, rfl⟩ | ⟨ho, hk, D, t, u, c, rfl, hm⟩ | ⟨ho, hk, t, rfl⟩
  · obtain ⟨e1, e2, ok⟩ := one_w hb ho
    rcases hw with ⟨_, D, t, u, c, rfl, hm⟩ | ⟨no, _⟩
    · rw [e1, e2] at hm
      exact .inl ⟨rfl, D, t, u, c, rfl, hm⟩
    · exact absurd ok no
  · have ok := (lift_w hb ho).mp hk
    obtain ⟨e1, e2⟩ := pw_is (e := e) (n := n) (base_fig hb)
    rw [e1, e2] at hm
    rcases hw with ⟨_, D', t', u', c', rfl, hm'⟩ | ⟨no, _⟩
    · exact .inr (.inl ⟨_, _, D, D', t, u, t', u', c, c', rfl, rfl, hc _ hm, hm'⟩)
    · exact absurd ok no
  · have no := fun k => hk ((lift_w hb ho).mpr k)
    rcases hw with ⟨ok, _⟩ | ⟨_, t', rfl⟩
    · exact absurd ok no
    · exact .inr (.inr ⟨t, t', rfl, rfl⟩)
theorem lis_ne {b e c d : Int} (h : ¬ (b = c ∧ e = d)) : ¬ [b, e] = [c, d] := fun k => by
  injection k with k1 k2
  injection k2 with k2
  exact h ⟨k1, k2⟩
theorem lis_eq {b e c d : Int} (h : b = c ∧ e = d) : [b, e] = [c, d] := by rw [h.1, h.2]
theorem pb_end {m : Str → Option Value} {core news : Led} {h₀ : Heap} {L : Addr} {s : Shared} {h' : Heap} {tk' : Nat} {m' : Str → Option Value}
    (F : Fr h₀ L h' m') (N : News h₀ L h' news) (hc : ∀ p ∈ core, p ∈ news) (k1 : m' nOp = m nOp) (k2 : m' nX = m nX) (k3 : m' nY = m nY) (k4 : m' nDue = m nDue) : NextP (PB m core h₀ L s) .next { s with heap := h', toks := tk' } :=
  ⟨rfl, h', tk', m', rfl, F, fun p hp => N p (hc p hp), ⟨k1, k2, k3, k4⟩⟩
def PC (op : Str) (ts : Tok) (X Y : Addr) (v : Value) (core : Led) (h₀ : Heap) (L : Addr) (s s' : Shared) : Prop := ∃ (h' : Heap) (tk' : Nat) (m' : Str → Option Value), s' = { s with heap := h', toks := tk' } ∧ Fr h₀ L h' m' ∧ News h₀ L h' core ∧
  m' nOp = some (.str op ts) ∧ m' nX = some (.ref X) ∧ m' nY = some (.ref Y) ∧ m' nDue = some v
theorem pc_end {op : Str} {ts : Tok} {X Y : Addr} {v : Value} {core news : Led} {h₀ : Heap} {L : Addr} {s : Shared} {h' : Heap} {tk' : Nat} {m' : Str → Option Value}
    (F : Fr h₀ L h' m') (N : News h₀ L h' news) (hc : ∀ p ∈ core, p ∈ news) (k1 : m' nOp = some (.str op ts)) (k2 : m' nX = some (.ref X)) (k3 : m' nY = some (.ref Y)) (k4 : m' nDue = some v) : NextP (PC op ts X Y v core h₀ L s) .next { s with heap := h', toks := tk' } :=
  ⟨rfl, h', tk', m', rfl, F, fun p hp => N p (hc p hp), k1, k2, k3, k4⟩
abbrev ent (P : Params) (n : Str) (k : Tok) (v : Value) : DictEntry := ⟨PyData.keyHash P n, .str n k, v⟩
abbrev vecO (P : Params) (l : Addr) (kt k1 k2 k3 k4 k5 : Tok) : Obj := dictOf [ent P (Str.ofString "kind") k1 (.str (Str.ofString "double") kt), ent P (Str.ofString "items") k2 (.ref l), ent P (Str.ofString "attrs") k3 .none, ent P (Str.ofString "shared") k4 (.bool false), ent P (Str.ofString "loose") k5 (.bool false)] 5
abbrev GetatOK (Kf : Frag) (pg : Program) (w : World) (mean : ExcName → Option Value) (mg mb : Str → Option Value) : Prop :=
  ∀ (news : Led) (V d l : Addr) (kt k1 k2 k3 k4 k5 : Tok) (nm : Str) (tn : Tok), (V, instObj 236 d) ∈ news → (d, vecO w.params l kt k1 k2 k3 k4 k5) ∈ news → Cal Kf pg w mean mg mb 4 24 28 [.ref V, .str nm tn] news (RNone news)
theorem use_getat {Kf : Frag} {pg : Program} {w : World} {mean : ExcName → Option Value} {mg mb : Str → Option Value} {news : Led} {V d l : Addr} {kt k1 k2 k3 k4 k5 : Tok} {nm : Str} {tn : Tok}
    {dp un : Nat} {gd : Option (List Code)} {cn : Str} {cs : Scope} {a : Addr} {ccd : Value} {cl : List (Str × Addr)} {outer : List Env} {A₀ : Around} {base h₀ : Heap} {L : Addr} {m : Str → Option Value} {s : Shared} {Q E : Value → Shared → Prop}
    (kB : Below A₀ base outer h₀) (kF : Fr h₀ L s.heap m) (kX : Kf.In h₀) (kN : News h₀ L s.heap news) (kT : Top pg (Lo pg) mean mg mb h₀) (kC : GetatOK Kf pg w mean mg mb) (hk : cs.kind = .function) (hm0 : (V, instObj 236 d) ∈ news) (hm1 : (d, vecO w.params l kt k1 k2 k3 k4 k5) ∈ news)
    (hd : dp + 4 < recursionLimit) (hu : un + 24 < cLine) (kr : (RNone news : Fin') h₀ L m s Q E base (envX cn cs L a ccd cl :: outer)) :
    wpAny (model PySem.Challenge.pw_ov0068_01 w) (ktrTop dp un gd cn cs L a ccd cl outer) (call (.ref 28) [.ref V, .str nm tn]) Q E s :=
  kC news V d l kt k1 k2 k3 k4 k5 nm tn hm0 hm1 _ _ _ _ _ _ _ _ _ _ _ _ _ _ _ _ _ kB kF kX kN kT hk hd hu kr
abbrev DimofOK (Kf : Frag) (pg : Program) (w : World) (mean : ExcName → Option Value) (mg mb : Str → Option Value) : Prop :=
  ∀ (news : Led) (V d l : Addr) (kt k1 k2 k3 k4 k5 : Tok), (V, instObj 236 d) ∈ news → (d, vecO w.params l kt k1 k2 k3 k4 k5) ∈ news → Cal Kf pg w mean mg mb 6 40 35 [.ref V] news (RNone news)
theorem use_dimof {Kf : Frag} {pg : Program} {w : World} {mean : ExcName → Option Value} {mg mb : Str → Option Value} {news : Led} {V d l : Addr} {kt k1 k2 k3 k4 k5 : Tok}
    {dp un : Nat} {gd : Option (List Code)} {cn : Str} {cs : Scope} {a : Addr} {ccd : Value} {cl : List (Str × Addr)} {outer : List Env} {A₀ : Around} {base h₀ : Heap} {L : Addr} {m : Str → Option Value} {s : Shared} {Q E : Value → Shared → Prop}
    (kB : Below A₀ base outer h₀) (kF : Fr h₀ L s.heap m) (kX : Kf.In h₀) (kN : News h₀ L s.heap news) (kT : Top pg (Lo pg) mean mg mb h₀) (kC : DimofOK Kf pg w mean mg mb) (hk : cs.kind = .function) (hm0 : (V, instObj 236 d) ∈ news) (hm1 : (d, vecO w.params l kt k1 k2 k3 k4 k5) ∈ news)
    (hd : dp + 6 < recursionLimit) (hu : un + 40 < cLine) (kr : (RNone news : Fin') h₀ L m s Q E base (envX cn cs L a ccd cl :: outer)) :
    wpAny (model PySem.Challenge.pw_ov0068_01 w) (ktrTop dp un gd cn cs L a ccd cl outer) (call (.ref 35) [.ref V]) Q E s :=
  kC news V d l kt k1 k2 k3 k4 k5 hm0 hm1 _ _ _ _ _ _ _ _ _ _ _ _ _ _ _ _ _ kB kF kX kN kT hk hd hu kr
abbrev AttribOK (Kf : Frag) (pg : Program) (w : World) (mean : ExcName → Option Value) (mg mb : Str → Option Value) : Prop :=
  ∀ (news : Led) (V d l : Addr) (kt k1 k2 k3 k4 k5 : Tok) (nm : Str) (tn : Tok), (V, instObj 236 d) ∈ news → (d, vecO w.params l kt k1 k2 k3 k4 k5) ∈ news → Cal Kf pg w mean mg mb 4 24 296 [.ref V, .str nm tn] news (RNone news)
theorem use_attrib {Kf : Frag} {pg : Program} {w : World} {mean : ExcName → Option Value} {mg mb : Str → Option Value} {news : Led} {V d l : Addr} {kt k1 k2 k3 k4 k5 : Tok} {nm : Str} {tn : Tok}
    {dp un : Nat} {gd : Option (List Code)} {cn : Str} {cs : Scope} {a : Addr} {ccd : Value} {cl : List (Str × Addr)} {outer : List Env} {A₀ : Around} {base h₀ : Heap} {L : Addr} {m : Str → Option Value} {s : Shared} {Q E : Value → Shared → Prop}
    (kB : Below A₀ base outer h₀) (kF : Fr h₀ L s.heap m) (kX : Kf.In h₀) (kN : News h₀ L s.heap news) (kT : Top pg (Lo pg) mean mg mb h₀) (kC : AttribOK Kf pg w mean mg mb) (hk : cs.kind = .function) (hm0 : (V, instObj 236 d) ∈ news) (hm1 : (d, vecO w.params l kt k1 k2 k3 k4 k5) ∈ news)
    (hd : dp + 4 < recursionLimit) (hu : un + 24 < cLine) (kr : (RNone news : Fin') h₀ L m s Q E base (envX cn cs L a ccd cl :: outer)) :
    wpAny (model PySem.Challenge.pw_ov0068_01 w) (ktrTop dp un gd cn cs L a ccd cl outer) (call (.ref 296) [.ref V, .str nm tn]) Q E s :=
  kC news V d l kt k1 k2 k3 k4 k5 nm tn hm0 hm1 _ _ _ _ _ _ _ _ _ _ _ _ _ _ _ _ _ kB kF kX kN kT hk hd hu kr
abbrev LengOK (Kf : Frag) (pg : Program) (w : World) (mean : ExcName → Option Value) (mg mb : Str → Option Value) : Prop :=
  ∀ (news : Led) (V d l : Addr) (kt k1 k2 k3 k4 k5 : Tok) (p q : Addr) (n : Nat), (V, instObj 236 d) ∈ news → (d, vecO w.params l kt k1 k2 k3 k4 k5) ∈ news → (l, lisO [.ref p, .ref q] n) ∈ news → Cal Kf pg w mean mg mb 6 40 247 [.ref V] news (RInt news 2)
theorem use_leng {Kf : Frag} {pg : Program} {w : World} {mean : ExcName → Option Value} {mg mb : Str → Option Value} {news : Led} {V d l : Addr} {kt k1 k2 k3 k4 k5 : Tok} {p q : Addr} {n : Nat}
    {dp un : Nat} {gd : Option (List Code)} {cn : Str} {cs : Scope} {a : Addr} {ccd : Value} {cl : List (Str × Addr)} {outer : List Env} {A₀ : Around} {base h₀ : Heap} {L : Addr} {m : Str → Option Value} {s : Shared} {Q E : Value → Shared → Prop}
    (kB : Below A₀ base outer h₀) (kF : Fr h₀ L s.heap m) (kX : Kf.In h₀) (kN : News h₀ L s.heap news) (kT : Top pg (Lo pg) mean mg mb h₀) (kC : LengOK Kf pg w mean mg mb) (hk : cs.kind = .function) (hm0 : (V, instObj 236 d) ∈ news) (hm1 : (d, vecO w.params l kt k1 k2 k3 k4 k5) ∈ news) (hm2 : (l, lisO [.ref p, .ref q] n) ∈ news)
    (hd : dp + 6 < recursionLimit) (hu : un + 40 < cLine) (kr : (RInt news 2 : Fin') h₀ L m s Q E base (envX cn cs L a ccd cl :: outer)) :
    wpAny (model PySem.Challenge.pw_ov0068_01 w) (ktrTop dp un gd cn cs L a ccd cl outer) (call (.ref 247) [.ref V]) Q E s :=
  kC news V d l kt k1 k2 k3 k4 k5 p q n hm0 hm1 hm2 _ _ _ _ _ _ _ _ _ _ _ _ _ _ _ _ _ kB kF kX kN kT hk hd hu kr
abbrev NitemsOK (Kf : Frag) (pg : Program) (w : World) (mean : ExcName → Option Value) (mg mb : Str → Option Value) : Prop :=
  ∀ (news : Led) (V d l : Addr) (kt k1 k2 k3 k4 k5 : Tok), (V, instObj 236 d) ∈ news → (d, vecO w.params l kt k1 k2 k3 k4 k5) ∈ news → Cal Kf pg w mean mg mb 6 40 338 [.ref V] news (RRef news l)
theorem use_nitems {Kf : Frag} {pg : Program} {w : World} {mean : ExcName → Option Value} {mg mb : Str → Option Value} {news : Led} {V d l : Addr} {kt k1 k2 k3 k4 k5 : Tok}
    {dp un : Nat} {gd : Option (List Code)} {cn : Str} {cs : Scope} {a : Addr} {ccd : Value} {cl : List (Str × Addr)} {outer : List Env} {A₀ : Around} {base h₀ : Heap} {L : Addr} {m : Str → Option Value} {s : Shared} {Q E : Value → Shared → Prop}
    (kB : Below A₀ base outer h₀) (kF : Fr h₀ L s.heap m) (kX : Kf.In h₀) (kN : News h₀ L s.heap news) (kT : Top pg (Lo pg) mean mg mb h₀) (kC : NitemsOK Kf pg w mean mg mb) (hk : cs.kind = .function) (hm0 : (V, instObj 236 d) ∈ news) (hm1 : (d, vecO w.params l kt k1 k2 k3 k4 k5) ∈ news)
    (hd : dp + 6 < recursionLimit) (hu : un + 40 < cLine) (kr : (RRef news l : Fin') h₀ L m s Q E base (envX cn cs L a ccd cl :: outer)) :
    wpAny (model PySem.Challenge.pw_ov0068_01 w) (ktrTop dp un gd cn cs L a ccd cl outer) (call (.ref 338) [.ref V]) Q E s :=
  kC news V d l kt k1 k2 k3 k4 k5 hm0 hm1 _ _ _ _ _ _ _ _ _ _ _ _ _ _ _ _ _ kB kF kX kN kT hk hd hu kr
abbrev DitemsOK (Kf : Frag) (pg : Program) (w : World) (mean : ExcName → Option Value) (mg mb : Str → Option Value) : Prop :=
  ∀ (news : Led) (V d l : Addr) (kt k1 k2 k3 k4 k5 : Tok), (V, instObj 236 d) ∈ news → (d, vecO w.params l kt k1 k2 k3 k4 k5) ∈ news → Cal Kf pg w mean mg mb 8 56 343 [.ref V] news (RRef news l)
theorem use_ditems {Kf : Frag} {pg : Program} {w : World} {mean : ExcName → Option Value} {mg mb : Str → Option Value} {news : Led} {V d l : Addr} {kt k1 k2 k3 k4 k5 : Tok}
    {dp un : Nat} {gd : Option (List Code)} {cn : Str} {cs : Scope} {a : Addr} {ccd : Value} {cl : List (Str × Addr)} {outer : List Env} {A₀ : Around} {base h₀ : Heap} {L : Addr} {m : Str → Option Value} {s : Shared} {Q E : Value → Shared → Prop}
    (kB : Below A₀ base outer h₀) (kF : Fr h₀ L s.heap m) (kX : Kf.In h₀) (kN : News h₀ L s.heap news) (kT : Top pg (Lo pg) mean mg mb h₀) (kC : DitemsOK Kf pg w mean mg mb) (hk : cs.kind = .function) (hm0 : (V, instObj 236 d) ∈ news) (hm1 : (d, vecO w.params l kt k1 k2 k3 k4 k5) ∈ news)
    (hd : dp + 8 < recursionLimit) (hu : un + 56 < cLine) (kr : (RRef news l : Fin') h₀ L m s Q E base (envX cn cs L a ccd cl :: outer)) :
    wpAny (model PySem.Challenge.pw_ov0068_01 w) (ktrTop dp un gd cn cs L a ccd cl outer) (call (.ref 343) [.ref V]) Q E s :=
  kC news V d l kt k1 k2 k3 k4 k5 hm0 hm1 _ _ _ _ _ _ _ _ _ _ _ _ _ _ _ _ _ kB kF kX kN kT hk hd hu kr
abbrev RdimOK (Kf : Frag) (pg : Program) (w : World) (mean : ExcName → Option Value) (mg mb : Str → Option Value) : Prop :=
  ∀ (news : Led) (V d l : Addr) (kt k1 k2 k3 k4 k5 : Tok) (p q : Addr) (n : Nat) (V' d' l' : Addr) (kt' k1' k2' k3' k4' k5' : Tok) (p' q' : Addr) (n' : Nat), (V, instObj 236 d) ∈ news → (d, vecO w.params l kt k1 k2 k3 k4 k5) ∈ news → (l, lisO [.ref p, .ref q] n) ∈ news → (V', instObj 236 d') ∈ news → (d', vecO w.params l' kt' k1' k2' k3' k4' k5') ∈ news → (l', lisO [.ref p', .ref q'] n') ∈ news → Cal Kf pg w mean mg mb 10 64 275 [.ref V, .ref V'] news (RNone news)
theorem use_rdim {Kf : Frag} {pg : Program} {w : World} {mean : ExcName → Option Value} {mg mb : Str → Option Value} {news : Led} {V d l : Addr} {kt k1 k2 k3 k4 k5 : Tok} {p q : Addr} {n : Nat} {V' d' l' : Addr} {kt' k1' k2' k3' k4' k5' : Tok} {p' q' : Addr} {n' : Nat}
    {dp un : Nat} {gd : Option (List Code)} {cn : Str} {cs : Scope} {a : Addr} {ccd : Value} {cl : List (Str × Addr)} {outer : List Env} {A₀ : Around} {base h₀ : Heap} {L : Addr} {m : Str → Option Value} {s : Shared} {Q E : Value → Shared → Prop}
    (kB : Below A₀ base outer h₀) (kF : Fr h₀ L s.heap m) (kX : Kf.In h₀) (kN : News h₀ L s.heap news) (kT : Top pg (Lo pg) mean mg mb h₀) (kC : RdimOK Kf pg w mean mg mb) (hk : cs.kind = .function) (hm0 : (V, instObj 236 d) ∈ news) (hm1 : (d, vecO w.params l kt k1 k2 k3 k4 k5) ∈ news) (hm2 : (l, lisO [.ref p, .ref q] n) ∈ news) (hm3 : (V', instObj 236 d') ∈ news) (hm4 : (d', vecO w.params l' kt' k1' k2' k3' k4' k5') ∈ news) (hm5 : (l', lisO [.ref p', .ref q'] n') ∈ news)
    (hd : dp + 10 < recursionLimit) (hu : un + 64 < cLine) (kr : (RNone news : Fin') h₀ L m s Q E base (envX cn cs L a ccd cl :: outer)) :
    wpAny (model PySem.Challenge.pw_ov0068_01 w) (ktrTop dp un gd cn cs L a ccd cl outer) (call (.ref 275) [.ref V, .ref V']) Q E s :=
  kC news V d l kt k1 k2 k3 k4 k5 p q n V' d' l' kt' k1' k2' k3' k4' k5' p' q' n' hm0 hm1 hm2 hm3 hm4 hm5 _ _ _ _ _ _ _ _ _ _ _ _ _ _ _ _ _ kB kF kX kN kT hk hd hu kr
abbrev NarrOK (Kf : Frag) (pg : Program) (w : World) (mean : ExcName → Option Value) (mg mb : Str → Option Value) : Prop :=
  ∀ (news : Led) (V d l : Addr) (kt k1 k2 k3 k4 k5 : Tok) (p q : Addr) (n : Nat) (V' d' l' : Addr) (kt' k1' k2' k3' k4' k5' : Tok) (p' q' : Addr) (n' : Nat) (nt : Addr), (V, instObj 236 d) ∈ news → (d, vecO w.params l kt k1 k2 k3 k4 k5) ∈ news → (l, lisO [.ref p, .ref q] n) ∈ news → (V', instObj 236 d') ∈ news → (d', vecO w.params l' kt' k1' k2' k3' k4' k5') ∈ news → (l', lisO [.ref p', .ref q'] n') ∈ news → Cal Kf pg w mean mg mb 10 64 282 [.ref V, .ref V', .ref nt] news (RNone news)
theorem use_narr {Kf : Frag} {pg : Program} {w : World} {mean : ExcName → Option Value} {mg mb : Str → Option Value} {news : Led} {V d l : Addr} {kt k1 k2 k3 k4 k5 : Tok} {p q : Addr} {n : Nat} {V' d' l' : Addr} {kt' k1' k2' k3' k4' k5' : Tok} {p' q' : Addr} {n' : Nat} {nt : Addr}
    {dp un : Nat} {gd : Option (List Code)} {cn : Str} {cs : Scope} {a : Addr} {ccd : Value} {cl : List (Str × Addr)} {outer : List Env} {A₀ : Around} {base h₀ : Heap} {L : Addr} {m : Str → Option Value} {s : Shared} {Q E : Value → Shared → Prop}
    (kB : Below A₀ base outer h₀) (kF : Fr h₀ L s.heap m) (kX : Kf.In h₀) (kN : News h₀ L s.heap news) (kT : Top pg (Lo pg) mean mg mb h₀) (kC : NarrOK Kf pg w mean mg mb) (hk : cs.kind = .function) (hm0 : (V, instObj 236 d) ∈ news) (hm1 : (d, vecO w.params l kt k1 k2 k3 k4 k5) ∈ news) (hm2 : (l, lisO [.ref p, .ref q] n) ∈ news) (hm3 : (V', instObj 236 d') ∈ news) (hm4 : (d', vecO w.params l' kt' k1' k2' k3' k4' k5') ∈ news) (hm5 : (l', lisO [.ref p', .ref q'] n') ∈ news)
    (hd : dp + 10 < recursionLimit) (hu : un + 64 < cLine) (kr : (RNone news : Fin') h₀ L m s Q E base (envX cn cs L a ccd cl :: outer)) :
    wpAny (model PySem.Challenge.pw_ov0068_01 w) (ktrTop dp un gd cn cs L a ccd cl outer) (call (.ref 282) [.ref V, .ref V', .ref nt]) Q E s :=
  kC news V d l kt k1 k2 k3 k4 k5 p q n V' d' l' kt' k1' k2' k3' k4' k5' p' q' n' nt hm0 hm1 hm2 hm3 hm4 hm5 _ _ _ _ _ _ _ _ _ _ _ _ _ _ _ _ _ kB kF kX kN kT hk hd hu kr
abbrev NrecOK (Kf : Frag) (pg : Program) (w : World) (mean : ExcName → Option Value) (mg mb : Str → Option Value) : Prop :=
  ∀ (news : Led) (t u : Tok) (nt : Addr), Cal Kf pg w mean mg mb 10 64 261 [.int 2 t, .int 2 u, .ref nt] news (RNone news)
theorem use_nrec {Kf : Frag} {pg : Program} {w : World} {mean : ExcName → Option Value} {mg mb : Str → Option Value} {news : Led} {t u : Tok} {nt : Addr}
    {dp un : Nat} {gd : Option (List Code)} {cn : Str} {cs : Scope} {a : Addr} {ccd : Value} {cl : List (Str × Addr)} {outer : List Env} {A₀ : Around} {base h₀ : Heap} {L : Addr} {m : Str → Option Value} {s : Shared} {Q E : Value → Shared → Prop}
    (kB : Below A₀ base outer h₀) (kF : Fr h₀ L s.heap m) (kX : Kf.In h₀) (kN : News h₀ L s.heap news) (kT : Top pg (Lo pg) mean mg mb h₀) (kC : NrecOK Kf pg w mean mg mb) (hk : cs.kind = .function)
    (hd : dp + 10 < recursionLimit) (hu : un + 64 < cLine) (kr : (RNone news : Fin') h₀ L m s Q E base (envX cn cs L a ccd cl :: outer)) :
    wpAny (model PySem.Challenge.pw_ov0068_01 w) (ktrTop dp un gd cn cs L a ccd cl outer) (call (.ref 261) [.int 2 t, .int 2 u, .ref nt]) Q E s :=
  kC news t u nt _ _ _ _ _ _ _ _ _ _ _ _ _ _ _ _ _ kB kF kX kN kT hk hd hu kr
abbrev ReclenOK (Kf : Frag) (pg : Program) (w : World) (mean : ExcName → Option Value) (mg mb : Str → Option Value) : Prop :=
  ∀ (news : Led) (t u : Tok), Cal Kf pg w mean mg mb 10 64 254 [.int 2 t, .int 2 u] news (RInt news 2)
theorem use_reclen {Kf : Frag} {pg : Program} {w : World} {mean : ExcName → Option Value} {mg mb : Str → Option Value} {news : Led} {t u : Tok}
    {dp un : Nat} {gd : Option (List Code)} {cn : Str} {cs : Scope} {a : Addr} {ccd : Value} {cl : List (Str × Addr)} {outer : List Env} {A₀ : Around} {base h₀ : Heap} {L : Addr} {m : Str → Option Value} {s : Shared} {Q E : Value → Shared → Prop}
    (kB : Below A₀ base outer h₀) (kF : Fr h₀ L s.heap m) (kX : Kf.In h₀) (kN : News h₀ L s.heap news) (kT : Top pg (Lo pg) mean mg mb h₀) (kC : ReclenOK Kf pg w mean mg mb) (hk : cs.kind = .function)
    (hd : dp + 10 < recursionLimit) (hu : un + 64 < cLine) (kr : (RInt news 2 : Fin') h₀ L m s Q E base (envX cn cs L a ccd cl :: outer)) :
    wpAny (model PySem.Challenge.pw_ov0068_01 w) (ktrTop dp un gd cn cs L a ccd cl outer) (call (.ref 254) [.int 2 t, .int 2 u]) Q E s :=
  kC news t u _ _ _ _ _ _ _ _ _ _ _ _ _ _ _ _ _ kB kF kX kN kT hk hd hu kr
abbrev ComlenOK (Kf : Frag) (pg : Program) (w : World) (mean : ExcName → Option Value) (mg mb : Str → Option Value) : Prop :=
  ∀ (news : Led) (V d l : Addr) (kt k1 k2 k3 k4 k5 : Tok) (p q : Addr) (n : Nat) (V' d' l' : Addr) (kt' k1' k2' k3' k4' k5' : Tok) (p' q' : Addr) (n' : Nat) (nt : Addr), (V, instObj 236 d) ∈ news → (d, vecO w.params l kt k1 k2 k3 k4 k5) ∈ news → (l, lisO [.ref p, .ref q] n) ∈ news → (V', instObj 236 d') ∈ news → (d', vecO w.params l' kt' k1' k2' k3' k4' k5') ∈ news → (l', lisO [.ref p', .ref q'] n') ∈ news → Cal Kf pg w mean mg mb 14 90 289 [.ref V, .ref V', .ref nt] news (RInt news 2)
theorem use_comlen {Kf : Frag} {pg : Program} {w : World} {mean : ExcName → Option Value} {mg mb : Str → Option Value} {news : Led} {V d l : Addr} {kt k1 k2 k3 k4 k5 : Tok} {p q : Addr} {n : Nat} {V' d' l' : Addr} {kt' k1' k2' k3' k4' k5' : Tok} {p' q' : Addr} {n' : Nat} {nt : Addr}
    {dp un : Nat} {gd : Option (List Code)} {cn : Str} {cs : Scope} {a : Addr} {ccd : Value} {cl : List (Str × Addr)} {outer : List Env} {A₀ : Around} {base h₀ : Heap} {L : Addr} {m : Str → Option Value} {s : Shared} {Q E : Value → Shared → Prop}
    (kB : Below A₀ base outer h₀) (kF : Fr h₀ L s.heap m) (kX : Kf.In h₀) (kN : News h₀ L s.heap news) (kT : Top pg (Lo pg) mean mg mb h₀) (kC : ComlenOK Kf pg w mean mg mb) (hk : cs.kind = .function) (hm0 : (V, instObj 236 d) ∈ news) (hm1 : (d, vecO w.params l kt k1 k2 k3 k4 k5) ∈ news) (hm2 : (l, lisO [.ref p, .ref q] n) ∈ news) (hm3 : (V', instObj 236 d') ∈ news) (hm4 : (d', vecO w.params l' kt' k1' k2' k3' k4' k5') ∈ news) (hm5 : (l', lisO [.ref p', .ref q'] n') ∈ news)
    (hd : dp + 14 < recursionLimit) (hu : un + 90 < cLine) (kr : (RInt news 2 : Fin') h₀ L m s Q E base (envX cn cs L a ccd cl :: outer)) :
    wpAny (model PySem.Challenge.pw_ov0068_01 w) (ktrTop dp un gd cn cs L a ccd cl outer) (call (.ref 289) [.ref V, .ref V', .ref nt]) Q E s :=
  kC news V d l kt k1 k2 k3 k4 k5 p q n V' d' l' kt' k1' k2' k3' k4' k5' p' q' n' nt hm0 hm1 hm2 hm3 hm4 hm5 _ _ _ _ _ _ _ _ _ _ _ _ _ _ _ _ _ kB kF kX kN kT hk hd hu kr
abbrev tupR (v1 v2 : Value) (c : Nat) : Obj := { cls := .type "tuple", data := .seq #[v1, v2] c }
theorem unr_end {h₀ : Heap} {L : Addr} {s₁ : Shared} {p : Addr × Obj} {news' keep : Led} {rest : (Str → Option Value) → List (Addr × Obj) → Prop} {h' : Heap} {tk : Nat} {m' : Str → Option Value}
    (F : Fr h₀ L h' m') (N : News h₀ L h' (p :: news')) (off : ∀ q ∈ news', q.1 < p.1) (hk : SubL keep news') (r : rest m' news') : UnrEndW h₀ L s₁ [p] (fun m' n' => SubL keep n' ∧ rest m' n') { s₁ with heap := h', toks := tk } :=
  ⟨h', tk, m', news', rfl, F, N, fun q hq x hx => by rw [List.mem_singleton.mp hx]; exact Nat.ne_of_lt (off q hq), hk, r⟩
abbrev ShapeOK (Kf : Frag) (pg : Program) (w : World) (mean : ExcName → Option Value) (mg mb : Str → Option Value) : Prop :=
  ∀ (news : Led) (V d l : Addr) (kt k1 k2 k3 k4 k5 : Tok) (p q : Addr) (n : Nat) (V' d' l' : Addr) (kt' k1' k2' k3' k4' k5' : Tok) (p' q' : Addr) (n' : Nat) (R : Addr), (V, instObj 236 d) ∈ news → (d, vecO w.params l kt k1 k2 k3 k4 k5) ∈ news → (l, lisO [.ref p, .ref q] n) ∈ news → (V', instObj 236 d') ∈ news → (d', vecO w.params l' kt' k1' k2' k3' k4' k5') ∈ news → (l', lisO [.ref p', .ref q'] n') ∈ news → Cal Kf pg w mean mg mb 14 90 303 [.ref V, .ref V', .ref R] news (RNone news)
theorem use_shape {Kf : Frag} {pg : Program} {w : World} {mean : ExcName → Option Value} {mg mb : Str → Option Value} {news : Led} {V d l : Addr} {kt k1 k2 k3 k4 k5 : Tok} {p q : Addr} {n : Nat} {V' d' l' : Addr} {kt' k1' k2' k3' k4' k5' : Tok} {p' q' : Addr} {n' : Nat} {R : Addr}
    {dp un : Nat} {gd : Option (List Code)} {cn : Str} {cs : Scope} {a : Addr} {ccd : Value} {cl : List (Str × Addr)} {outer : List Env} {A₀ : Around} {base h₀ : Heap} {L : Addr} {m : Str → Option Value} {s : Shared} {Q E : Value → Shared → Prop}
    (kB : Below A₀ base outer h₀) (kF : Fr h₀ L s.heap m) (kX : Kf.In h₀) (kN : News h₀ L s.heap news) (kT : Top pg (Lo pg) mean mg mb h₀) (kC : ShapeOK Kf pg w mean mg mb) (hk : cs.kind = .function) (hm0 : (V, instObj 236 d) ∈ news) (hm1 : (d, vecO w.params l kt k1 k2 k3 k4 k5) ∈ news) (hm2 : (l, lisO [.ref p, .ref q] n) ∈ news) (hm3 : (V', instObj 236 d') ∈ news) (hm4 : (d', vecO w.params l' kt' k1' k2' k3' k4' k5') ∈ news) (hm5 : (l', lisO [.ref p', .ref q'] n') ∈ news)
    (hd : dp + 14 < recursionLimit) (hu : un + 90 < cLine) (kr : (RNone news : Fin') h₀ L m s Q E base (envX cn cs L a ccd cl :: outer)) :
    wpAny (model PySem.Challenge.pw_ov0068_01 w) (ktrTop dp un gd cn cs L a ccd cl outer) (call (.ref 303) [.ref V, .ref V', .ref R]) Q E s :=
  kC news V d l kt k1 k2 k3 k4 k5 p q n V' d' l' kt' k1' k2' k3' k4' k5' p' q' n' R hm0 hm1 hm2 hm3 hm4 hm5 _ _ _ _ _ _ _ _ _ _ _ _ _ _ _ _ _ kB kF kX kN kT hk hd hu kr
abbrev RattrOK (Kf : Frag) (pg : Program) (w : World) (mean : ExcName → Option Value) (mg mb : Str → Option Value) : Prop :=
  ∀ (news : Led) (V d l : Addr) (kt k1 k2 k3 k4 k5 : Tok) (p q : Addr) (n : Nat) (V' d' l' : Addr) (kt' k1' k2' k3' k4' k5' : Tok) (p' q' : Addr) (n' : Nat) (R : Addr), (V, instObj 236 d) ∈ news → (d, vecO w.params l kt k1 k2 k3 k4 k5) ∈ news → (l, lisO [.ref p, .ref q] n) ∈ news → (V', instObj 236 d') ∈ news → (d', vecO w.params l' kt' k1' k2' k3' k4' k5') ∈ news → (l', lisO [.ref p', .ref q'] n') ∈ news → Cal Kf pg w mean mg mb 18 120 310 [.ref V, .ref V', .ref R] news (RNone news)
theorem use_rattr {Kf : Frag} {pg : Program} {w : World} {mean : ExcName → Option Value} {mg mb : Str → Option Value} {news : Led} {V d l : Addr} {kt k1 k2 k3 k4 k5 : Tok} {p q : Addr} {n : Nat} {V' d' l' : Addr} {kt' k1' k2' k3' k4' k5' : Tok} {p' q' : Addr} {n' : Nat} {R : Addr}
    {dp un : Nat} {gd : Option (List Code)} {cn : Str} {cs : Scope} {a : Addr} {ccd : Value} {cl : List (Str × Addr)} {outer : List Env} {A₀ : Around} {base h₀ : Heap} {L : Addr} {m : Str → Option Value} {s : Shared} {Q E : Value → Shared → Prop}
    (kB : Below A₀ base outer h₀) (kF : Fr h₀ L s.heap m) (kX : Kf.In h₀) (kN : News h₀ L s.heap news) (kT : Top pg (Lo pg) mean mg mb h₀) (kC : RattrOK Kf pg w mean mg mb) (hk : cs.kind = .function) (hm0 : (V, instObj 236 d) ∈ news) (hm1 : (d, vecO w.params l kt k1 k2 k3 k4 k5) ∈ news) (hm2 : (l, lisO [.ref p, .ref q] n) ∈ news) (hm3 : (V', instObj 236 d') ∈ news) (hm4 : (d', vecO w.params l' kt' k1' k2' k3' k4' k5') ∈ news) (hm5 : (l', lisO [.ref p', .ref q'] n') ∈ news)
    (hd : dp + 18 < recursionLimit) (hu : un + 120 < cLine) (kr : (RNone news : Fin') h₀ L m s Q E base (envX cn cs L a ccd cl :: outer)) :
    wpAny (model PySem.Challenge.pw_ov0068_01 w) (ktrTop dp un gd cn cs L a ccd cl outer) (call (.ref 310) [.ref V, .ref V', .ref R]) Q E s :=
  kC news V d l kt k1 k2 k3 k4 k5 p q n V' d' l' kt' k1' k2' k3' k4' k5' p' q' n' R hm0 hm1 hm2 hm3 hm4 hm5 _ _ _ _ _ _ _ _ _ _ _ _ _ _ _ _ _ kB kF kX kN kT hk hd hu kr
section
variable {M : Model} {A : Around} {E : Value → Shared → Prop} {s : Shared} {base : Heap} {env : Env} {outer l : List Env} {L e d : Addr} {cls fl : Value} {Q : Unit → Shared → Prop}
theorem note_any (hfr : A.frames = some (env :: outer)) (hf : env.frame = some L) (hx : FlyD base (env :: outer) e d cls fl s.heap)
    (h : ∀ h' fl', FlyD base (env :: outer) e d cls fl' h' → s.heap.UpToSlots h' → Q () { s with heap := h' }) : wpAny M A (noteFrame (.ref e) env) Q E s := by
  have hx' := hx
  obtain ⟨kb, ken, kl, oe, vs, T, oT, ts, he, ⟨hc, hdc⟩, hd, h1, hnT, hTe, hT, hdT, h3⟩ := hx
  unfold noteFrame
  simp only [hf]
  refine wpAny_bind (wpAny_field he hd h1 ?_)
  rw [if_pos (show (Value.ref T != Value.none) = true from by simp)]
  refine wpAny_bind (wpAny_field hT hdT h3 ?_)
  by_cases hq : (fl == rawInt L) = true
  · rw [if_pos hq]
    exact wpAny_pure (h s.heap fl hx' (Heap.UpToSlots.refl _))
  · rw [if_neg hq]
    refine wpAny_bind (wpAny_setField hT hdT (Array.getElem?_eq_some_iff.mp h3).1 ?_)
    have away : ∀ b, b ≠ T → (s.heap.update T (Obj.mapFields (·.setIfInBounds 3 Value.none))).get? b = s.heap.get? b := fun b hb => Heap.get?_update_other _ _ (Ne.symm hb)
    have apart : ∀ b o, s.heap.get? b = some o → (∀ ws, o.data ≠ .fields ws) → b ≠ T := fun b o hb hn q => by
      rw [q, hT] at hb
      cases hb
      exact hn ts hdT
    refine entry_D hfr (kl.of_keeps fun b o hb hn => ⟨o, (away b (apart b o hb hn)).trans hb, rfl⟩) hf ((away e (Ne.symm hTe)).trans he) hc hdc
      (fun b o hb => (away b fun q => by rw [q, hnT] at hb; cases hb).trans (kb b o hb)) ken hd (Array.getElem?_eq_some_iff.mp h1).1 fun h' x1 x2 => h h' _ x1 fun b o hb hn => x2 b o ((away b (apart b o hb hn)).trans hb) hn
theorem pass_D (hx : FlyD base l e d cls fl s.heap) {α : Type} {R : α → Shared → Prop} {what : String} {env : Env}
    (h : ∀ h' fl', FlyD base l e d cls fl' h' → s.heap.UpToSlots h' → E (.ref e) { s with heap := h' }) : wpAny M A (PySem.passOn what (.ref e) env : Sem α) R E s := by
  obtain ⟨kb, ken, kl, oe, vs, T, oT, ts, he, hc, hd, h1, hnT, hTe, hT, hdT, h3⟩ := hx
  have hz := (Array.getElem?_eq_some_iff.mp h3).1
  unfold PySem.passOn
  refine wpAny_bind (wpAny_field he hd h1 ?_)
  rw [if_neg (show ¬ ((Value.ref T == Value.none) = true) from by simp)]
  refine wpAny_bind ?_
  unfold setFlight
  refine wpAny_bind (wpAny_field he hd h1 ?_)
  rw [if_pos (show (Value.ref T != Value.none) = true from by simp)]
  generalize (env.frame.elim Value.none fun f => rawInt f) = fl'
  have away : ∀ b, b ≠ T → (s.heap.update T (Obj.mapFields (·.setIfInBounds 3 fl'))).get? b = s.heap.get? b := fun b hb => Heap.get?_update_other _ _ (Ne.symm hb)
  have apart : ∀ b o, s.heap.get? b = some o → (∀ ws, o.data ≠ .fields ws) → b ≠ T := fun b o hb hn q => by
    rw [q, hT] at hb
    cases hb
    exact hn ts hdT
  refine wpAny_setField hT hdT hz (wpAny_throw (h _ fl' ⟨fun b o hb => (away b fun q => by rw [q, hnT] at hb; cases hb).trans (kb b o hb), ken, kl.of_keeps fun b o hb hn => ⟨o, (away b (apart b o hb hn)).trans hb, rfl⟩, ?_⟩
    fun b o hb hn => ⟨o.slots, (away b (apart b o hb hn)).trans hb⟩))
  exact ⟨oe, vs, T, _, _, (away e (Ne.symm hTe)).trans he, hc, hd, h1, hnT, hTe, Heap.get?_update_self _ hT (Obj.isFreed_of_fields (Obj.data_mapFields hdT _)), Obj.data_mapFields hdT _, by simp [hz]⟩
end
theorem ff_same {B h h' : Heap} {C : Addr} (hs : Heap.SameBut C h h') : ∀ {l : List Env}, h.FunFrames B l → (∀ env ∈ l, env.frame ≠ some C) → h'.FunFrames B l
  | [], _, _ => trivial
  | env :: _, ⟨hk, ⟨L, o, hf, hn, ho, hd⟩, hr⟩, hin => ⟨hk, ⟨L, o, hf, hn, (hs.2 L fun q => hin env (.head _) (by rw [hf, q])).trans ho, hd⟩, ff_same hs hr fun e he => hin e (.tail _ he)⟩
theorem fly_same {B h h' : Heap} {l : List Env} {e d C : Addr} {cls fl : Value} {oC : Obj} (x : FlyD B l e d cls fl h) (hB : B.get? C = none) (hC : h.get? C = some oC) (hd : ∀ vs, oC.data ≠ .fields vs) (hl : ∀ env ∈ l, env.frame ≠ some C) (hs : Heap.SameBut C h h') : FlyD B l e d cls fl h' := by
  obtain ⟨kb, ken, kl, oe, vs, T, oT, ts, he, hc, hde, h1, hnT, hTe, hT, hdT, h3⟩ := x
  have ne : ∀ a o ws, h.get? a = some o → o.data = .fields ws → a ≠ C := fun a o ws ha hw q => by
    rw [q, hC] at ha
    cases ha
    exact hd _ hw
  exact ⟨fun b o hb => (hs.2 b fun q => by rw [q, hB] at hb; cases hb).trans (kb b o hb), ken, ff_same hs kl hl, oe, vs, T, oT, ts, (hs.2 e (ne e oe vs he hde)).trans he, hc, hde, h1, hnT, hTe, (hs.2 T (ne T oT ts hT hdT)).trans hT, hdT, h3⟩
def RaiP (base g : Heap) (env : Env) (outer : List Env) (e d : Addr) (cls : Value) (news : Led) (h : Heap) : Prop :=
  ∃ B fl, base.StaysIn B ∧ (∀ b o, g.get? b = some o → b ∉ outer.filterMap (·.frame) → B.get? b = some o) ∧ (∀ q ∈ news, B.get? q.1 = some q.2 ∧ g.get? q.1 = none ∧ base.get? q.1 = none) ∧ FlyD B (env :: outer) e d cls fl h ∧ g.UpToSlots h
section
variable {M : Model} {A : Around} {E : Value → Shared → Prop} {s : Shared} {base g G : Heap} {outer : List Env} {L a e d C : Addr} {m mc : Str → Option Value} {name : Str} {scope sc : Scope} {cd cls acc : Value} {Q : Unit → Shared → Prop} {Q' : Value → Shared → Prop} {news news' : Led} {oC : Obj} {cl cs : List (Str × Addr)}
theorem leave_pass (K : Below A base outer g) (P : RaiP base g (envX name scope L a cd cs) outer e d cls news s.heap)
    (hQ : ∀ h', RaiD base g outer e d cls news h' → g.UpToSlots h' → Q () { s with heap := h' }) :
    wpAny M (A.deeper (envX name scope L a cd cs)) (leaving (envX name scope L a cd cs) (.ref e)) Q E s := by
  obtain ⟨B, fl, hB, hG, hl, hfl, hu⟩ := P
  unfold leaving
  exact wpAny_bind (note_any (Around.frames_deeper K.stack) rfl hfl fun h1 f1 x1 x2 => land_D x1 fun h2 y1 y2 => hQ h2 ⟨B, hB, hG, hl, y1.off⟩ (hu.trans (x2.trans y2)))
theorem comp_raise (K : Below A base outer g) (F : Fr g L G m) (R : RaiD base G (envX name scope L a cd cs :: outer) e d cls news s.heap) (hsm : G.UpToSlots s.heap) (hC : (C, oC) ∈ news) (hn : LCg.NsObj oC mc) (hCg : g.get? C = none) (hCL : C ≠ L)
    (sub : ∀ q ∈ news', q ∈ news ∧ q.1 ≠ C) (hE : ∀ h', RaiP base g (envX name scope L a cd cs) outer e d cls news' h' → E (.ref e) { s with heap := h' }) :
    notedBy M (A.deeper (envX name scope L a cd cs)) (compEnvC sc cl C (envX name scope L a cd cs)) (fun x s' => compPost M (A.deeper (envX name scope L a cd cs)) E none Q' acc C (.error x) s') (.ref e) s := by
  obtain ⟨B, hB, hG, hl, hfl⟩ := R
  have hCd : ∀ vs, oC.data ≠ .fields vs := by
    obtain ⟨es, ep, hd, _⟩ := hn
    intro vs q
    rw [hd] at q
    cases q
  have hCf : ∀ env ∈ (envX name scope L a cd cs :: outer), env.frame ≠ some C := fun env he q => by
    rcases List.mem_cons.mp he with rfl | he
    · exact hCL (Option.some.inj q).symm
    · obtain ⟨o, ho, _⟩ := (K.frames.mem (List.mem_filterMap.mpr ⟨env, he, q⟩)).2
      rw [hCg] at ho
      cases ho
  have hBC : B.get? C = some oC := (hl _ hC).1
  have hbC : base.get? C = none := (hl _ hC).2.2
  have hid : Heap.StaysIn (hideAll B [C]) B := fun b o q => of_hideAll _ q
  show wpAny M _ (noteFrame (.ref e) (envX name scope L a cd cs)) _ _ s
  refine note_next (Around.frames_deeper K.stack) rfl hfl fun h1 x1 x2 => ?_
  have hC1 : h1.get? C = some oC := x1.1 _ _ hBC
  refine ⟨mc, hn.ns hC1, fun h2 hs cenv _ => ?_⟩
  have y1 := fly_same (fly_base hid x1) (hideAll_none _ (.head _)) hC1 hCd hCf hs
  have u1 : g.UpToSlots h2 := fun b o ho hnf => by
    obtain ⟨sl, hb⟩ := x2 b _ (hsm b o (F.keep b o ho) hnf).choose_spec hnf
    refine ⟨sl, (hs.2 b fun q => ?_).trans hb⟩
    rw [q, hCg] at ho
    cases ho
  refine pass_D y1 fun h3 fl' z1 z2 => hE h3 ⟨hideAll B [C], fl', fun b o hb => hideAll_get _ (hB b o hb) fun hm => ?_, fun b o ho hm => hideAll_get _ (hG b o (F.keep b o ho) fun hm' => ?_) fun hm' => ?_, fun q hq => ⟨hideAll_get _ (hl q (sub q hq).1).1 fun hm => ?_, kts_none F.keep (hl q (sub q hq).1).2.1, (hl q (sub q hq).1).2.2⟩, z1, u1.trans z2⟩
  · rw [List.mem_singleton.mp hm, hbC] at hb
    cases hb
  · obtain ⟨env, he, hf⟩ := List.mem_filterMap.mp hm'
    rcases List.mem_cons.mp he with rfl | he
    · rw [← Option.some.inj hf] at ho
      rw [show g.get? L = none from kts_self F] at ho; cases ho
    · exact hm (List.mem_filterMap.mpr ⟨env, he, hf⟩)
  · rw [List.mem_singleton.mp hm', hCg] at ho
    cases ho
  · exact (sub q hq).2 (List.mem_singleton.mp hm)
end
def CEnd (h₀ : Heap) (L : Addr) (m : Str → Option Value) (s₁ : Shared) (pI pC pD : Addr × Obj) (rest : Value → Led → Prop) (y : Value) (s₂ : Shared) : Prop :=
  ∃ h' tk news', s₂ = { s₁ with heap := h', toks := tk } ∧ Fr h₀ L h' m ∧ News h₀ L h' (pI :: pC :: pD :: news') ∧ LCg.Off3 pI.1 pC.1 pD.1 news' ∧ rest y news'
theorem c_end {h₀ : Heap} {L : Addr} {m : Str → Option Value} {s₁ : Shared} {pI pC pD : Addr × Obj} {rest : Value → Led → Prop} {y : Value} {h' : Heap} {tk : Nat} {all news' : Led}
    (F : Fr h₀ L h' m) (N : News h₀ L h' all) (sub : ∀ p ∈ pI :: pC :: pD :: news', p ∈ all) (off : LCg.Off3 pI.1 pC.1 pD.1 news') (r : rest y news') : CEnd h₀ L m s₁ pI pC pD rest y { s₁ with heap := h', toks := tk } :=
  ⟨h', tk, news', rfl, F, fun p hp => N p (sub p hp), off, r⟩
/-- the turns that are left; a turn may raise -/
def CRest (prog : Program) (w : World) (A : Around) (E : Value → Shared → Prop) (h₀ : Heap) (L : Addr) (m : Str → Option Value) (env : Env) (elt : PySem.Expr) (x : Str) (scope : Scope) (cl : List (Str × Addr)) (s : Shared) (Q : Value → Shared → Prop) : Nat → Nat → List Value → Led → Prop
  | 0, _, ys, news => LCg.FinE h₀ L m s Q ys news
  | k + 1, i, ys, news => ∀ t I oI C oC D m₂ h tk, LCg.NsObj oC m₂ → m₂ x = some (.int (i : Int) t) → Fr h₀ L h m → News h₀ L h ((I, oI) :: (C, oC) :: (D, LCg.lst ys) :: news) → LCg.Off3 I C D news → ((@Ne Nat I C) ∧ (@Ne Nat I D) ∧ (@Ne Nat C D)) →
      wpAny (model prog w) A (eval elt (compEnvC scope cl C env)) (CEnd h₀ L m { s with heap := h, toks := tk } (I, oI) (C, oC) (D, LCg.lst ys) (fun y news' => CRest prog w A E h₀ L m env elt x scope cl s Q k (i + 1) (ys ++ [y]) news'))
        (notedBy (model prog w) A (compEnvC scope cl C env) fun e s' => compPost (model prog w) A E none Q (.ref D) C (.error e) s') { s with heap := h, toks := tk }
section
variable {prog : Program} {w : World} {A : Around} {E : Value → Shared → Prop} {s : Shared} {h₀ : Heap} {L : Addr} {m : Str → Option Value} {env : Env} {elt iter : PySem.Expr} {x : Str} {px pos : Pos} {scope : Scope} {cl : List (Str × Addr)} {Q : Value → Shared → Prop} {news : Led}
theorem comp_block {I : Addr} {n : Nat} (hh : A.handled = none) (hsz : n ≤ sizeLine) (hcell : ∀ y ∈ scope.names, y.2 ≠ .cell) (hkind : scope.kind = .function) (hx : scope.names.lookup x = some .local)
    (hst : IsRangeIter s.heap I 0 n 1) (hIlt : I < s.heap.objs.size) (F : Fr h₀ L s.heap m) (N : News h₀ L s.heap news) (hIL : L ≠ I) (hI₀ : h₀.get? I = none) (off : ∀ p ∈ news, p.1 ≠ I)
    (R : CRest prog w A E h₀ L m env elt x scope cl s Q n 0 [] news) :
    wpAny (model prog w) A (newList []) (fun acc s₃ => wpAny (model prog w) A (newFunctionEnv scope env.globals cl [] env.qual none .none (some env)) (fun cenv s₄ =>
      codeAny (model prog w) A (.compStart (.ListComp elt [⟨.Name x px, iter, [], 0⟩] scope pos) 0 (.ref I) acc { cenv with scope := relabel scope env }) (compPost (model prog w) A E none Q acc cenv.locals) s₄) E s₃) E s := by
  refine wpAny_newObj_type (wpAny_newFunctionEnv hcell (by intro y hy; simp at hy) (fun h1 hns hsb => ?_) hkind)
  dsimp only at hns hsb ⊢
  have W := LCg.range_walks (prog := prog) (w := w) (I := I) hh 0 n
  generalize hD : s.heap.objs.size = D at hns hsb hIlt ⊢
  generalize hH : s.heap.push { cls := .type "list", dict := none, data := .seq ([] : List Value).toArray } = H at hns hsb ⊢
  have hHs : H.objs.size = D + 1 := by rw [← hH, Heap.size_push, hD]
  generalize hC : H.objs.size = C at hns hsb hHs ⊢
  have hDC : (D : Nat) ≠ C := by rw [hHs]; exact Nat.ne_of_lt (Nat.lt_succ_self _)
  have lo : ∀ b, b < D → b ≠ C ∧ b ≠ D := fun b hb => ⟨by rw [hHs]; exact Nat.ne_of_lt (Nat.lt_succ_of_lt hb), Nat.ne_of_lt hb⟩
  have low : ∀ b o, s.heap.get? b = some o → b < D := fun b o e => hD ▸ Heap.lt_size e
  have old : ∀ b o, s.heap.get? b = some o → h1.get? b = some o := fun b o e => hsb.extBut b o (lo b (low b o e)).1 (Heap.get?_push_of_some _ (hH ▸ Heap.get?_push_of_some _ e))
  have hacc : h1.get? D = some (LCg.lst []) := hsb.extBut _ _ hDC (Heap.get?_push_of_some _ (by rw [← hH, ← hD]; exact Heap.get?_push_size _ rfl))
  have new₀ : ∀ b, (∀ o, s.heap.get? b ≠ some o) → h₀.get? b = none := fun b hb => by
    cases e : h₀.get? b with
    | none => rfl
    | some o => exact absurd (F.keep b o e) (hb o)
  have hD₀ : h₀.get? D = none := new₀ D fun o e => Nat.lt_irrefl _ (low D o e)
  have hC₀ : h₀.get? C = none := new₀ C fun o e => by have := low C o e; rw [hHs] at this; exact absurd this (Nat.not_lt.mpr (Nat.le_succ _))
  have hLD : L < D := hD ▸ F.ns.lt
  have off0 : LCg.Off3 I C D news := LCg.Off3.of fun p hp => ⟨off p hp, lo _ (low _ _ (N p hp).1)⟩
  have hI : I ≠ C ∧ I ≠ D := lo I hIlt
  have hCL : C ≠ L := Ne.symm (lo L hLD).1
  have hDL : D ≠ L := Ne.symm (lo L hLD).2
  have hit : ∀ (i : Nat) (h h' : Heap), IsRangeIter h I (0 + (i : Nat) * 1) ((n : Int) - (i : Nat)) 1 → (∀ o, h.get? I = some o → h'.get? I = some o) → IsRangeIter h' I (0 + (i : Nat) * 1) ((n : Int) - (i : Nat)) 1 := fun i h h' st k => k _ st
  have loop : ∀ s₃ : Shared, s₃ = { s with heap := h1, toks := s.toks + ([] : List (Str × Value)).length } →
      codeAny (model prog w) A (.compLoop (.ListComp elt [⟨.Name x px, iter, [], 0⟩] scope pos) 0 (.ref I) (.ref D) (compEnvC scope cl C env)) (compPost (model prog w) A E none Q (.ref D) C) s₃ := by
    rintro s₃ rfl
    refine codeAny_compLoop_tests
      (fun k s' => ∃ h' tk i ys m' news', s' = { s with heap := h', toks := tk } ∧ i ≤ n ∧ k = n + 1 - i ∧ ys.length = i ∧ IsRangeIter h' I (0 + (i : Nat) * 1) ((n : Int) - (i : Nat)) 1 ∧ Fr h₀ L h' m ∧ h'.Ns C m' ∧
        News h₀ L h' ((D, LCg.lst ys) :: news') ∧ LCg.Off3 I C D news' ∧ CRest prog w A E h₀ L m env elt x scope cl s Q (n - i) i ys news') ?_ (n + 1)
      ⟨h1, _, 0, [], _, news, rfl, Nat.zero_le _, rfl, rfl, (by simpa using old _ _ hst), F.keeps old, hns, (fun p hp => ?_), off0, R⟩
    · rintro k s' ⟨h', tk, i, ys, m', news', rfl, hi, rfl, hy, st, F', n', N', off', R'⟩
      have o3 := off'.mem
      by_cases hlt : i < n
      · obtain ⟨j, hj⟩ : ∃ j, n - i = j + 1 := ⟨n - i - 1, by omega⟩
        rw [hj] at R'
        refine W.item i _ _ _ hlt st fun v h2 tk2 hP st2 k2 => ?_
        obtain ⟨t, hv⟩ := hP
        rw [Int.zero_add] at hv
        refine wpAny_assign_Name (wpAny_storeName_local (lookup_relabel_local hx) (n'.at' fun o e => k2 _ o (by simpa using Ne.symm hI.1) e) (fun h3 n3 sb3 => ?_) (by simp [compEnvC, relabel, hkind]))
        refine wpAny_tests_nil ?_
        simp only [if_true]
        obtain ⟨oC, eC, nC⟩ := LCg.ns_obj n3
        have st3 := hit (i + 1) _ h3 st2 fun o e => sb3.extBut I o hI.1 e
        have F3 : Fr h₀ L h3 m := (LCg.fr_but F' k2 hIL hI₀).change sb3 hCL hC₀
        have N2 : News h₀ L h2 ((D, LCg.lst ys) :: news') := LCg.news_but N' k2 fun p hp => by
          rcases List.mem_cons.mp hp with rfl | hp
          · exact Ne.symm hI.2
          · exact (o3 p hp).1
        have N3 : News h₀ L h3 ((I, _) :: (C, oC) :: (D, LCg.lst ys) :: news') := fun p hp => by
          rcases List.mem_cons.mp hp with rfl | hp
          · exact ⟨st3, Ne.symm hIL, hI₀⟩
          · rcases List.mem_cons.mp hp with rfl | hp
            · exact ⟨eC, hCL, hC₀⟩
            · refine ⟨sb3.extBut _ _ ?_ (N2 p hp).1, (N2 p hp).2⟩
              rcases List.mem_cons.mp hp with rfl | hp
              · exact hDC
              · exact (o3 p hp).2.1
        refine wpAny_mono (R' t I _ C oC D _ h3 _ nC (by rw [hv]; simp) F3 N3 off' ⟨hI.1, hI.2, Ne.symm hDC⟩) (fun y s4 q4 => ?_) fun _ _ e => e
        obtain ⟨h4, tk4, news4, rfl, F4, N4, off4, R4⟩ := q4
        have zI := (N4 _ (.head _)).1
        have zC := (N4 _ (.tail _ (.head _))).1
        have zD := (N4 _ (.tail _ (.tail _ (.head _)))).1
        have N4' : News h₀ L h4 news4 := fun p hp => N4 p (.tail _ (.tail _ (.tail _ hp)))
        have o4 := off4.mem
        refine append_at (hsz := by show ys.toArray.size ≤ sizeLine; rw [List.size_toArray, hy]; exact Nat.le_trans hi hsz) zD fun h5 s5 d5 => ?_
        refine ⟨n + 1 - (i + 1), by omega, h5, tk4, i + 1, ys ++ [y], _, news4, rfl, hlt, rfl, by rw [List.length_append, List.length_singleton, hy], hit (i + 1) _ h5 zI fun o e => s5.extBut I o hI.2 e, F4.change s5 hDL hD₀,
          (nC.ns zC).sameBut s5 (Ne.symm hDC), fun p hp => ?_, off4, ?_⟩
        · rcases List.mem_cons.mp hp with rfl | hp
          · exact ⟨d5.trans (congrArg some (LCg.lst_snoc ys y)), hDL, hD₀⟩
          · exact ⟨s5.extBut _ _ (o4 p hp).2.2 (N4' p hp).1, (N4' p hp).2⟩
        · rw [show n - (i + 1) = j by omega]
          exact R4
      · obtain rfl : i = n := Nat.le_antisymm hi (Nat.not_lt.mp hlt)
        rw [Nat.sub_self] at R'
        refine W.done _ _ _ st fun h2 tk2 k2 => ?_
        have F2 := LCg.fr_but F' k2 hIL hI₀
        have N2 : News h₀ L h2 ((D, LCg.lst ys) :: news') := LCg.news_but N' k2 fun p hp => by
          rcases List.mem_cons.mp hp with rfl | hp
          · exact Ne.symm hI.2
          · exact (o3 p hp).1
        refine ⟨m', n'.at' fun o e => k2 _ o (by simpa using Ne.symm hI.1) e, fun h3 s3 => R' D h3 tk2 (F2.change s3 hCL hC₀) (fun p hp => ⟨s3.extBut _ _ ?_ (N2 p hp).1, (N2 p hp).2⟩) off'.one⟩
        rcases List.mem_cons.mp hp with rfl | hp
        · exact hDC
        · exact (o3 p hp).2.1
    · rcases List.mem_cons.mp hp with rfl | hp
      · exact ⟨hacc, hDL, hD₀⟩
      · exact ⟨old _ _ (N p hp).1, (N p hp).2⟩
  exact codeAny_compStart_list (loop _ rfl) (W.self 0 _ _ _ (by simpa using old _ _ hst) (loop _ rfl))
def CSrc (prog : Program) (w : World) (A : Around) (E : Value → Shared → Prop) (h₀ : Heap) (L : Addr) (m : Str → Option Value) (env : Env) (elt : PySem.Expr) (x : Str) (scope : Scope) (cl : List (Str × Addr)) (Q : Value → Shared → Prop) (xv : Value) (s₁ : Shared) : Prop :=
  ∃ (r : Addr) (t u v : Tok) (n : Nat) (news : Led), xv = .ref r ∧ A.handled = none ∧ Fr h₀ L s₁.heap m ∧ News h₀ L s₁.heap news ∧ IsRange s₁.heap r 0 (n : Int) 1 t u v ∧ Builtin.Range.small 0 n 1 = true ∧ Builtin.Range.rangeSize 0 n 1 = ((n : Nat) : Int) ∧ n ≤ sizeLine ∧
    ∀ g, CRest prog w A E h₀ L m env elt x scope cl { s₁ with heap := g } Q n 0 [] news
theorem comp_R (_F₀ : Fr h₀ L s.heap m) (hclos : closureFor scope env = pure cl) (hcell : ∀ y ∈ scope.names, y.2 ≠ .cell) (hkind : scope.kind = .function)
    (hnames : ∀ y ∈ scope.names, y.2 = .local → scope.names.lookup y.1 = some .local) (hx : scope.names.lookup x = some .local)
    (h : wpAny (model prog w) A (eval iter env) (CSrc prog w A E h₀ L m env elt x scope cl Q) E s) (hs : ∀ x, foldedSetIterable iter env x = pure x := by intro _; rfl) :
    wpAny (model prog w) A (eval (.ListComp elt [⟨.Name x px, iter, [], 0⟩] scope pos) env) Q E s := by
  rw [eval_ListComp]
  refine wpAny_comprehension_free (use := none) rfl hs hclos hkind hnames (wpAny_mono h (fun xv s₁ h₁ => ?_) fun _ _ e => e)
  obtain ⟨r, t, u, v, n, news, rfl, hh, F, N, hr, hsm, hn, hsz, R⟩ := h₁
  refine wpAny_pyIter_range hr hsm ?_
  have up : ∀ (b : Addr) (o : Obj) (z : Obj), s₁.heap.get? b = some o → (s₁.heap.push z).get? b = some o := fun b o z e => Heap.get?_push_of_some _ e
  refine comp_block hh hsz hcell hkind hx (by rw [hn]; exact Heap.get?_push_size _ rfl) ?_ (F.keeps fun b o e => up b o _ e) (N.grown fun b o e => up b o _ e) (Nat.ne_of_lt F.ns.lt) (next_is_new F) (fun p hp => Nat.ne_of_lt (Heap.lt_size (N p hp).1)) (R _)
  rw [Heap.size_push]
  exact Nat.lt_succ_self _
end
theorem c_end1 {h₀ : Heap} {L : Addr} {m : Str → Option Value} {s₁ : Shared} {p0 pI pC pD : Addr × Obj} {rest : Value → Led → Prop} {y : Value} {h' : Heap} {tk : Nat} {nw : Led}
    (F : Fr h₀ L h' m) (N : News h₀ L h' (p0 :: pI :: pC :: pD :: nw)) (off : LCg.Off3 pI.1 pC.1 pD.1 nw) (e0 : AllLt p0.1 (pI :: pC :: pD :: nw)) (r : rest y (p0 :: nw)) : CEnd h₀ L m s₁ pI pC pD rest y { s₁ with heap := h', toks := tk } := by
  refine c_end (news' := p0 :: nw) F N (fun p hp => ?_) ⟨⟨Nat.ne_of_gt e0.1, Nat.ne_of_gt e0.2.1, Nat.ne_of_gt e0.2.2.1⟩, off⟩ r
  rcases List.mem_cons.mp hp with rfl | hp
  · exact .tail _ (.head _)
  · rcases List.mem_cons.mp hp with rfl | hp
    · exact .tail _ (.tail _ (.head _))
    · rcases List.mem_cons.mp hp with rfl | hp
      · exact .tail _ (.tail _ (.tail _ (.head _)))
      · rcases List.mem_cons.mp hp with rfl | hp
        · exact .head _
        · exact .tail _ (.tail _ (.tail _ (.tail _ hp)))
theorem c_succ {prog : Program} {w : World} {A : Around} {E : Value → Shared → Prop} {h₀ : Heap} {L : Addr} {m : Str → Option Value} {env : Env} {elt : PySem.Expr} {x : Str} {scope : Scope} {cl : List (Str × Addr)} {s : Shared} {Q : Value → Shared → Prop} {k i : Nat} {ys : List Value} {news : Led}
    (h : ∀ t I oI C oC D m₂ h tk, LCg.NsObj oC m₂ → m₂ x = some (.int (i : Int) t) → Fr h₀ L h m → News h₀ L h ((I, oI) :: (C, oC) :: (D, LCg.lst ys) :: news) → LCg.Off3 I C D news → ((@Ne Nat I C) ∧ (@Ne Nat I D) ∧ (@Ne Nat C D)) →
      wpAny (model prog w) A (eval elt (compEnvC scope cl C env)) (CEnd h₀ L m { s with heap := h, toks := tk } (I, oI) (C, oC) (D, LCg.lst ys) (fun y news' => CRest prog w A E h₀ L m env elt x scope cl s Q k (i + 1) (ys ++ [y]) news'))
        (notedBy (model prog w) A (compEnvC scope cl C env) fun e s' => compPost (model prog w) A E none Q (.ref D) C (.error e) s') { s with heap := h, toks := tk }) :
    CRest prog w A E h₀ L m env elt x scope cl s Q (k + 1) i ys news := h
theorem c_src {prog : Program} {w : World} {A : Around} {E : Value → Shared → Prop} {h₀ : Heap} {L : Addr} {m : Str → Option Value} {env : Env} {elt : PySem.Expr} {x : Str} {scope : Scope} {cl : List (Str × Addr)} {Q : Value → Shared → Prop} {r : Addr} {t u v : Tok} {news : Led} {s₁ : Shared}
    (hh : A.handled = none) (F : Fr h₀ L s₁.heap m) (N : News h₀ L s₁.heap news) (hr : IsRange s₁.heap r 0 2 1 t u v) (h : ∀ g, CRest prog w A E h₀ L m env elt x scope cl { s₁ with heap := g } Q 2 0 [] news) :
    CSrc prog w A E h₀ L m env elt x scope cl Q (.ref r) s₁ := ⟨r, t, u, v, 2, news, rfl, hh, F, N, hr, rfl, rfl, by rw [sizeLine_eq]; omega, h⟩
theorem ns_ne {P : Params} {B : Heap} {d C : Addr} {oC : Obj} {m₂ : Str → Option Value} {msg : Str} {t1 tm : Tok} {v : Value} (hn : LCg.NsObj oC m₂) (hx : m₂ (Str.ofString "i") = some v) (h1 : B.get? d = some (msgO P msg t1 tm)) (h2 : B.get? C = some oC) : d ≠ C := fun q => by
  rw [q, h2] at h1
  obtain ⟨es, ep, hd, _, hf⟩ := hn
  have e := Option.some.inj h1
  rw [e] at hd
  have e2 : es = #[⟨PyData.keyHash P "message", .str "message" t1, .str msg tm⟩] := by
    injection hd with a b
    exact a.symm
  have := hf (Str.ofString "i")
  rw [hx, e2] at this
  cases this
theorem raise_turn {M : Model} {A : Around} {E : Value → Shared → Prop} {s : Shared} {base g G hN : Heap} {outer : List Env} {L a e d I C D : Addr} {m mc : Str → Option Value} {name : Str} {scope sc : Scope} {cd cls acc : Value} {Q' : Value → Shared → Prop} {nw : Led} {oI oC oD : Obj} {cl cs : List (Str × Addr)} {P : Params} {msg : Str} {t1 tm : Tok} {v : Value}
    (K : Below A base outer g) (F : Fr g L G m) (R : RaiD base G (envX name scope L a cd cs :: outer) e d cls ((d, msgO P msg t1 tm) :: (I, oI) :: (C, oC) :: (D, oD) :: nw) s.heap) (U : G.UpToSlots s.heap)
    (hn : LCg.NsObj oC mc) (hx : mc (Str.ofString "i") = some v) (N : News g L hN ((I, oI) :: (C, oC) :: (D, oD) :: nw)) (off : LCg.Off3 I C D nw)
    (hE : ∀ h', RaiP base g (envX name scope L a cd cs) outer e d cls ((d, msgO P msg t1 tm) :: nw) h' → E (.ref e) { s with heap := h' }) :
    notedBy M (A.deeper (envX name scope L a cd cs)) (compEnvC sc cl C (envX name scope L a cd cs)) (fun x s' => compPost M (A.deeper (envX name scope L a cd cs)) E none Q' acc C (.error x) s') (.ref e) s := by
  have hCm : (C, oC) ∈ (I, oI) :: (C, oC) :: (D, oD) :: nw := .tail _ (.head _)
  have hdC : d ≠ C := by
    obtain ⟨B, _, _, hl, _⟩ := R
    exact ns_ne hn hx (hl _ (.head _)).1 (hl _ (.tail _ hCm)).1
  refine comp_raise K F R U (.tail _ hCm) hn (N _ hCm).2.2 (N _ hCm).2.1 (fun q hq => ?_) hE
  rcases List.mem_cons.mp hq with rfl | hq
  · exact ⟨.head _, hdC⟩
  · exact ⟨.tail _ (.tail _ (.tail _ (.tail _ hq))), (off.mem q hq).2.1⟩
theorem lis_two {h₀ h : Heap} {L Z : Addr} {news : Led} {a b : Value} {n : Nat} (N : News h₀ L h news) (m : (Z, lisO [a, b] n) ∈ news) : h.IsList Z [a, b].toArray := N.isList m
abbrev RLst (w : World) (news : Led) (o : Op) (f k g l : Int) : Fin' := fun h₀ L m s Q E base envs => (dueOk o f k g l → ∀ (D A B : Addr) (t1 t2 t3 t4 : Tok) (c1 c2 n : Nat) (h' : Heap) (tk' : Nat), Fr h₀ L h' m → News h₀ L h' ((D, lisO [.ref A, .ref B] n) :: (B, tupO (dueA o f k g l) (dueB o f k g l) t3 t4 c2) :: (A, tupO (fstA o) 1 t1 t2 c1) :: news) → Q (.ref D) { s with heap := h', toks := tk' }) ∧ (¬ dueOk o f k g l → RExc w news h₀ L m s Q E base envs)
theorem ret_lst {w : World} {news news' : Led} {o : Op} {f k g l : Int} {h₀ h' : Heap} {L D A B : Addr} {m : Str → Option Value} {s : Shared} {Q E : Value → Shared → Prop} {b : Heap} {env : List Env} {t1 t2 t3 t4 : Tok} {c1 c2 n tk' : Nat}
    (hret : RLst w news o f k g l h₀ L m s Q E b env) (ok : dueOk o f k g l) (F : Fr h₀ L h' m) (N : News h₀ L h' news') (m1 : (D, lisO [.ref A, .ref B] n) ∈ news') (m2 : (B, tupO (dueA o f k g l) (dueB o f k g l) t3 t4 c2) ∈ news') (m3 : (A, tupO (fstA o) 1 t1 t2 c1) ∈ news') (hn : ∀ p ∈ news, p ∈ news') : Q (.ref D) { s with heap := h', toks := tk' } := by
  refine hret.1 ok D A B t1 t2 t3 t4 c1 c2 n h' tk' F fun p hp => N p ?_
  rcases List.mem_cons.mp hp with rfl | hp
  · exact m1
  · rcases List.mem_cons.mp hp with rfl | hp
    · exact m2
    · rcases List.mem_cons.mp hp with rfl | hp
      · exact m3
      · exact hn p hp
abbrev DresOK (Kf : Frag) (pg : Program) (w : World) (mean : ExcName → Option Value) (mg mb : Str → Option Value) : Prop :=
  ∀ (news : Led) (o : Op) (ts tn : Tok) (lu lv P X R Y : Addr) (n1 n2 : Nat) (f k g l : Int) (t1 t2 t3 t4 t u t' u' : Tok) (c1 c2 c c' : Nat), (lu, lisO [.ref P, .ref X] n1) ∈ news → (lv, lisO [.ref R, .ref Y] n2) ∈ news → (P, tupO 2 1 t1 t2 c1) ∈ news → (R, tupO 1 1 t3 t4 c2) ∈ news → (X, tupO (prA f k) (prB k) t u c) ∈ news → (Y, tupO (prA g l) (prB l) t' u' c') ∈ news → (FigOk f) → (FigOk g) → (-5000 ≤ k ∧ k ≤ 5000) → (-5000 ≤ l ∧ l ≤ 5000) → ((o.n = 4 ∨ o.n = 5) → 0 ≤ k) → (¬ (o.n = 2 ∨ o.n = 3) → 0 ≤ l) → Cal Kf pg w mean mg mb 124 100 355 [.str o.s ts, .ref lu, .ref lv, .int 2 tn] news (RLst w news o f k g l)
theorem use_dres {Kf : Frag} {pg : Program} {w : World} {mean : ExcName → Option Value} {mg mb : Str → Option Value} {news : Led} {o : Op} {ts tn : Tok} {lu lv P X R Y : Addr} {n1 n2 : Nat} {f k g l : Int} {t1 t2 t3 t4 t u t' u' : Tok} {c1 c2 c c' : Nat}
    {dp un : Nat} {gd : Option (List Code)} {cn : Str} {cs : Scope} {a : Addr} {ccd : Value} {cl : List (Str × Addr)} {outer : List Env} {A₀ : Around} {base h₀ : Heap} {L : Addr} {m : Str → Option Value} {s : Shared} {Q E : Value → Shared → Prop}
    (kB : Below A₀ base outer h₀) (kF : Fr h₀ L s.heap m) (kX : Kf.In h₀) (kN : News h₀ L s.heap news) (kT : Top pg (Lo pg) mean mg mb h₀) (kC : DresOK Kf pg w mean mg mb) (hk : cs.kind = .function) (hm0 : (lu, lisO [.ref P, .ref X] n1) ∈ news) (hm1 : (lv, lisO [.ref R, .ref Y] n2) ∈ news) (hm2 : (P, tupO 2 1 t1 t2 c1) ∈ news) (hm3 : (R, tupO 1 1 t3 t4 c2) ∈ news) (hm4 : (X, tupO (prA f k) (prB k) t u c) ∈ news) (hm5 : (Y, tupO (prA g l) (prB l) t' u' c') ∈ news) (hp0 : FigOk f) (hp1 : FigOk g) (hp2 : -5000 ≤ k ∧ k ≤ 5000) (hp3 : -5000 ≤ l ∧ l ≤ 5000) (hp4 : (o.n = 4 ∨ o.n = 5) → 0 ≤ k) (hp5 : ¬ (o.n = 2 ∨ o.n = 3) → 0 ≤ l)
    (hd : dp + 124 < recursionLimit) (hu : un + 100 < cLine) (kr : (RLst w news o f k g l : Fin') h₀ L m s Q E base (envX cn cs L a ccd cl :: outer)) :
    wpAny (model PySem.Challenge.pw_ov0068_01 w) (ktrTop dp un gd cn cs L a ccd cl outer) (call (.ref 355) [.str o.s ts, .ref lu, .ref lv, .int 2 tn]) Q E s :=
  kC news o ts tn lu lv P X R Y n1 n2 f k g l t1 t2 t3 t4 t u t' u' c1 c2 c c' hm0 hm1 hm2 hm3 hm4 hm5 hp0 hp1 hp2 hp3 hp4 hp5 _ _ _ _ _ _ _ _ _ _ _ _ _ _ _ _ _ kB kF kX kN kT hk hd hu kr
abbrev RVec (w : World) (news : Led) (o : Op) (f k g l : Int) : Fin' := fun h₀ L m s Q E base envs => (dueOk o f k g l → ∀ (Z z D A B : Addr) (kt k1 k2 k3 k4 k5 t1 t2 t3 t4 : Tok) (c1 c2 n : Nat) (h' : Heap) (tk' : Nat), Fr h₀ L h' m → News h₀ L h' ((Z, instObj 236 z) :: (z, vecO w.params D kt k1 k2 k3 k4 k5) :: (D, lisO [.ref A, .ref B] n) :: (B, tupO (dueA o f k g l) (dueB o f k g l) t3 t4 c2) :: (A, tupO (fstA o) 1 t1 t2 c1) :: news) → Q (.ref Z) { s with heap := h', toks := tk' }) ∧ (¬ dueOk o f k g l → RExc w news h₀ L m s Q E base envs)
theorem ret_vec {w : World} {news news' : Led} {o : Op} {f k g l : Int} {h₀ h' : Heap} {L Z z D A B : Addr} {m : Str → Option Value} {s : Shared} {Q E : Value → Shared → Prop} {b : Heap} {env : List Env} {kt k1 k2 k3 k4 k5 t1 t2 t3 t4 : Tok} {c1 c2 n tk' : Nat}
    (hret : RVec w news o f k g l h₀ L m s Q E b env) (ok : dueOk o f k g l) (F : Fr h₀ L h' m) (N : News h₀ L h' news') (m4 : (Z, instObj 236 z) ∈ news') (m5 : (z, vecO w.params D kt k1 k2 k3 k4 k5) ∈ news') (m1 : (D, lisO [.ref A, .ref B] n) ∈ news') (m2 : (B, tupO (dueA o f k g l) (dueB o f k g l) t3 t4 c2) ∈ news') (m3 : (A, tupO (fstA o) 1 t1 t2 c1) ∈ news') (hn : ∀ p ∈ news, p ∈ news') : Q (.ref Z) { s with heap := h', toks := tk' } := by
  refine hret.1 ok Z z D A B kt k1 k2 k3 k4 k5 t1 t2 t3 t4 c1 c2 n h' tk' F fun p hp => N p ?_
  rcases List.mem_cons.mp hp with rfl | hp
  · exact m4
  · rcases List.mem_cons.mp hp with rfl | hp
    · exact m5
    · rcases List.mem_cons.mp hp with rfl | hp
      · exact m1
      · rcases List.mem_cons.mp hp with rfl | hp
        · exact m2
        · rcases List.mem_cons.mp hp with rfl | hp
          · exact m3
          · exact hn p hp
abbrev ArithOK (Kf : Frag) (pg : Program) (w : World) (mean : ExcName → Option Value) (mg mb : Str → Option Value) : Prop :=
  ∀ (news : Led) (o : Op) (ts : Tok) (nt : Addr) (V d l : Addr) (kt k1 k2 k3 k4 k5 : Tok) (V' d' l' : Addr) (kt' k1' k2' k3' k4' k5' : Tok) (P X R Y : Addr) (n1 n2 : Nat) (f k g l0 : Int) (t1 t2 t3 t4 t u t' u' : Tok) (c1 c2 c c' : Nat), (V, instObj 236 d) ∈ news → (d, vecO w.params l kt k1 k2 k3 k4 k5) ∈ news → (V', instObj 236 d') ∈ news → (d', vecO w.params l' kt' k1' k2' k3' k4' k5') ∈ news → (l, lisO [.ref P, .ref X] n1) ∈ news → (l', lisO [.ref R, .ref Y] n2) ∈ news → (P, tupO 2 1 t1 t2 c1) ∈ news → (R, tupO 1 1 t3 t4 c2) ∈ news → (X, tupO (prA f k) (prB k) t u c) ∈ news → (Y, tupO (prA g l0) (prB l0) t' u' c') ∈ news → (FigOk f) → (FigOk g) → (-5000 ≤ k ∧ k ≤ 5000) → (-5000 ≤ l0 ∧ l0 ≤ 5000) → ((o.n = 4 ∨ o.n = 5) → 0 ≤ k) → (¬ (o.n = 2 ∨ o.n = 3) → 0 ≤ l0) → Cal Kf pg w mean mg mb 130 150 362 [.str o.s ts, .ref V, .ref V', .ref nt] news (RVec w news o f k g l0)
theorem use_arith {Kf : Frag} {pg : Program} {w : World} {mean : ExcName → Option Value} {mg mb : Str → Option Value} {news : Led} {o : Op} {ts : Tok} {nt : Addr} {V d l : Addr} {kt k1 k2 k3 k4 k5 : Tok} {V' d' l' : Addr} {kt' k1' k2' k3' k4' k5' : Tok} {P X R Y : Addr} {n1 n2 : Nat} {f k g l0 : Int} {t1 t2 t3 t4 t u t' u' : Tok} {c1 c2 c c' : Nat}
    {dp un : Nat} {gd : Option (List Code)} {cn : Str} {cs : Scope} {a : Addr} {ccd : Value} {cl : List (Str × Addr)} {outer : List Env} {A₀ : Around} {base h₀ : Heap} {L : Addr} {m : Str → Option Value} {s : Shared} {Q E : Value → Shared → Prop}
    (kB : Below A₀ base outer h₀) (kF : Fr h₀ L s.heap m) (kX : Kf.In h₀) (kN : News h₀ L s.heap news) (kT : Top pg (Lo pg) mean mg mb h₀) (kC : ArithOK Kf pg w mean mg mb) (hk : cs.kind = .function) (hm0 : (V, instObj 236 d) ∈ news) (hm1 : (d, vecO w.params l kt k1 k2 k3 k4 k5) ∈ news) (hm2 : (V', instObj 236 d') ∈ news) (hm3 : (d', vecO w.params l' kt' k1' k2' k3' k4' k5') ∈ news) (hm4 : (l, lisO [.ref P, .ref X] n1) ∈ news) (hm5 : (l', lisO [.ref R, .ref Y] n2) ∈ news) (hm6 : (P, tupO 2 1 t1 t2 c1) ∈ news) (hm7 : (R, tupO 1 1 t3 t4 c2) ∈ news) (hm8 : (X, tupO (prA f k) (prB k) t u c) ∈ news) (hm9 : (Y, tupO (prA g l0) (prB l0) t' u' c') ∈ news) (hp0 : FigOk f) (hp1 : FigOk g) (hp2 : -5000 ≤ k ∧ k ≤ 5000) (hp3 : -5000 ≤ l0 ∧ l0 ≤ 5000) (hp4 : (o.n = 4 ∨ o.n = 5) → 0 ≤ k) (hp5 : ¬ (o.n = 2 ∨ o.n = 3) → 0 ≤ l0)
    (hd : dp + 130 < recursionLimit) (hu : un + 150 < cLine) (kr : (RVec w news o f k g l0 : Fin') h₀ L m s Q E base (envX cn cs L a ccd cl :: outer)) :
    wpAny (model PySem.Challenge.pw_ov0068_01 w) (ktrTop dp un gd cn cs L a ccd cl outer) (call (.ref 362) [.str o.s ts, .ref V, .ref V', .ref nt]) Q E s :=
  kC news o ts nt V d l kt k1 k2 k3 k4 k5 V' d' l' kt' k1' k2' k3' k4' k5' P X R Y n1 n2 f k g l0 t1 t2 t3 t4 t u t' u' c1 c2 c c' hm0 hm1 hm2 hm3 hm4 hm5 hm6 hm7 hm8 hm9 hp0 hp1 hp2 hp3 hp4 hp5 _ _ _ _ _ _ _ _ _ _ _ _ _ _ _ _ _ kB kF kX kN kT hk hd hu kr
abbrev nTold : Str := Str.ofString "told"
def Told (o : Op) (f k g l : Int) (v : Value) (core : Led) : Prop :=
  (dueOk o f k g l ∧ ∃ (D A B : Addr) (t1 t2 t3 t4 : Tok) (c1 c2 n : Nat), v = .ref D ∧ (D, lisO [.ref A, .ref B] n) ∈ core ∧ (B, tupO (dueA o f k g l) (dueB o f k g l) t3 t4 c2) ∈ core ∧ (A, tupO (fstA o) 1 t1 t2 c1) ∈ core) ∨ (¬ dueOk o f k g l ∧ ∃ t : Tok, v = .str refused t)
def PT (o : Op) (ts : Tok) (v : Value) (f k g l : Int) (core : Led) (h₀ : Heap) (L : Addr) (s s' : Shared) : Prop := ∃ (h' : Heap) (tk' : Nat) (m' : Str → Option Value) (vt : Value) (core' : Led), s' = { s with heap := h', toks := tk' } ∧ Fr h₀ L h' m' ∧ News h₀ L h' core' ∧ (∀ p ∈ core, p ∈ core') ∧
  m' nOp = some (.str o.s ts) ∧ m' nDue = some v ∧ m' nTold = some vt ∧ Told o f k g l vt core'
theorem pt_end {o : Op} {ts : Tok} {v vt : Value} {f k g l : Int} {core news : Led} {h₀ : Heap} {L : Addr} {s : Shared} {h' : Heap} {tk' : Nat} {m' : Str → Option Value}
    (F : Fr h₀ L h' m') (N : News h₀ L h' news) (hc : ∀ p ∈ core, p ∈ news) (k1 : m' nOp = some (.str o.s ts)) (k2 : m' nDue = some v) (k3 : m' nTold = some vt) (ht : Told o f k g l vt news) : NextP (PT o ts v f k g l core h₀ L s) .next { s with heap := h', toks := tk' } :=
  ⟨rfl, h', tk', m', vt, news, rfl, F, N, hc, k1, k2, k3, ht⟩
theorem told_ok {o : Op} {f k g l : Int} {core : Led} {D A B : Addr} {t1 t2 t3 t4 : Tok} {c1 c2 n : Nat} (ok : dueOk o f k g l) (m1 : (D, lisO [.ref A, .ref B] n) ∈ core) (m2 : (B, tupO (dueA o f k g l) (dueB o f k g l) t3 t4 c2) ∈ core) (m3 : (A, tupO (fstA o) 1 t1 t2 c1) ∈ core) : Told o f k g l (.ref D) core :=
  .inl ⟨ok, D, A, B, t1, t2, t3, t4, c1, c2, n, rfl, m1, m2, m3⟩
theorem told_no {o : Op} {f k g l : Int} {core : Led} {t : Tok} (no : ¬ dueOk o f k g l) : Told o f k g l (.str refused t) core := .inr ⟨no, t, rfl⟩
def Due' (o : Op) (f k g l : Int) (v : Value) (core : Led) : Prop :=
  (dueOk o f k g l ∧ ∃ (D : Addr) (t1 t2 : Tok) (c : Nat), v = .ref D ∧ (D, tupO (dueA o f k g l) (dueB o f k g l) t1 t2 c) ∈ core) ∨ (¬ dueOk o f k g l ∧ ∃ t : Tok, v = .str refused t)
theorem due_in {o : Op} {f k g l : Int} {v : Value} {dl core : Led} (h : Due o f k g l v dl) (hs : ∀ p ∈ dl, p ∈ core) : Due' o f k g l v core := by
  rcases h with ⟨ok, D, t1, t2, c, rfl, rfl⟩ | ⟨no, t, rfl, rfl⟩
  · exact .inl ⟨ok, D, t1, t2, c, rfl, hs _ (.head _)⟩
  · exact .inr ⟨no, t, rfl⟩
theorem told_due {o : Op} {f k g l : Int} {v vt : Value} {core core' : Led} (ht : Told o f k g l vt core') (hd : Due' o f k g l v core) (hc : ∀ p ∈ core, p ∈ core') :
    (∃ (p q : Int) (D A B T : Addr) (t1 t2 t3 t4 t5 t6 : Tok) (c1 c2 c3 n : Nat), v = .ref D ∧ vt = .ref T ∧ (D, tupO p q t5 t6 c3) ∈ core' ∧ (T, lisO [.ref A, .ref B] n) ∈ core' ∧ (B, tupO p q t3 t4 c2) ∈ core' ∧ (A, tupO (fstA o) 1 t1 t2 c1) ∈ core') ∨ (∃ t t' : Tok, v = .str refused t ∧ vt = .str refused t') := by
  rcases ht with ⟨ok, T, A, B, t1, t2, t3, t4, c1, c2, n, rfl, m1, m2, m3⟩ | ⟨no, t, rfl⟩
  · rcases hd with ⟨_, D, t5, t6, c3, rfl, m4⟩ | ⟨no, _⟩
    · exact .inl ⟨_, _, D, A, B, T, t1, t2, t3, t4, t5, t6, c1, c2, c3, n, rfl, rfl, hc _ m4, m1, m2, m3⟩
    · exact absurd ok no
  · rcases hd with ⟨ok, _⟩ | ⟨_, t', rfl⟩
    · exact absurd ok no
    · exact .inr ⟨t', t, rfl, rfl⟩
theorem cut_B {prog : Program} {w : World} {A : Around} {E : Value → Shared → Prop} {s : Shared} {h₀ : Heap} {L : Addr} {m : Str → Option Value} {env : Env} {Q : Flow → Shared → Prop} (F : Fr h₀ L s.heap m) (k : Nat) (P : Heap → Addr → Shared → Shared → Prop) {l : List Stmt}
    (h1 : ∀ (Q' : Flow → Shared → Prop) (E' : Value → Shared → Prop), Q' = NextP (P h₀ L s) → wpAny (model prog w) A (execs (l.take k) env) Q' E' s) (h2 : ∀ s', P h₀ L s s' → wpAny (model prog w) A (execs (l.drop k) env) Q E s') : wpAny (model prog w) A (execs l env) Q E s := cut_A F k P (h1 _ E rfl) h2
abbrev nFirst : Str := Str.ofString "first"
def PU (m : Str → Option Value) (core : Led) (h₀ : Heap) (L : Addr) (s s' : Shared) : Prop := ∃ (h' : Heap) (tk' : Nat) (m' : Str → Option Value), s' = { s with heap := h', toks := tk' } ∧ Fr h₀ L h' m' ∧ News h₀ L h' core ∧
  m' nOp = m nOp ∧ m' nDue = m nDue ∧ m' nTold = m nTold
theorem pu_end {m m' : Str → Option Value} {core news : Led} {h₀ : Heap} {L : Addr} {s : Shared} {h' : Heap} {tk' : Nat}
    (F : Fr h₀ L h' m') (N : News h₀ L h' news) (hc : ∀ p ∈ core, p ∈ news) (k1 : m' nOp = m nOp) (k2 : m' nDue = m nDue) (k3 : m' nTold = m nTold) : NextP (PU m core h₀ L s) .next { s with heap := h', toks := tk' } :=
  ⟨rfl, h', tk', m', rfl, F, fun p hp => N p (hc p hp), k1, k2, k3⟩
def PG (a : Int) (m : Str → Option Value) (core : Led) (h₀ : Heap) (L : Addr) (s s' : Shared) : Prop := ∃ (h' : Heap) (tk' : Nat) (m' : Str → Option Value) (G : Addr) (t u : Tok) (c : Nat) (core' : Led), s' = { s with heap := h', toks := tk' } ∧ Fr h₀ L h' m' ∧ News h₀ L h' core' ∧ (∀ p ∈ core, p ∈ core') ∧
  (G, tupO a 1 t u c) ∈ core' ∧ m' nFirst = some (.ref G) ∧ m' nDue = m nDue ∧ m' nTold = m nTold
theorem pg_end {a b : Int} {m m' : Str → Option Value} {core news : Led} {h₀ : Heap} {L G : Addr} {s : Shared} {h' : Heap} {tk' : Nat} {t u : Tok} {c : Nat}
    (F : Fr h₀ L h' m') (N : News h₀ L h' news) (hc : ∀ p ∈ core, p ∈ news) (k1 : m' nFirst = some (.ref G)) (hm : (G, tupO b 1 t u c) ∈ news) (e : b = a) (k2 : m' nDue = m nDue) (k3 : m' nTold = m nTold) : NextP (PG a m core h₀ L s) .next { s with heap := h', toks := tk' } := by
  subst e
  exact ⟨rfl, h', tk', m', G, t, u, c, news, rfl, F, N, hc, hm, k1, k2, k3⟩
local macro_rules | `(tactic| walk_at $s:str) => `(tactic| k_extra $s)
set_option Elab.async true
theorem top.tw16541100652227675460 : True := trivial
theorem top.tw17452537726481058193 : True := trivial
theorem top.tw18064794426631996164 : True := trivial
theorem top.tw12714690216161085199 : True := trivial
theorem top.tw15520076703209659932 : True := trivial
theorem top.tw752692445954016374 : True := trivial
theorem top.tw18271591837696325433 : True := trivial
theorem top.tw17277593502163590643 : True := trivial
theorem top.tw2683898200743741643 : True := trivial
theorem top.tw1475165856519544709 : True := trivial
theorem top.tw13880847245389450951 : True := trivial
theorem top.tw9442318146202087700 : True := trivial
theorem top.tw16616189557979392351 : True := trivial
theorem top.tw16394108629617908822 : True := trivial
theorem top.tw395507657311394833 : True := trivial
theorem top.tw11534996760908167404 : True := trivial
theorem top.tw10801874191123338550 : True := trivial
theorem top.tw6930518751129746686 : True := trivial
theorem top.tw9539914271453190242 : True := trivial
theorem top.tw1403432094787535595 : True := trivial
theorem top.tw14168018189251442112 : True := trivial
theorem top.tw12094960947251128927 : True := trivial
theorem top.tw9543386914318008161 : True := trivial
theorem top.tw9851269098105209369 : True := trivial
theorem top.tw860223938195835975 : True := trivial
theorem top.tw17089494485692210459 : True := trivial
theorem top.tw16174758807025615021 : True := trivial
theorem top.tw2581206410525282061 : True := trivial
theorem top.tw13889309363888878346 : True := trivial
theorem top.tw6189502492464219833 : True := trivial
theorem top.tw1706793611546318481 : True := trivial
theorem top.tw12012865196380796599 : True := trivial
theorem top.tw9961057766049560675 : True := trivial
theorem top.tw6624316729101989866 : True := trivial
theorem top.tw3584897518013459382 : True := trivial
theorem top.tw12643491718579748851 : True := trivial
theorem top.tw17620759639134147866 : True := trivial
theorem top.tw8810280945414196856 : True := trivial
theorem top.tw4784893810139332661 : True := trivial
theorem top.tw5007059233328744404 : True := trivial
theorem top.tw17046948494117081484 : True := trivial
theorem top.tw2369445192022557226 : True := trivial
theorem top.tw11546936639936008217 : True := trivial
theorem top.tw6176384092110617959 : True := trivial
theorem top.tw7743179893348639699 : True := trivial
theorem top.tw887695700811335699 : True := trivial
theorem top.tw17565814175750979855 : True := trivial
theorem top.tw5244899138074338376 : True := trivial
theorem top.tw8694864300669457046 : True := trivial
theorem top.tw5581607755468803823 : True := trivial
theorem top.tw15254643099363442306 : True := trivial
theorem top.tw12376051458212225564 : True := trivial
theorem top.tw8892184565913893157 : True := trivial
theorem top.tw15740088241188596515 : True := trivial
theorem top.tw4498253355057717688 : True := trivial
theorem top.tw1047907039808853306 : True := trivial
theorem top.tw16196420915677631385 : True := trivial
theorem top.tw16044733080236030384 : True := trivial
theorem top.tw18034075008235765660 : True := trivial
theorem top.tw370947364307004932 : True := trivial
theorem top.tw775762912060472103 : True := trivial
theorem top.tw10195997230039290492 : True := trivial
theorem top.tw15878805988109762761 : True := trivial
theorem top.tw1732150942055357024 : True := trivial
theorem top.tw9759319705405543751 : True := trivial
theorem top.tw14632489290957082403 : True := trivial
theorem top.tw13420762306968818387 : True := trivial
theorem top.tw7673058066778466091 : True := trivial
theorem top.tw8139039716903228087 : True := trivial
theorem top.tw11199532085631943738 : True := trivial
theorem top.tw788273225186049534 : True := trivial
theorem top.tw1516213087968936877 : True := trivial
theorem top.tw4076138812419527698 : True := trivial
theorem top.tw18245740138792012028 : True := trivial
theorem top.tw3855276242980373810 : True := trivial
theorem top.tw6520327441239513222 : True := trivial
theorem top.tw6664487174759623829 : True := trivial
theorem top.tw5860347150701562758 : True := trivial
theorem top.tw339143206060000330 : True := trivial
theorem top.tw390997316461189296 : True := trivial
theorem top.tw3974946682361356058 : True := trivial
theorem top.tw10187264123177260123 : True := trivial
theorem top.tw11845233108574324481 : True := trivial
theorem top.tw7250933059871147345 : True := trivial
theorem top.tw13264354339760550358 : True := trivial
theorem top.tw9059672392935016618 : True := trivial
theorem top.tw13501252493785611398 : True := trivial
theorem top.tw795583310449317561 : True := trivial
theorem top.tw14402358008270493973 : True := trivial
theorem top.tw11203750815551599093 : True := trivial
theorem top.tw3561193834555079511 : True := trivial
theorem top.tw13134186033006778460 : True := trivial
theorem top.tw9272544492142499777 : True := trivial
theorem top.tw1843344800811705456 : True := trivial
theorem top.tw15976228082101565994 : True := trivial
theorem top.tw3776753064480771068 : True := trivial
theorem top.tw14826035006057030972 : True := trivial
theorem top.tw6505410396798821541 : True := trivial
theorem top.tw2377541652452675900 : True := trivial
theorem top.tw13369591340354186047 : True := trivial
theorem top.tw12427389293880184781 : True := trivial
theorem top.tw2988451766255067171 : True := trivial
theorem top.tw16439428074185983240 : True := trivial
theorem top.tw7830913209206220567 : True := trivial
theorem top.tw1212798325632107971 : True := trivial
theorem top.tw8657480035899644758 : True := trivial
theorem top.tw14789260269991461300 : True := trivial
theorem top.tw12540527436937284434 : True := trivial
theorem top.tw12392516345856041104 : True := trivial
theorem top.tw14697636140705633519 : True := trivial
theorem top.tw9063741608606530840 : True := trivial
theorem top.tw708234853630380328 : True := trivial
theorem top.tw12342655685612074800 : True := trivial
theorem top.tw8679839319945467846 : True := trivial
theorem top.tw10090393231696489298 : True := trivial
theorem top.tw16713831800681072344 : True := trivial
theorem top.tw4940147422707163885 : True := trivial
theorem top.tw14608685727046917156 : True := trivial
theorem top.tw9631074621892390191 : True := trivial
theorem top.tw5523086135645875356 : True := trivial
theorem top.tw16204670001084760307 : True := trivial
theorem top.tw4859757453598101857 : True := trivial
theorem top.tw2287823674025257028 : True := trivial
theorem top.tw6286779285267259847 : True := trivial
theorem top.tw6812286434817487243 : True := trivial
theorem top.tw8212240652046128837 : True := trivial
theorem top.tw342308947776675178 : True := trivial
theorem top.tw1400011881503588481 : True := trivial
theorem top.tw1736530178072539846 : True := trivial
theorem top.tw7990429038631628895 : True := trivial
theorem top.tw2985252069258134486 : True := trivial
theorem top.tw12318557346453588183 : True := trivial
theorem top.tw10797620697341660853 : True := trivial
theorem top.tw13359135706311490777 : True := trivial
theorem top.tw146815374380898660 : True := trivial
theorem top.tw9378254376102152143 : True := trivial
theorem top.tw8107780213005350392 : True := trivial
theorem top.tw11334350811105764591 : True := trivial
theorem top.tw6042063481754889096 : True := trivial
theorem top.tw72247145696351765 : True := trivial
theorem top.tw15169761463676818070 : True := trivial
theorem top.tw13345470168829271861 : True := trivial
theorem top.tw8640399195822439974 : True := trivial
theorem top.tw10005945817407372193 : True := trivial
theorem top.tw15092371282622821202 : True := trivial
theorem top.tw12958502747184954254 : True := trivial
theorem top.tw16420938139371093754 : True := trivial
theorem top.tw4671429814451907529 : True := trivial
theorem top.tw10783980745131425670 : True := trivial
theorem top.tw17492772389151264855 : True := trivial
theorem top.tw5225916559131626549 : True := trivial
theorem top.tw13822267516522204269 : True := trivial
theorem top.tw13706816188851595723 : True := trivial
theorem top.tw1088946173253831356 : True := trivial
theorem top.tw11922380849998532372 : True := trivial
theorem top.tw16123964013534891561 : True := trivial
theorem top.tw7715697345341360870 : True := trivial
theorem top.tw16795567611416646642 : True := trivial
theorem top.tw1585457916280141200 : True := trivial
theorem top.tw5938664839603501006 : True := trivial
theorem top.tw12385144161495827662 : True := trivial
theorem top.tw8729362747519067210 : True := trivial
theorem top.tw7198060816514059695 : True := trivial
theorem top.tw6430265229019958763 : True := trivial
theorem top.tw15569959144833144457 : True := trivial
theorem top.tw12718909917080609646 : True := trivial
theorem top.tw10864713392326063847 : True := trivial
theorem top.tw9227057690007400460 : True := trivial
theorem top.tw6211089042160764376 : True := trivial
theorem top.tw3474246075231452896 : True := trivial
theorem top.tw10915162052029792233 : True := trivial
theorem top.tw10548783162686979305 : True := trivial
theorem top.tw14762295962024373759 : True := trivial
theorem top.tw15177526630643400193 : True := trivial
theorem top.tw53344730913325255 : True := trivial
theorem top.tw1142415686869020238 : True := trivial
theorem top.tw14390669486469195807 : True := trivial
theorem top.tw2847958352784047137 : True := trivial
theorem top.tw12105128591322288922 : True := trivial
theorem top.tw6187478851450931391 : True := trivial
theorem top.tw5969682004907312646 : True := trivial
theorem top.tw2907113945770861938 : True := trivial
theorem top.tw10996937224433265937 : True := trivial
theorem top.tw1149218181149386328 : True := trivial
theorem top.tw13303987763403120937 : True := trivial
theorem top.tw13889484949932952446 : True := trivial
theorem top.tw4205137553216949640 : True := trivial
theorem top.tw11334415319851112604 : True := trivial
theorem top.tw9503340733035011235 : True := trivial
theorem top.tw2665807947273092163 : True := trivial
theorem top.tw4213018616267185653 : True := trivial
theorem top.tw11423202765487971197 : True := trivial
theorem top.tw17470836177267949868 : True := trivial
theorem top.tw9800703332001039478 : True := trivial
theorem top.tw1869187583165140508 : True := trivial
theorem top.tw16155163154822807229 : True := trivial
theorem top.tw15918733279669447828 : True := trivial
theorem top.tw814325599930780420 : True := trivial
theorem top.tw8345894832289464959 : True := trivial
theorem top.tw14349089067433371257 : True := trivial
theorem top.tw2464713573024523455 : True := trivial
theorem top.tw8538268897159353584 : True := trivial
theorem top.tw17177869089781658578 : True := trivial
theorem top.tw3730354652608582461 : True := trivial
theorem top.tw8363718466572441477 : True := trivial
theorem top.tw575894324575664597 : True := trivial
theorem top.tw2514443458684651071 : True := trivial
theorem top.tw9366391650621772374 : True := trivial
theorem top.tw1139600151236580504 : True := trivial
theorem top.tw6127594578889010139 : True := trivial
theorem top.tw16900427199656544559 : True := trivial
theorem top.tw1676862907878916244 : True := trivial
theorem top.tw9953747333497923681 : True := trivial
theorem top.tw6919701780365589675 : True := trivial
theorem top.tw8410488445778877200 : True := trivial
theorem top.tw14747140909534839006 : True := trivial
theorem top.tw5155950481276406077 : True := trivial
theorem top.tw15646934709686841381 : True := trivial
theorem top.tw7429413206186439793 : True := trivial
theorem top.tw16415559393655328363 : True := trivial
theorem top.tw13928562000808390012 : True := trivial
theorem top.tw14796646475526232899 : True := trivial
theorem top.tw10773188271377071773 : True := trivial
theorem top.tw620129878449983639 : True := trivial
theorem top.tw17355269125676882429 : True := trivial
theorem top.tw381845443943030031 : True := trivial
theorem top.tw15985961358823992270 : True := trivial
theorem top.tw2741389259953327712 : True := trivial
theorem top.tw216529984938456764 : True := trivial
theorem top.tw10448899703829047738 : True := trivial
theorem top.tw14611434983143301774 : True := trivial
theorem top.tw2218668502564051296 : True := trivial
theorem top.tw8598144960395782539 : True := trivial
theorem top.tw16580785732701462914 : True := trivial
theorem top.tw6756868429301003459 : True := trivial
theorem top.tw13068111086705522682 : True := trivial
theorem top.tw5597187220613765494 : True := trivial
theorem top.tw18086089286151905521 : True := trivial
theorem top.tw8523463495250067690 : True := trivial
theorem top.tw9614876229902214918 : True := trivial
theorem top.tw10567129059001840431 : True := trivial
theorem top.tw2732273902793177162 : True := trivial
theorem top.tw4521809724291441696 : True := trivial
theorem top.tw14861896470697024400 : True := trivial
theorem top.tw9382581127745807760 : True := trivial
theorem top.tw10648311167861321448 : True := trivial
theorem top.tw7855079511596107753 : True := trivial
theorem top.tw2249405535684624136 : True := trivial
theorem top.tw6431110157172167083 : True := trivial
theorem top.tw16273406610938067001 : True := trivial
theorem top.tw6370870915552960936 : True := trivial
theorem top.tw10006222313960134694 : True := trivial
theorem top.tw427269002284569659 : True := trivial
theorem top.tw6749217079512962374 : True := trivial
theorem top.tw8143265674769528471 : True := trivial
theorem top.tw4159251561096739476 : True := trivial
theorem top.tw13326734554550294991 : True := trivial
theorem top.tw11613256710310857696 : True := trivial
theorem top.tw9059832203979395877 : True := trivial
theorem top.tw6906291655842520137 : True := trivial
theorem top.tw1492452104121835379 : True := trivial
theorem top.tw5088376156974544275 : True := trivial
theorem top.tw7847650389618582240 : True := trivial
theorem top.tw13802547742096326172 : True := trivial
theorem top.tw6333448901615975916 : True := trivial
theorem top.tw18371284783138465269 : True := trivial
theorem top.tw11459358961799972967 : True := trivial
theorem top.tw14502225709538309166 : True := trivial
theorem top.tw9601329371697537090 : True := trivial
theorem top.tw7458633546980236471 : True := trivial
theorem top.tw6240723676877644813 : True := trivial
theorem top.tw13091174067606910046 : True := trivial
theorem top.tw352232786441526191 : True := trivial
theorem top.tw2835187731363253809 : True := trivial
theorem top.tw17886615442053742456 : True := trivial
theorem top.tw864819663365544661 : True := trivial
theorem top.tw5105846836358774362 : True := trivial
theorem top.tw4655869559712951663 : True := trivial
theorem top.tw5303079699428457377 : True := trivial
theorem top.tw16325430554902658873 : True := trivial
theorem top.tw6491118196486620199 : True := trivial
theorem top.tw7008692893051332821 : True := trivial
theorem top.tw11960245374511038805 : True := trivial
theorem top.tw11141966352661209427 : True := trivial
theorem top.tw17323899518341599180 : True := trivial
theorem top.tw3195968871104189447 : True := trivial
theorem top.tw14142502885225118848 : True := trivial
theorem top.tw1275901062530889299 : True := trivial
theorem top.tw6438537300738474071 : True := trivial
theorem top.tw1886144042066472794 : True := trivial
theorem top.tw13160728816969591200 : True := trivial
theorem top.tw2758071753971750899 : True := trivial
theorem top.tw18367679650794681301 : True := trivial
theorem top.tw7527032243904285869 : True := trivial
theorem top.tw8645369167282567922 : True := trivial
theorem top.tw14282377253939248939 : True := trivial
theorem top.tw649594095290182367 : True := trivial
theorem top.tw8184561461823581802 : True := trivial
theorem top.tw7600245330811189008 : True := trivial
theorem top.tw728428047077509346 : True := trivial
theorem top.tw2555065506035805374 : True := trivial
theorem top.tw7414872774492366064 : True := trivial
theorem top.tw1814787853859245837 : True := trivial
theorem top.tw16352630495959832749 : True := trivial
theorem top.tw2462062305354472974 : True := trivial
theorem top.tw4571971715460732019 : True := trivial
theorem top.tw453181688931711583 : True := trivial
theorem top.tw11199710921928265848 : True := trivial
theorem top.tw17469865338272021226 : True := trivial
theorem top.tw16550210197400561554 : True := trivial
theorem top.tw1638113669730673903 : True := trivial
theorem top.tw16759092144687519636 : True := trivial
theorem top.tw2782073688633401757 : True := trivial
theorem top.tw2057334267981633021 : True := trivial
theorem top.tw15299407806266782574 : True := trivial
theorem top.tw5278709424875269971 : True := trivial
theorem top.tw501154541418245514 : True := trivial
theorem top.tw877433047237710547 : True := trivial
theorem top.tw3337584539547039419 : True := trivial
theorem top.tw15362295582089109014 : True := trivial
theorem top.tw16878204669230926818 : True := trivial
theorem top.tw11430207588045935325 : True := trivial
theorem top.tw7313339093194340965 : True := trivial
theorem top.tw13307591127769906961 : True := trivial
theorem top.tw13370750898655102155 : True := trivial
theorem top.tw1195175773429642966 : True := trivial
theorem top.tw10987319290404115282 : True := trivial
theorem top.tw2145171640123136144 : True := trivial
theorem top.tw594810645892935528 : True := trivial
theorem top.tw1617357707322924660 : True := trivial
theorem top.tw16821654228018055803 : True := trivial
theorem top.tw15503665604740900718 : True := trivial
theorem top.tw11466170419677230873 : True := trivial
theorem top.tw4551080515912023512 : True := trivial
theorem top.tw3422688185749166683 : True := trivial
theorem top.tw8689318265317240412 : True := trivial
theorem top.tw8973803690348224638 : True := trivial
theorem top.tw908825868028484722 : True := trivial
theorem top.tw5058314954733539658 : True := trivial
theorem top.tw5889316905344633881 : True := trivial
theorem top.tw8321918168302905379 : True := trivial
theorem top.tw15361541807878343388 : True := trivial
theorem top.tw14399976873020721970 : True := trivial
theorem top.tw6572447435987645144 : True := trivial
theorem top.tw8507776931139520737 : True := trivial
theorem top.tw11279390925490393535 : True := trivial
theorem top.tw11520865232209809239 : True := trivial
theorem top.tw17342085116792181814 : True := trivial
theorem top.tw12787338502077490372 : True := trivial
theorem top.tw6898770573198911631 : True := trivial
theorem top.tw13896958669275611876 : True := trivial
theorem top.tw16058212318047004132 : True := trivial
theorem top.tw17555251805378815213 : True := trivial
theorem top.tw12080426169559351053 : True := trivial
theorem top.tw5476889619067714990 : True := trivial
theorem top.tw11762496359356365647 : True := trivial
theorem top.tw16054190913257422852 : True := trivial
theorem top.tw4299629679881509495 : True := trivial
theorem top.tw14263998999751124003 : True := trivial
theorem top.tw9108098604805947806 : True := trivial
theorem top.tw5118827330378232414 : True := trivial
theorem top.tw4656485037274611717 : True := trivial
theorem top.tw2924597203103170677 : True := trivial
theorem top.tw105208000716104510 : True := trivial
theorem top.tw2812155379371279736 : True := trivial
theorem top.tw14372152842798730730 : True := trivial
theorem top.tw5766051744304087583 : True := trivial
theorem top.tw1483126911874232274 : True := trivial
theorem top.tw517144808224063464 : True := trivial
theorem top.tw76412952228603488 : True := trivial
theorem top.tw10008474027749305400 : True := trivial
theorem top.tw2822501910515967889 : True := trivial
theorem top.tw18237780215024852062 : True := trivial
theorem top.tw14823308797102314842 : True := trivial
theorem top.tw12415523145999629524 : True := trivial
theorem top.tw13120753694373217308 : True := trivial
theorem top.tw11858546649754279707 : True := trivial
theorem top.tw9335426496214029073 : True := trivial
theorem top.tw14917401599646851644 : True := trivial
theorem top.tw17486766287000646611 : True := trivial
theorem top.tw8237333600419904120 : True := trivial
theorem top.tw6859976401760118174 : True := trivial
theorem top.tw7444641836354208208 : True := trivial
theorem top.tw13177472732611162249 : True := trivial
theorem top.tw1245559373397905713 : True := trivial
theorem top.tw10936122117785486979 : True := trivial
theorem top.tw18085771088847121727 : True := trivial
theorem top.tw3969286963782609292 : True := trivial
theorem top.tw705360758644809490 : True := trivial
theorem top.tw16104615914030681952 : True := trivial
theorem top.tw18186074749648716422 : True := trivial
theorem top.tw11240886729373846589 : True := trivial
theorem top : PySem.Challenge.rw_ov0068_01.Holds := by
  w_on
  o_law
  k_head
  (case hw => w_witness2)
  k_with_none
  k_fill
  k_with "ne zero" => omega
  k_with "ite" => (k_here; first | (refine ite_pos (by first | ((first | with_reducible assumption | ((try simp only [decide_eq_true_eq, decide_eq_false_iff_not, beq_iff_eq, bne_iff_ne, Bool.and_eq_true, Bool.or_eq_true, Bool.not_eq_true]); omega)); done) | fail) ?_) | (refine ite_neg (by first | ((first | with_reducible assumption | ((try simp only [decide_eq_true_eq, decide_eq_false_iff_not, beq_iff_eq, bne_iff_ne, Bool.and_eq_true, Bool.or_eq_true, Bool.not_eq_true]); omega)); done) | fail) ?_))
  k_with "binaryOp FloorDiv int int" => (k_here; k_dflt (refine' fd_int ?zqf1 ?zqf2 ?zqf3 ?zqf4 ?zqf5 ?zqf6 ?zqf7 ?_; (case zqf1 => k_asm); (case zqf2 => k_asm); (case zqf3 => decide +kernel); (case zqf4 => first | assumption | omega); (case zqf5 => omega); (case zqf6 => rfl); (case zqf7 => rfl); k_whole))
  k_with "fin tup" => (refine' ret_tup ?zqh ?zqF ?zqN ?zqhm ?_ ?_ ?zqhn ?zqhl; (case zqh => assumption); (case zqF => k_asm); (case zqN => k_asm); (case zqhm => k_mem); (case zqhn => (intro x hx; repeat (first | exact hx | refine List.mem_cons_of_mem _ ?_))); (case zqhl => ((try simp only [AllLt, and_true] at *); first | assumption | exact allLt_of (by assumption) | exact And.right (by assumption) | exact And.right (And.right (by assumption)) | exact And.right (And.right (And.right (by assumption))))))
  k_with "fin bool" => (refine' ret_bool ?zqh ?zqF ?zqN ?_ ?zqhn; (case zqh => assumption); (case zqF => k_asm); (case zqN => k_asm); (case zqhn => (intro x hx; repeat (first | exact hx | refine List.mem_cons_of_mem _ ?_))))
  k_with "fin int" => (refine' ret_int ?zqh ?zqF ?zqN ?_ ?zqhn; (case zqh => assumption); (case zqF => k_asm); (case zqN => k_asm); (case zqhn => (intro x hx; repeat (first | exact hx | refine List.mem_cons_of_mem _ ?_))))
  have gcd_ok : ∀ (w : World) (mean : ExcName → Option Value) (mg mb : Str → Option Value), GcdOK (Mine.top.heap_1_39 w.params) Mine.top.view_1_40 w mean mg mb := by as_aux_lemma =>
    intro w mean mg mb
    intro news x y tx ty hp0 hp1 dp un gd cn cs a ccd cl outer A₀ base h₀ L m s Q E kB kF kX kN kT hk hd hu hret
    have hret' : RInt news (gcdI x y) h₀ L m s Q E base (envX cn cs L a ccd cl :: outer) := fun t h' tk' F' N' => hret t h' tk' F' N' (gcd_ne (by omega))
    refine wpAny_call ?_
    k_dflt cell_enter
    k_with "exec While Compare cons nil" => k_while (fun _ a b => 0 ≤ a ∧ 0 ≤ b ∧ Int.gcd a b = Int.gcd x y) (fun _ a b => b.toNat) "a" "b"
    k_with "state" => first | exact ⟨hp0, Int.le_of_lt hp1, rfl⟩ | exact gcd_step (by assumption) (by assumption) (by assumption) (by assumption)
    k_with "measure" => exact gcd_less (by assumption) (by assumption)
    k_steps
    all_goals (refine' ret_int hret' ?zqe1 ?zqe2 ?_ ?zqe4; (case zqe1 => k_asm); (case zqe2 => k_asm); (case zqe4 => exact fun _ h => h))
    all_goals exact gcd_done (by assumption) (by assumption) (by assumption) (by assumption)
  k_with "call ref" => (k_here; (with_reducible show wpAny _ _ (call (Value.ref 78) _) _ _ _); k_dflt (refine' use_gcd ?zqk1 ?zqk2 ?zqk3 ?zqk4 ?zqk5 ?zqkC ?zqkK ?zqkp0 ?zqkp1 ?zqkd ?zqku ?_; (case zqk1 => k_asm); (case zqk2 => k_asm); (case zqk3 => k_asm); (case zqk4 => k_asm); (case zqk5 => k_asm); (case zqkC => assumption); (case zqkK => first | exact rfl | assumption); (case zqkp0 => ((try split) <;> omega)); (case zqkp1 => omega); (case zqkd => ktr_room); (case zqku => ktr_units)); intro t9 h9 tk9 F9 N9 G9; (all_goals (try k_sweep)); (all_goals (try dsimp only)); (all_goals (try k_fold)))
  have make_ok : ∀ (w : World) (mean : ExcName → Option Value) (mg mb : Str → Option Value), MakeOK (Mine.top.heap_1_39 w.params) Mine.top.view_1_40 w mean mg mb := by as_aux_lemma =>
    intro w mean mg mb
    have ok_gcd := gcd_ok w mean mg mb
    clear gcd_ok
    intro news n d tn td hp0 dp un gd cn cs a ccd cl outer A₀ base h₀ L m s Q E kB kF kX kN kT hk hd hu hret
    refine wpAny_call ?_
    k_dflt cell_enter
    k_steps
    all_goals walk_at "fin tup"
    all_goals first | exact mk1_neg (by assumption) | exact mk2_neg (by assumption) | exact mk1_pos (by omega) | exact mk2_pos (by omega)
  k_with "call ref" => (k_here; (with_reducible show wpAny _ _ (call (Value.ref 85) _) _ _ _); k_dflt (refine' use_make ?zqk1 ?zqk2 ?zqk3 ?zqk4 ?zqk5 ?zqkC ?zqkK ?zqkp0 ?zqkd ?zqku ?_; (case zqk1 => k_asm); (case zqk2 => k_asm); (case zqk3 => k_asm); (case zqk4 => k_asm); (case zqk5 => k_asm); (case zqkC => assumption); (case zqkK => first | exact rfl | assumption); (case zqkp0 => walk_at "ne zero"); (case zqkd => ktr_room); (case zqku => ktr_units)); intro D9 t9 u9 c9 h9 tk9 F9 N9 l9; (try simp only [AllLt, and_true] at l9); (all_goals (try k_sweep)); (all_goals (try dsimp only)); (all_goals (try k_fold)))
  k_with "mul ok" => first | assumption | exact sm_mul (by assumption) (by assumption)
  k_with "binaryOp Mult int int" => (k_here; (with_reducible show wpAny _ _ (binaryOp _ (Value.int _ _) (Value.int _ _)) _ _ _); k_dflt (refine' mul_int ?_ ?zqm1; (case zqm1 => walk_at "mul ok"); k_whole))
  have isna_ok : ∀ (w : World) (mean : ExcName → Option Value) (mg mb : Str → Option Value), IsnaOK (Mine.top.heap_1_39 w.params) Mine.top.view_1_40 w mean mg mb := by as_aux_lemma =>
    clear gcd_ok make_ok
    intro w mean mg mb
    intro news X p q t u c hm0 hp0 dp un gd cn cs a ccd cl outer A₀ base h₀ L m s Q E kB kF kX kN kT hk hd hu hret
    refine wpAny_call ?_
    k_dflt cell_enter
    k_steps
    all_goals walk_at "fin bool"
    all_goals (simp only [beq_eq_false_iff_ne, ne_eq]; omega)
  k_with "call ref" => (k_here; (with_reducible show wpAny _ _ (call (Value.ref 99) _) _ _ _); k_dflt (refine' use_isna ?zqk1 ?zqk2 ?zqk3 ?zqk4 ?zqk5 ?zqkC ?zqkK ?zqkm0 ?zqkp0 ?zqkd ?zqku ?_; (case zqk1 => k_asm); (case zqk2 => k_asm); (case zqk3 => k_asm); (case zqk4 => k_asm); (case zqk5 => k_asm); (case zqkC => assumption); (case zqkK => first | exact rfl | assumption); (case zqkm0 => k_mem); (case zqkp0 => omega); (case zqkd => ktr_room); (case zqku => ktr_units)); intro h9 tk9 F9 N9; (all_goals (try k_sweep)); (all_goals (try dsimp only)); (all_goals (try k_fold)))
  have neg_ok : ∀ (w : World) (mean : ExcName → Option Value) (mg mb : Str → Option Value), NegOK (Mine.top.heap_1_39 w.params) Mine.top.view_1_40 w mean mg mb := by as_aux_lemma =>
    clear gcd_ok make_ok isna_ok
    intro w mean mg mb
    intro news X p q t u c hm0 dp un gd cn cs a ccd cl outer A₀ base h₀ L m s Q E kB kF kX kN kT hk hd hu hret
    refine wpAny_call ?_
    k_dflt cell_enter
    k_steps
    all_goals walk_at "fin tup"
    all_goals rfl
  k_with "call ref" => (k_here; (with_reducible show wpAny _ _ (call (Value.ref 120) _) _ _ _); k_dflt (refine' use_neg ?zqk1 ?zqk2 ?zqk3 ?zqk4 ?zqk5 ?zqkC ?zqkK ?zqkm0 ?zqkd ?zqku ?_; (case zqk1 => k_asm); (case zqk2 => k_asm); (case zqk3 => k_asm); (case zqk4 => k_asm); (case zqk5 => k_asm); (case zqkC => assumption); (case zqkK => first | exact rfl | assumption); (case zqkm0 => k_mem); (case zqkd => ktr_room); (case zqku => ktr_units)); intro D9 t9 u9 c9 h9 tk9 F9 N9 l9; (try simp only [AllLt, and_true] at l9); (all_goals (try k_sweep)); (all_goals (try dsimp only)); (all_goals (try k_fold)))
  have add_ok : ∀ (w : World) (mean : ExcName → Option Value) (mg mb : Str → Option Value), AddOK (Mine.top.heap_1_39 w.params) Mine.top.view_1_40 w mean mg mb := by as_aux_lemma =>
    clear gcd_ok neg_ok
    intro w mean mg mb
    have ok_isna := isna_ok w mean mg mb
    have ok_make := make_ok w mean mg mb
    clear isna_ok make_ok
    intro news X Y p q r v t u t' u' c c' hm0 hm1 hp0 hp1 hp2 hp3 hp4 dp un gd cn cs a ccd cl outer A₀ base h₀ L m s Q E kB kF kX kN kT hk hd hu hret
    have hqv : q * v ≠ 0 := Int.mul_ne_zero (by omega) (by omega)
    refine wpAny_call ?_
    k_dflt cell_enter
    k_steps
    all_goals walk_at "fin tup"
    all_goals rfl
  k_with "call ref" => (k_here; (with_reducible show wpAny _ _ (call (Value.ref 127) _) _ _ _); k_dflt (refine' use_add ?zqk1 ?zqk2 ?zqk3 ?zqk4 ?zqk5 ?zqkC ?zqkK ?zqkm0 ?zqkm1 ?zqkp0 ?zqkp1 ?zqkp2 ?zqkp3 ?zqkp4 ?zqkd ?zqku ?_; (case zqk1 => k_asm); (case zqk2 => k_asm); (case zqk3 => k_asm); (case zqk4 => k_asm); (case zqk5 => k_asm); (case zqkC => assumption); (case zqkK => first | exact rfl | assumption); (case zqkm0 => k_mem); (case zqkm1 => k_mem); (case zqkp0 => omega); (case zqkp1 => omega); (case zqkp2 => walk_at "mul ok"); (case zqkp3 => walk_at "mul ok"); (case zqkp4 => walk_at "mul ok"); (case zqkd => ktr_room); (case zqku => ktr_units)); intro D9 t9 u9 c9 h9 tk9 F9 N9 l9; (try simp only [AllLt, and_true] at l9); (all_goals (try k_sweep)); (all_goals (try dsimp only)); (all_goals (try k_fold)))
  have sub_ok : ∀ (w : World) (mean : ExcName → Option Value) (mg mb : Str → Option Value), SubOK (Mine.top.heap_1_39 w.params) Mine.top.view_1_40 w mean mg mb := by as_aux_lemma =>
    clear gcd_ok make_ok isna_ok
    intro w mean mg mb
    have ok_neg := neg_ok w mean mg mb
    have ok_add := add_ok w mean mg mb
    clear neg_ok add_ok
    intro news X Y p q r v t u t' u' c c' hm0 hm1 hp0 hp1 hp2 hp3 hp4 dp un gd cn cs a ccd cl outer A₀ base h₀ L m s Q E kB kF kX kN kT hk hd hu hret
    refine wpAny_call ?_
    k_dflt cell_enter
    k_steps
    all_goals walk_at "fin tup"
    all_goals rfl
  k_with "call ref" => (k_here; (with_reducible show wpAny _ _ (call (Value.ref 134) _) _ _ _); k_dflt (refine' use_sub ?zqk1 ?zqk2 ?zqk3 ?zqk4 ?zqk5 ?zqkC ?zqkK ?zqkm0 ?zqkm1 ?zqkp0 ?zqkp1 ?zqkp2 ?zqkp3 ?zqkp4 ?zqkd ?zqku ?_; (case zqk1 => k_asm); (case zqk2 => k_asm); (case zqk3 => k_asm); (case zqk4 => k_asm); (case zqk5 => k_asm); (case zqkC => assumption); (case zqkK => first | exact rfl | assumption); (case zqkm0 => k_mem); (case zqkm1 => k_mem); (case zqkp0 => omega); (case zqkp1 => omega); (case zqkp2 => walk_at "mul ok"); (case zqkp3 => walk_at "mul ok"); (case zqkp4 => walk_at "mul ok"); (case zqkd => ktr_room); (case zqku => ktr_units)); intro D9 t9 u9 c9 h9 tk9 F9 N9 l9; (try simp only [AllLt, and_true] at l9); (all_goals (try k_sweep)); (all_goals (try dsimp only)); (all_goals (try k_fold)))
  have mul_ok : ∀ (w : World) (mean : ExcName → Option Value) (mg mb : Str → Option Value), MulOK (Mine.top.heap_1_39 w.params) Mine.top.view_1_40 w mean mg mb := by as_aux_lemma =>
    clear gcd_ok neg_ok add_ok sub_ok
    intro w mean mg mb
    have ok_isna := isna_ok w mean mg mb
    have ok_make := make_ok w mean mg mb
    clear isna_ok make_ok
    intro news X Y p q r v t u t' u' c c' hm0 hm1 hp0 hp1 hp2 hp3 dp un gd cn cs a ccd cl outer A₀ base h₀ L m s Q E kB kF kX kN kT hk hd hu hret
    have hqv : q * v ≠ 0 := Int.mul_ne_zero (by omega) (by omega)
    refine wpAny_call ?_
    k_dflt cell_enter
    k_steps
    all_goals walk_at "fin tup"
    all_goals rfl
  k_with "call ref" => (k_here; (with_reducible show wpAny _ _ (call (Value.ref 141) _) _ _ _); k_dflt (refine' use_mul ?zqk1 ?zqk2 ?zqk3 ?zqk4 ?zqk5 ?zqkC ?zqkK ?zqkm0 ?zqkm1 ?zqkp0 ?zqkp1 ?zqkp2 ?zqkp3 ?zqkd ?zqku ?_; (case zqk1 => k_asm); (case zqk2 => k_asm); (case zqk3 => k_asm); (case zqk4 => k_asm); (case zqk5 => k_asm); (case zqkC => assumption); (case zqkK => first | exact rfl | assumption); (case zqkm0 => k_mem); (case zqkm1 => k_mem); (case zqkp0 => omega); (case zqkp1 => omega); (case zqkp2 => walk_at "mul ok"); (case zqkp3 => walk_at "mul ok"); (case zqkd => ktr_room); (case zqku => ktr_units)); intro D9 t9 u9 c9 h9 tk9 F9 N9 l9; (try simp only [AllLt, and_true] at l9); (all_goals (try k_sweep)); (all_goals (try dsimp only)); (all_goals (try k_fold)))
  have div_ok : ∀ (w : World) (mean : ExcName → Option Value) (mg mb : Str → Option Value), DivOK (Mine.top.heap_1_39 w.params) Mine.top.view_1_40 w mean mg mb := by as_aux_lemma =>
    clear gcd_ok neg_ok add_ok sub_ok mul_ok
    intro w mean mg mb
    have ok_isna := isna_ok w mean mg mb
    have ok_make := make_ok w mean mg mb
    clear isna_ok make_ok
    intro news X Y p q r v t u t' u' c c' hm0 hm1 hp0 hp1 hp2 hp3 hp4 dp un gd cn cs a ccd cl outer A₀ base h₀ L m s Q E kB kF kX kN kT hk hd hu hret
    have hqr : q * r ≠ 0 := Int.mul_ne_zero (by omega) (by omega)
    refine wpAny_call ?_
    k_dflt cell_enter
    k_steps
    all_goals walk_at "fin tup"
    all_goals rfl
  k_with "call ref" => (k_here; (with_reducible show wpAny _ _ (call (Value.ref 148) _) _ _ _); k_dflt (refine' use_div ?zqk1 ?zqk2 ?zqk3 ?zqk4 ?zqk5 ?zqkC ?zqkK ?zqkm0 ?zqkm1 ?zqkp0 ?zqkp1 ?zqkp2 ?zqkp3 ?zqkp4 ?zqkd ?zqku ?_; (case zqk1 => k_asm); (case zqk2 => k_asm); (case zqk3 => k_asm); (case zqk4 => k_asm); (case zqk5 => k_asm); (case zqkC => assumption); (case zqkK => first | exact rfl | assumption); (case zqkm0 => k_mem); (case zqkm1 => k_mem); (case zqkp0 => omega); (case zqkp1 => omega); (case zqkp2 => omega); (case zqkp3 => walk_at "mul ok"); (case zqkp4 => walk_at "mul ok"); (case zqkd => ktr_room); (case zqku => ktr_units)); intro D9 t9 u9 c9 h9 tk9 F9 N9 l9; (try simp only [AllLt, and_true] at l9); (all_goals (try k_sweep)); (all_goals (try dsimp only)); (all_goals (try k_fold)))
  have isfin_ok : ∀ (w : World) (mean : ExcName → Option Value) (mg mb : Str → Option Value), IsfinOK (Mine.top.heap_1_39 w.params) Mine.top.view_1_40 w mean mg mb := by as_aux_lemma =>
    clear gcd_ok make_ok isna_ok neg_ok add_ok sub_ok mul_ok div_ok
    intro w mean mg mb
    intro news X p q t u c hm0 hp0 dp un gd cn cs a ccd cl outer A₀ base h₀ L m s Q E kB kF kX kN kT hk hd hu hret
    refine wpAny_call ?_
    k_dflt cell_enter
    k_steps
    all_goals walk_at "fin bool"
    all_goals (simp only [decide_eq_true_eq]; omega)
  k_with "call ref" => (k_here; (with_reducible show wpAny _ _ (call (Value.ref 106) _) _ _ _); k_dflt (refine' use_isfin ?zqk1 ?zqk2 ?zqk3 ?zqk4 ?zqk5 ?zqkC ?zqkK ?zqkm0 ?zqkp0 ?zqkd ?zqku ?_; (case zqk1 => k_asm); (case zqk2 => k_asm); (case zqk3 => k_asm); (case zqk4 => k_asm); (case zqk5 => k_asm); (case zqkC => assumption); (case zqkK => first | exact rfl | assumption); (case zqkm0 => k_mem); (case zqkp0 => omega); (case zqkd => ktr_room); (case zqku => ktr_units)); intro h9 tk9 F9 N9; (all_goals (try k_sweep)); (all_goals (try dsimp only)); (all_goals (try k_fold)))
  have floor_ok : ∀ (w : World) (mean : ExcName → Option Value) (mg mb : Str → Option Value), FloorOK (Mine.top.heap_1_39 w.params) Mine.top.view_1_40 w mean mg mb := by as_aux_lemma =>
    clear gcd_ok make_ok isna_ok neg_ok add_ok sub_ok mul_ok div_ok
    intro w mean mg mb
    have ok_isfin := isfin_ok w mean mg mb
    clear isfin_ok
    intro news X p q t u c hm0 hp0 dp un gd cn cs a ccd cl outer A₀ base h₀ L m s Q E kB kF kX kN kT hk hd hu hret
    refine wpAny_call ?_
    k_dflt cell_enter
    k_steps
    all_goals walk_at "fin tup"
    all_goals rfl
  k_with "call ref" => (k_here; (with_reducible show wpAny _ _ (call (Value.ref 197) _) _ _ _); k_dflt (refine' use_floor ?zqk1 ?zqk2 ?zqk3 ?zqk4 ?zqk5 ?zqkC ?zqkK ?zqkm0 ?zqkp0 ?zqkd ?zqku ?_; (case zqk1 => k_asm); (case zqk2 => k_asm); (case zqk3 => k_asm); (case zqk4 => k_asm); (case zqk5 => k_asm); (case zqkC => assumption); (case zqkK => first | exact rfl | assumption); (case zqkm0 => k_mem); (case zqkp0 => omega); (case zqkd => ktr_room); (case zqku => ktr_units)); intro D9 t9 u9 c9 h9 tk9 F9 N9 l9; (try simp only [AllLt, and_true] at l9); (all_goals (try k_sweep)); (all_goals (try dsimp only)); (all_goals (try k_fold)))
  have idiv_ok : ∀ (w : World) (mean : ExcName → Option Value) (mg mb : Str → Option Value), IdivOK (Mine.top.heap_1_39 w.params) Mine.top.view_1_40 w mean mg mb := by as_aux_lemma =>
    clear gcd_ok make_ok isna_ok neg_ok add_ok sub_ok mul_ok
    intro w mean mg mb
    have ok_div := div_ok w mean mg mb
    have ok_isfin := isfin_ok w mean mg mb
    have ok_floor := floor_ok w mean mg mb
    clear div_ok isfin_ok floor_ok
    intro news X Y p q r v t u t' u' c c' hm0 hm1 hp0 hp1 hp2 hp3 hp4 dp un gd cn cs a ccd cl outer A₀ base h₀ L m s Q E kB kF kX kN kT hk hd hu hret
    have hqr : q * r ≠ 0 := Int.mul_ne_zero (by omega) (by omega)
    have hm2 := mk2_gt (n := p * v) hqr
    refine wpAny_call ?_
    k_dflt cell_enter
    k_steps
    all_goals walk_at "fin tup"
    all_goals rfl
  k_with "call ref" => (k_here; (with_reducible show wpAny _ _ (call (Value.ref 204) _) _ _ _); k_dflt (refine' use_idiv ?zqk1 ?zqk2 ?zqk3 ?zqk4 ?zqk5 ?zqkC ?zqkK ?zqkm0 ?zqkm1 ?zqkp0 ?zqkp1 ?zqkp2 ?zqkp3 ?zqkp4 ?zqkd ?zqku ?_; (case zqk1 => k_asm); (case zqk2 => k_asm); (case zqk3 => k_asm); (case zqk4 => k_asm); (case zqk5 => k_asm); (case zqkC => assumption); (case zqkK => first | exact rfl | assumption); (case zqkm0 => k_mem); (case zqkm1 => k_mem); (case zqkp0 => omega); (case zqkp1 => omega); (case zqkp2 => omega); (case zqkp3 => walk_at "mul ok"); (case zqkp4 => walk_at "mul ok"); (case zqkd => ktr_room); (case zqku => ktr_units)); intro D9 t9 u9 c9 h9 tk9 F9 N9 l9; (try simp only [AllLt, and_true] at l9); (all_goals (try k_sweep)); (all_goals (try dsimp only)); (all_goals (try k_fold)))
  have remd_ok : ∀ (w : World) (mean : ExcName → Option Value) (mg mb : Str → Option Value), RemdOK (Mine.top.heap_1_39 w.params) Mine.top.view_1_40 w mean mg mb := by as_aux_lemma =>
    clear gcd_ok make_ok neg_ok add_ok isfin_ok idiv_ok
    intro w mean mg mb
    have ok_isna := isna_ok w mean mg mb
    have ok_div := div_ok w mean mg mb
    have ok_floor := floor_ok w mean mg mb
    have ok_mul := mul_ok w mean mg mb
    have ok_sub := sub_ok w mean mg mb
    clear isna_ok div_ok floor_ok mul_ok sub_ok
    intro news X Y p q r v t u t' u' c c' hm0 hm1 hp0 hp1 hp2 hp3 hp4 hp5 hp6 hp7 hp8 hp9 dp un gd cn cs a ccd cl outer A₀ base h₀ L m s Q E kB kF kX kN kT hk hd hu hret
    have hqr : q * r ≠ 0 := Int.mul_ne_zero (by omega) (by omega)
    have hm2 := mk2_gt (n := p * v) hqr
    have hm3 : 0 < rM2 p q r v := mk2_gt (by omega)
    refine wpAny_call ?_
    k_dflt cell_enter
    k_steps
    all_goals walk_at "fin tup"
    all_goals rfl
  k_with "call ref" => (k_here; (with_reducible show wpAny _ _ (call (Value.ref 211) _) _ _ _); k_dflt (refine' use_remd ?zqk1 ?zqk2 ?zqk3 ?zqk4 ?zqk5 ?zqkC ?zqkK ?zqkm0 ?zqkm1 ?zqkp0 ?zqkp1 ?zqkp2 ?zqkp3 ?zqkp4 ?zqkp5 ?zqkp6 ?zqkp7 ?zqkp8 ?zqkp9 ?zqkd ?zqku ?_; (case zqk1 => k_asm); (case zqk2 => k_asm); (case zqk3 => k_asm); (case zqk4 => k_asm); (case zqk5 => k_asm); (case zqkC => assumption); (case zqkK => first | exact rfl | assumption); (case zqkm0 => k_mem); (case zqkm1 => k_mem); (case zqkp0 => omega); (case zqkp1 => omega); (case zqkp2 => omega); (case zqkp3 => walk_at "mul ok"); (case zqkp4 => walk_at "mul ok"); (case zqkp5 => walk_at "mul ok"); (case zqkp6 => walk_at "mul ok"); (case zqkp7 => walk_at "mul ok"); (case zqkp8 => walk_at "mul ok"); (case zqkp9 => walk_at "mul ok"); (case zqkd => ktr_room); (case zqku => ktr_units)); intro D9 t9 u9 c9 h9 tk9 F9 N9 l9; (try simp only [AllLt, and_true] at l9); (all_goals (try k_sweep)); (all_goals (try dsimp only)); (all_goals (try k_fold)))
  k_with "setAttr ref" => (k_here; (with_reducible show wpAny _ _ (setAttr (Value.ref _) _ _) _ _ _); k_dflt (refine' set_exc ?zqk1 ?zqk2 ?zqk3 ?zqk4 ?zqk5 ?zqk6 ?zqk7 ?zqk8 ?zqk9 ?_; (case zqk1 => k_asm); (case zqk2 => k_asm); (case zqk3 => (simp only [AllLt, and_true] at *; first | assumption | omega | (constructor <;> assumption))); (case zqk4 => k_asm); (case zqk5 => k_is); (case zqk6 => rfl); (case zqk7 => rfl); (case zqk8 => k_is); (case zqk9 => k_is); k_whole); intro h' dx' tk' F' N' l1 l2; (try simp only [AllLt, and_true] at l1); (try k_sweep))
  have refusal_ok : ∀ (w : World) (mean : ExcName → Option Value) (mg mb : Str → Option Value), RefusalOK (Mine.top.heap_1_39 w.params) Mine.top.view_1_40 w mean mg mb := by as_aux_lemma =>
    clear gcd_ok make_ok isna_ok neg_ok add_ok sub_ok mul_ok div_ok isfin_ok floor_ok idiv_ok remd_ok
    intro w mean mg mb
    intro news msg tm dp un gd cn cs a ccd cl outer A₀ base h₀ L m s Q E kB kF kX kN kT hk hd hu hret
    refine wpAny_call ?_
    obtain ⟨hh, gg, dr, tk, os⟩ := s
    have X1 := kX.keeps kF.keep
    refine exc_core PySem.F.excBase_Exception (tail_of_in X1 (by kernel_rfl)) (X1 65 _ (by k_is)) (looks_findIn X1 (by k_is)) (fun self => bind_fn X1 self (by k_is)) (by rw [sizeLine_eq]; simp) ?_
    have F1 := kF.push ({ cls := .type "tuple", data := .seq [Value.str msg tm].toArray } : Obj)
    have N1 := kN.push kF ({ cls := .type "tuple", data := .seq [Value.str msg tm].toArray } : Obj)
    have F2 := F1.push (excN (.ref 65) hh.objs.size)
    have N2 := N1.push F1 (excN (.ref 65) hh.objs.size)
    have l1 : AllLt hh.objs.size news := allLt_of fun p hp => Heap.lt_size (kN p hp).1
    rw [Heap.size_push] at N2
    have l2 : hh.objs.size < hh.objs.size + 1 := Nat.lt_succ_self _
    have l3 : AllLt (hh.objs.size + 1) news := allLt_of fun p hp => Nat.lt_succ_of_lt (Heap.lt_size (kN p hp).1)
    generalize hh.objs.size + 1 = e at *
    k_dflt cell_enter
    k_steps
    all_goals (refine' ret_exc hret ?zqe1 ?zqe2 ?zqe3 ?zqe4 ?zqe5; (case zqe1 => k_asm); (case zqe2 => k_asm); (case zqe3 => first | assumption | exact And.right (by assumption)); (case zqe4 => assumption); (case zqe5 => assumption))
  k_with "call ref" => (k_here; (with_reducible show wpAny _ _ (call (Value.ref 65) _) _ _ _); k_dflt (refine' use_refusal ?zqk1 ?zqk2 ?zqk3 ?zqk4 ?zqk5 ?zqkC ?zqkK ?zqkd ?zqku ?_; (case zqk1 => k_asm); (case zqk2 => k_asm); (case zqk3 => k_asm); (case zqk4 => k_asm); (case zqk5 => k_asm); (case zqkC => assumption); (case zqkK => first | exact rfl | assumption); (case zqkd => ktr_room); (case zqku => ktr_units)); intro e9 d9 tt9 t9 h9 tk9 F9 N9 l9 l9' l9''; (try simp only [AllLt, and_true] at l9 l9'); (all_goals (try k_sweep)); (all_goals (try dsimp only)); (all_goals (try k_fold)))
  k_with "eval Name" => (k_here; (with_reducible show wpAny _ _ (eval (Expr.Name (Str.ofString "MOST_DOUBLE") _) _) _ _ _); (with_reducible rename Fr _ _ _ _ => kF); k_dflt (refine' name_K kF ?zqk1 ?zqk2 (?zqk3 : MostOK _) ?_; (case zqk1 => k_asm); (case zqk2 => k_asm); (case zqk3 => assumption); k_whole))
  k_with "exec Raise some none" => (k_here; (with_reducible show wpAny _ _ (exec (Stmt.Raise (some _) none _) _) _ _ _); k_dflt (refine' raise_exc (C := 65) ?zqhh ?_; (case zqhh => rfl); k_whole))
  k_with "RaisePost" => (k_dflt (refine' raise_post ?zqk1 ?zqk2 ?zqk3 ?zqk4 ?_; (case zqk1 => k_asm); (case zqk2 => k_asm); (case zqk3 => k_asm); (case zqk4 => kernel_rfl); k_whole))
  k_with "leaving ref" => (k_here; first | (refine' leave_first_N ?zqk1 ?zqk2 ?zqk3 ?zqk4 ?_; (case zqk1 => assumption); (case zqk2 => k_asm); (case zqk3 => k_asm); (case zqk4 => k_all); k_whole; intro h' R' U'; (try dsimp only at R' U' ⊢)) | (refine' leave_on_D ?zqk1 ?zqk2 ?zqk3 ?zqk4 ?_; (case zqk1 => assumption); (case zqk3 => assumption); (case zqk2 => assumption); (case zqk4 => assumption); k_whole; intro h' R' U'; (try dsimp only at R' U' ⊢)))
  k_with "fin rexc" => (refine' ret_rexc ?zqh ?zqF ?zqR ?zqU ?zqhm ?zqhn; (case zqh => assumption); (case zqR => assumption); (case zqF => assumption); (case zqU => assumption); (case zqhm => k_mem); (case zqhn => (intro x hx; repeat (first | exact hx | refine List.mem_cons_of_mem _ ?_))))
  have most_ok : ∀ (w : World) (mean : ExcName → Option Value) (mg mb : Str → Option Value), MostOK (Mine.top.heap_1_39 w.params) := by as_aux_lemma =>
    clear gcd_ok make_ok isna_ok neg_ok add_ok sub_ok mul_ok div_ok isfin_ok floor_ok idiv_ok remd_ok refusal_ok
    intro w mean mg mb
    unfold MostOK
    kernel_rfl
  have within_ok : ∀ (w : World) (mean : ExcName → Option Value) (mg mb : Str → Option Value), WithinOK (Mine.top.heap_1_39 w.params) Mine.top.view_1_40 w mean mg mb := by as_aux_lemma =>
    clear gcd_ok make_ok isna_ok neg_ok add_ok sub_ok mul_ok div_ok isfin_ok floor_ok idiv_ok remd_ok
    intro w mean mg mb
    have ok_most := most_ok w mean mg mb
    have ok_refusal := refusal_ok w mean mg mb
    clear most_ok refusal_ok
    intro news X p q t u c hm0 dp un gd cn cs a ccd cl outer A₀ base h₀ L m s Q E kB kF kX kN kT hk hd hu hret
    refine wpAny_call ?_
    k_dflt cell_enter
    k_steps
    all_goals first
      | (refine hret.1 ⟨by simp only [absI]; omega, by omega⟩ _ _ ?_ ?_ <;> k_asm)
      | (have hx := hret.2 (fun hc => by simp only [absI] at hc; omega); walk_at "fin rexc")
  k_with "call ref" => (k_here; (with_reducible show wpAny _ _ (call (Value.ref 324) _) _ _ _); k_dflt (refine' use_within ?zqk1 ?zqk2 ?zqk3 ?zqk4 ?zqk5 ?zqkC ?zqkK ?zqkm0 ?zqkd ?zqku ?_; (case zqk1 => k_asm); (case zqk2 => k_asm); (case zqk3 => k_asm); (case zqk4 => k_asm); (case zqk5 => k_asm); (case zqkC => assumption); (case zqkK => first | exact rfl | assumption); (case zqkm0 => k_mem); (case zqkd => ktr_room); (case zqku => ktr_units)); (refine ⟨?_, ?_⟩ <;> intros); (all_goals (try k_sweep)); (all_goals (try dsimp only)); (all_goals (try k_fold)))
  have dop_ok : ∀ (w : World) (mean : ExcName → Option Value) (mg mb : Str → Option Value), DopOK (Mine.top.heap_1_39 w.params) Mine.top.view_1_40 w mean mg mb := by as_aux_lemma =>
    clear gcd_ok make_ok isna_ok neg_ok isfin_ok floor_ok refusal_ok most_ok
    intro w mean mg mb
    have ok_add := add_ok w mean mg mb
    have ok_sub := sub_ok w mean mg mb
    have ok_mul := mul_ok w mean mg mb
    have ok_div := div_ok w mean mg mb
    have ok_idiv := idiv_ok w mean mg mb
    have ok_remd := remd_ok w mean mg mb
    have ok_within := within_ok w mean mg mb
    clear add_ok sub_ok mul_ok div_ok idiv_ok remd_ok within_ok
    intro news o ts X Y p q r v t u t' u' c c' hm0 hm1 hp0 dp un gd cn cs a ccd cl outer A₀ base h₀ L m s Q E kB kF kX kN kT hk hd hu hret
    obtain ⟨q0, v0, r0, m1, m2, m3, m4, m5, m6, m7, m8, m9, m10, m11⟩ := hp0
    cases o <;> dsimp only [Op.s]
    all_goals refine wpAny_call ?_
    all_goals k_dflt cell_enter
    all_goals k_steps
    all_goals first
      | (have hx := hret.1 trivial; walk_at "fin tup" <;> rfl)
      | (have hx := hret.1 (by assumption); walk_at "fin tup" <;> rfl)
      | (have hx := hret.2 (by assumption); walk_at "fin rexc")
  k_with "call ref" => (k_here; (with_reducible show wpAny _ _ (call (Value.ref 331) _) _ _ _); k_dflt (refine' use_dop ?zqk1 ?zqk2 ?zqk3 ?zqk4 ?zqk5 ?zqkC ?zqkK ?zqkm0 ?zqkm1 ?zqkp0 ?zqkd ?zqku ?_; (case zqk1 => k_asm); (case zqk2 => k_asm); (case zqk3 => k_asm); (case zqk4 => k_asm); (case zqk5 => k_asm); (case zqkC => assumption); (case zqkK => first | exact rfl | assumption); (case zqkm0 => k_mem); (case zqkm1 => k_mem); (case zqkp0 => assumption); (case zqkd => ktr_room); (case zqku => ktr_units)); (refine ⟨?_, ?_⟩ <;> intros); (all_goals (try k_sweep)); (all_goals (try dsimp only)); (all_goals (try k_fold)))
  k_with "binaryOp Pow int int" => (k_here; (with_reducible refine pow_int ?zqkb1 ?zqkb2 ?_); (case zqkb1 => omega); (case zqkb2 => exact tiny_pow (by assumption) (by omega) (by omega)))
  k_with "get tup" => first | exact News.get (by k_asm) (by k_mem) | exact Fr.keep (by k_asm) _ _ ((by k_asm : Frag.In _ _) _ _ (by k_is))
  k_with "compareOp Eq ref ref" => (k_here; (with_reducible show wpAny _ _ (compareOp CmpOp.Eq (Value.ref _) (Value.ref _)) _ _ _); k_dflt (refine' eq_tt ?zqf1 ?zqf2 ?zqf3 ?_; (case zqf1 => walk_at "get tup"); (case zqf2 => walk_at "get tup"); (case zqf3 => ktr_units); k_whole))
  k_with "compareOp NotEq ref ref" => (k_here; (with_reducible show wpAny _ _ (compareOp CmpOp.NotEq (Value.ref _) (Value.ref _)) _ _ _); k_dflt (refine' ne_tt ?zqf1 ?zqf2 ?zqf3 ?_; (case zqf1 => walk_at "get tup"); (case zqf2 => walk_at "get tup"); (case zqf3 => ktr_units); k_whole))
  k_with "ne zero" => first | omega | exact Int.pow_ne_zero (by omega)
  have whole_ok : ∀ (w : World) (mean : ExcName → Option Value) (mg mb : Str → Option Value), WholeOK (Mine.top.heap_1_39 w.params) Mine.top.view_1_40 w mean mg mb := by as_aux_lemma =>
    clear gcd_ok isna_ok neg_ok add_ok sub_ok mul_ok div_ok isfin_ok floor_ok idiv_ok remd_ok most_ok within_ok dop_ok
    intro w mean mg mb
    have ok_make := make_ok w mean mg mb
    have ok_refusal := refusal_ok w mean mg mb
    clear make_ok refusal_ok
    intro news X p q n t u c tn hm0 hp0 hp1 hp2 hp3 dp un gd cn cs a ccd cl outer A₀ base h₀ L m s Q E kB kF kX kN kT hk hd hu hret
    refine wpAny_call ?_
    k_dflt cell_enter
    k_steps
    all_goals first
      | (have hx := hret.2 (fun hc => by simp only [absI] at hc; omega); walk_at "fin rexc"; done)
      | (have hx := hret.1 (by simp only [absI]; omega); walk_at "fin tup" <;> first | exact pwA_pos (by omega) | exact pwB_pos (by omega) | exact pwA_neg (by omega) | exact pwB_neg (by omega))
  k_with "call ref" => (k_here; (with_reducible show wpAny _ _ (call (Value.ref 190) _) _ _ _); k_dflt (refine' use_whole ?zqk1 ?zqk2 ?zqk3 ?zqk4 ?zqk5 ?zqkC ?zqkK ?zqkm0 ?zqkp0 ?zqkp1 ?zqkp2 ?zqkp3 ?zqkd ?zqku ?_; (case zqk1 => k_asm); (case zqk2 => k_asm); (case zqk3 => k_asm); (case zqk4 => k_asm); (case zqk5 => k_asm); (case zqkC => assumption); (case zqkK => first | exact rfl | assumption); (case zqkm0 => k_mem); (case zqkp0 => omega); (case zqkp1 => omega); (case zqkp2 => assumption); (case zqkp3 => assumption); (case zqkd => ktr_room); (case zqku => ktr_units)); (refine ⟨?_, ?_⟩ <;> intros); (all_goals (try k_sweep)); (all_goals (try dsimp only)); (all_goals (try k_fold)))
  k_with "fin ref" => (refine' ret_ref ?zqh ?zqF ?zqN ?zqhn; (case zqh => assumption); (case zqF => k_asm); (case zqN => k_asm); (case zqhn => (intro x hx; repeat (first | exact hx | refine List.mem_cons_of_mem _ ?_))))
  k_with "fin none" => (refine' ret_none ?zqh ?zqF ?zqN ?zqhn; (case zqh => assumption); (case zqF => k_asm); (case zqN => k_asm); (case zqhn => (intro x hx; repeat (first | exact hx | refine List.mem_cons_of_mem _ ?_))))
  have withinone_ok : ∀ (w : World) (mean : ExcName → Option Value) (mg mb : Str → Option Value), WithinoneOK (Mine.top.heap_1_39 w.params) Mine.top.view_1_40 w mean mg mb := by as_aux_lemma =>
    clear gcd_ok make_ok isna_ok neg_ok add_ok sub_ok mul_ok div_ok isfin_ok floor_ok idiv_ok remd_ok within_ok dop_ok whole_ok
    intro w mean mg mb
    have ok_most := most_ok w mean mg mb
    have ok_refusal := refusal_ok w mean mg mb
    clear most_ok refusal_ok
    intro news  dp un gd cn cs a ccd cl outer A₀ base h₀ L m s Q E kB kF kX kN kT hk hd hu hret
    have hT5 := t5_big
    refine wpAny_call ?_
    k_dflt cell_enter
    k_steps
    all_goals first
      | (walk_at "fin ref"; done)
      | (exfalso; omega)
  k_with "call ref" => (k_here; (with_reducible show wpAny _ _ (call (Value.ref 324) _) _ _ _); k_dflt (refine' use_withinone ?zqk1 ?zqk2 ?zqk3 ?zqk4 ?zqk5 ?zqkC ?zqkK ?zqkd ?zqku ?_; (case zqk1 => k_asm); (case zqk2 => k_asm); (case zqk3 => k_asm); (case zqk4 => k_asm); (case zqk5 => k_asm); (case zqkC => assumption); (case zqkK => first | exact rfl | assumption); (case zqkd => ktr_room); (case zqku => ktr_units)); intro h9 tk9 F9 N9; (all_goals (try k_sweep)); (all_goals (try dsimp only)); (all_goals (try k_fold)))
  have powone_ok : ∀ (w : World) (mean : ExcName → Option Value) (mg mb : Str → Option Value), PowoneOK (Mine.top.heap_1_39 w.params) Mine.top.view_1_40 w mean mg mb := by as_aux_lemma =>
    clear gcd_ok make_ok isna_ok neg_ok add_ok sub_ok mul_ok div_ok isfin_ok floor_ok idiv_ok remd_ok refusal_ok most_ok within_ok dop_ok whole_ok withinone_ok
    intro w mean mg mb
    intro news X Y p q n t u t' u' c c' hm0 hm1 hp0 dp un gd cn cs a ccd cl outer A₀ base h₀ L m s Q E kB kF kX kN kT hk hd hu hret
    refine wpAny_call ?_
    k_dflt cell_enter
    k_steps
    all_goals first
      | (walk_at "fin ref"; done)
      | (exfalso; omega)
  k_with "call ref" => (k_here; (with_reducible show wpAny _ _ (call (Value.ref 169) _) _ _ _); k_dflt (refine' use_powone ?zqk1 ?zqk2 ?zqk3 ?zqk4 ?zqk5 ?zqkC ?zqkK ?zqkm0 ?zqkm1 ?zqkp0 ?zqkd ?zqku ?_; (case zqk1 => k_asm); (case zqk2 => k_asm); (case zqk3 => k_asm); (case zqk4 => k_asm); (case zqk5 => k_asm); (case zqkC => assumption); (case zqkK => first | exact rfl | assumption); (case zqkm0 => k_mem); (case zqkm1 => k_mem); (case zqkp0 => omega); (case zqkd => ktr_room); (case zqku => ktr_units)); intro h9 tk9 F9 N9; (all_goals (try k_sweep)); (all_goals (try dsimp only)); (all_goals (try k_fold)))
  have powgen_ok : ∀ (w : World) (mean : ExcName → Option Value) (mg mb : Str → Option Value), PowgenOK (Mine.top.heap_1_39 w.params) Mine.top.view_1_40 w mean mg mb := by as_aux_lemma =>
    clear gcd_ok make_ok neg_ok add_ok sub_ok mul_ok div_ok isfin_ok floor_ok idiv_ok remd_ok refusal_ok most_ok within_ok dop_ok withinone_ok powone_ok
    intro w mean mg mb
    have ok_isna := isna_ok w mean mg mb
    have ok_whole := whole_ok w mean mg mb
    clear isna_ok whole_ok
    intro news X Y p q n t u t' u' c c' hm0 hm1 hp0 hp1 hp2 hp3 dp un gd cn cs a ccd cl outer A₀ base h₀ L m s Q E kB kF kX kN kT hk hd hu hret
    refine wpAny_call ?_
    k_dflt cell_enter
    k_steps
    all_goals first
      | (have hx := hret.2 (by assumption); walk_at "fin rexc"; done)
      | (have hx := hret.1 (by assumption); walk_at "fin tup" <;> rfl)
      | (exfalso; omega)
  k_with "call ref" => (k_here; (with_reducible show wpAny _ _ (call (Value.ref 169) _) _ _ _); k_dflt (refine' use_powgen ?zqk1 ?zqk2 ?zqk3 ?zqk4 ?zqk5 ?zqkC ?zqkK ?zqkm0 ?zqkm1 ?zqkp0 ?zqkp1 ?zqkp2 ?zqkp3 ?zqkd ?zqku ?_; (case zqk1 => k_asm); (case zqk2 => k_asm); (case zqk3 => k_asm); (case zqk4 => k_asm); (case zqk5 => k_asm); (case zqkC => assumption); (case zqkK => first | exact rfl | assumption); (case zqkm0 => k_mem); (case zqkm1 => k_mem); (case zqkp0 => omega); (case zqkp1 => omega); (case zqkp2 => assumption); (case zqkp3 => assumption); (case zqkd => ktr_room); (case zqku => ktr_units)); (refine ⟨?_, ?_⟩ <;> intros); (all_goals (try k_sweep)); (all_goals (try dsimp only)); (all_goals (try k_fold)))
  have dpone_ok : ∀ (w : World) (mean : ExcName → Option Value) (mg mb : Str → Option Value), DponeOK (Mine.top.heap_1_39 w.params) Mine.top.view_1_40 w mean mg mb := by as_aux_lemma =>
    clear gcd_ok make_ok isna_ok neg_ok add_ok sub_ok mul_ok div_ok isfin_ok floor_ok idiv_ok remd_ok refusal_ok most_ok within_ok dop_ok whole_ok powgen_ok
    intro w mean mg mb
    have ok_powone := powone_ok w mean mg mb
    have ok_withinone := withinone_ok w mean mg mb
    clear powone_ok withinone_ok
    intro news ts X Y p q n t u t' u' c c' hm0 hm1 hp0 dp un gd cn cs a ccd cl outer A₀ base h₀ L m s Q E kB kF kX kN kT hk hd hu hret
    refine wpAny_call ?_
    k_dflt cell_enter
    k_steps
    all_goals (walk_at "fin ref"; done)
  k_with "call ref" => (k_here; (with_reducible show wpAny _ _ (call (Value.ref 331) _) _ _ _); k_dflt (refine' use_dpone ?zqk1 ?zqk2 ?zqk3 ?zqk4 ?zqk5 ?zqkC ?zqkK ?zqkm0 ?zqkm1 ?zqkp0 ?zqkd ?zqku ?_; (case zqk1 => k_asm); (case zqk2 => k_asm); (case zqk3 => k_asm); (case zqk4 => k_asm); (case zqk5 => k_asm); (case zqkC => assumption); (case zqkK => first | exact rfl | assumption); (case zqkm0 => k_mem); (case zqkm1 => k_mem); (case zqkp0 => omega); (case zqkd => ktr_room); (case zqku => ktr_units)); intro h9 tk9 F9 N9; (all_goals (try k_sweep)); (all_goals (try dsimp only)); (all_goals (try k_fold)))
  have dpgen_ok : ∀ (w : World) (mean : ExcName → Option Value) (mg mb : Str → Option Value), DpgenOK (Mine.top.heap_1_39 w.params) Mine.top.view_1_40 w mean mg mb := by as_aux_lemma =>
    clear gcd_ok make_ok isna_ok neg_ok add_ok sub_ok mul_ok div_ok isfin_ok floor_ok idiv_ok remd_ok refusal_ok most_ok dop_ok whole_ok withinone_ok powone_ok dpone_ok
    intro w mean mg mb
    have ok_powgen := powgen_ok w mean mg mb
    have ok_within := within_ok w mean mg mb
    clear powgen_ok within_ok
    intro news ts X Y p q n t u t' u' c c' hm0 hm1 hp0 hp1 hp2 hp3 dp un gd cn cs a ccd cl outer A₀ base h₀ L m s Q E kB kF kX kN kT hk hd hu hret
    refine wpAny_call ?_
    k_dflt cell_enter
    k_steps
    all_goals first
      | (have hx := hret.1 ⟨by assumption, by assumption⟩; walk_at "fin tup" <;> rfl)
      | (have hx := hret.2 (fun hc => absurd hc.1 (by assumption)); walk_at "fin rexc"; done)
      | (have hx := hret.2 (fun hc => absurd hc.2 (by assumption)); walk_at "fin rexc"; done)
  k_with "call ref" => (k_here; (with_reducible show wpAny _ _ (call (Value.ref 331) _) _ _ _); k_dflt (refine' use_dpgen ?zqk1 ?zqk2 ?zqk3 ?zqk4 ?zqk5 ?zqkC ?zqkK ?zqkm0 ?zqkm1 ?zqkp0 ?zqkp1 ?zqkp2 ?zqkp3 ?zqkd ?zqku ?_; (case zqk1 => k_asm); (case zqk2 => k_asm); (case zqk3 => k_asm); (case zqk4 => k_asm); (case zqk5 => k_asm); (case zqkC => assumption); (case zqkK => first | exact rfl | assumption); (case zqkm0 => k_mem); (case zqkm1 => k_mem); (case zqkp0 => omega); (case zqkp1 => omega); (case zqkp2 => assumption); (case zqkp3 => assumption); (case zqkd => ktr_room); (case zqku => ktr_units)); (refine ⟨?_, ?_⟩ <;> intros); (all_goals (try k_sweep)); (all_goals (try dsimp only)); (all_goals (try k_fold)))
  have nonea_ok : ∀ (w : World) (mean : ExcName → Option Value) (mg mb : Str → Option Value), NoneaOK (Mine.top.heap_1_39 w.params) Mine.top.view_1_40 w mean mg mb := by as_aux_lemma =>
    clear gcd_ok make_ok isna_ok neg_ok add_ok sub_ok mul_ok div_ok isfin_ok floor_ok idiv_ok remd_ok refusal_ok most_ok within_ok dop_ok whole_ok withinone_ok powone_ok powgen_ok dpone_ok dpgen_ok
    intro w mean mg mb
    intro news ts Y dp un gd cn cs a ccd cl outer A₀ base h₀ L m s Q E kB kF kX kN kT hk hd hu hret
    refine wpAny_call ?_
    k_dflt cell_enter
    k_steps
    all_goals (walk_at "fin none"; done)
  k_with "call ref" => (k_here; (with_reducible show wpAny _ _ (call (Value.ref 331) _) _ _ _); k_dflt (refine' use_nonea ?zqk1 ?zqk2 ?zqk3 ?zqk4 ?zqk5 ?zqkC ?zqkK ?zqkd ?zqku ?_; (case zqk1 => k_asm); (case zqk2 => k_asm); (case zqk3 => k_asm); (case zqk4 => k_asm); (case zqk5 => k_asm); (case zqkC => assumption); (case zqkK => first | exact rfl | assumption); (case zqkd => ktr_room); (case zqku => ktr_units)); intro h9 tk9 F9 N9; (all_goals (try k_sweep)); (all_goals (try dsimp only)); (all_goals (try k_fold)))
  have nonem_ok : ∀ (w : World) (mean : ExcName → Option Value) (mg mb : Str → Option Value), NonemOK (Mine.top.heap_1_39 w.params) Mine.top.view_1_40 w mean mg mb := by as_aux_lemma =>
    clear gcd_ok make_ok neg_ok add_ok sub_ok mul_ok div_ok isfin_ok floor_ok idiv_ok remd_ok refusal_ok most_ok within_ok dop_ok whole_ok withinone_ok powone_ok powgen_ok dpone_ok dpgen_ok nonea_ok
    intro w mean mg mb
    have ok_isna := isna_ok w mean mg mb
    clear isna_ok
    intro news ts X p q t u c hm0 hp0 dp un gd cn cs a ccd cl outer A₀ base h₀ L m s Q E kB kF kX kN kT hk hd hu hret
    refine wpAny_call ?_
    k_dflt cell_enter
    k_steps
    all_goals (walk_at "fin none"; done)
  k_with "call ref" => (k_here; (with_reducible show wpAny _ _ (call (Value.ref 331) _) _ _ _); k_dflt (refine' use_nonem ?zqk1 ?zqk2 ?zqk3 ?zqk4 ?zqk5 ?zqkC ?zqkK ?zqkm0 ?zqkp0 ?zqkd ?zqku ?_; (case zqk1 => k_asm); (case zqk2 => k_asm); (case zqk3 => k_asm); (case zqk4 => k_asm); (case zqk5 => k_asm); (case zqkC => assumption); (case zqkK => first | exact rfl | assumption); (case zqkm0 => k_mem); (case zqkp0 => omega); (case zqkd => ktr_room); (case zqku => ktr_units)); intro h9 tk9 F9 N9; (all_goals (try k_sweep)); (all_goals (try dsimp only)); (all_goals (try k_fold)))
  have infa_ok : ∀ (w : World) (mean : ExcName → Option Value) (mg mb : Str → Option Value), InfaOK (Mine.top.heap_1_39 w.params) Mine.top.view_1_40 w mean mg mb := by as_aux_lemma =>
    clear gcd_ok make_ok neg_ok add_ok sub_ok mul_ok div_ok isfin_ok floor_ok idiv_ok remd_ok refusal_ok most_ok dop_ok whole_ok withinone_ok powone_ok powgen_ok dpone_ok dpgen_ok nonea_ok nonem_ok
    intro w mean mg mb
    have ok_isna := isna_ok w mean mg mb
    have ok_within := within_ok w mean mg mb
    clear isna_ok within_ok
    intro news ts X Y p q t u t' u' c c' hm0 hm1 hp0 dp un gd cn cs a ccd cl outer A₀ base h₀ L m s Q E kB kF kX kN kT hk hd hu hret
    have hT5 := t5_big
    have hok : absI 1 ≤ T5 ∧ 0 ≤ T5 := ⟨by simp only [absI]; omega, by omega⟩
    refine wpAny_call ?_
    k_dflt cell_enter
    k_steps
    all_goals first
      | (exfalso; exact absurd hok (by assumption))
      | (walk_at "fin ref"; done)
  k_with "call ref" => (k_here; (with_reducible show wpAny _ _ (call (Value.ref 331) _) _ _ _); k_dflt (refine' use_infa ?zqk1 ?zqk2 ?zqk3 ?zqk4 ?zqk5 ?zqkC ?zqkK ?zqkm0 ?zqkm1 ?zqkp0 ?zqkd ?zqku ?_; (case zqk1 => k_asm); (case zqk2 => k_asm); (case zqk3 => k_asm); (case zqk4 => k_asm); (case zqk5 => k_asm); (case zqkC => assumption); (case zqkK => first | exact rfl | assumption); (case zqkm0 => k_mem); (case zqkm1 => k_mem); (case zqkp0 => omega); (case zqkd => ktr_room); (case zqku => ktr_units)); intro h9 tk9 F9 N9; (all_goals (try k_sweep)); (all_goals (try dsimp only)); (all_goals (try k_fold)))
  have infs_ok : ∀ (w : World) (mean : ExcName → Option Value) (mg mb : Str → Option Value), InfsOK (Mine.top.heap_1_39 w.params) Mine.top.view_1_40 w mean mg mb := by as_aux_lemma =>
    clear gcd_ok make_ok add_ok sub_ok mul_ok div_ok isfin_ok floor_ok idiv_ok remd_ok refusal_ok most_ok dop_ok whole_ok withinone_ok powone_ok powgen_ok dpone_ok dpgen_ok nonea_ok nonem_ok infa_ok
    intro w mean mg mb
    have ok_isna := isna_ok w mean mg mb
    have ok_neg := neg_ok w mean mg mb
    have ok_within := within_ok w mean mg mb
    clear isna_ok neg_ok within_ok
    intro news ts X Y p q t u t' u' c c' hm0 hm1 hp0 dp un gd cn cs a ccd cl outer A₀ base h₀ L m s Q E kB kF kX kN kT hk hd hu hret
    have hT5 := t5_big
    have hok : absI (0 - 1) ≤ T5 ∧ 0 ≤ T5 := ⟨by simp only [absI]; omega, by omega⟩
    refine wpAny_call ?_
    k_dflt cell_enter
    k_steps
    all_goals first
      | (exfalso; exact absurd hok (by assumption))
      | (walk_at "fin tup" <;> rfl)
  k_with "call ref" => (k_here; (with_reducible show wpAny _ _ (call (Value.ref 331) _) _ _ _); k_dflt (refine' use_infs ?zqk1 ?zqk2 ?zqk3 ?zqk4 ?zqk5 ?zqkC ?zqkK ?zqkm0 ?zqkm1 ?zqkp0 ?zqkd ?zqku ?_; (case zqk1 => k_asm); (case zqk2 => k_asm); (case zqk3 => k_asm); (case zqk4 => k_asm); (case zqk5 => k_asm); (case zqkC => assumption); (case zqkK => first | exact rfl | assumption); (case zqkm0 => k_mem); (case zqkm1 => k_mem); (case zqkp0 => omega); (case zqkd => ktr_room); (case zqku => ktr_units)); intro D9 t9 u9 c9 h9 tk9 F9 N9 l9; (try simp only [AllLt, and_true] at l9); (all_goals (try k_sweep)); (all_goals (try dsimp only)); (all_goals (try k_fold)))
  k_with "fin str" => (refine' ret_str ?zqh ?zqF ?zqN ?zqhn; (case zqh => assumption); (case zqF => k_asm); (case zqN => k_asm); (case zqhn => (intro x hx; repeat (first | exact hx | refine List.mem_cons_of_mem _ ?_))))
  k_with "enter try" => (k_dflt (refine' code_defS0 ?zqk1 ?zqk2 ?zqk3 ?zqk4 ?zqk5 ?zqkA ?zqk6 ?zqk7 ?zqk8 ?zqk9 ?zqkB ?_ ?zqcK ?zqc2 ?zqc3 ?zqc4 ?zqc5; (case zqkA => exact rfl); (case zqk2 => k_asm); (case zqk1 => k_asm); (case zqk3 => k_asm); (case zqk4 => k_asm); (case zqk5 => k_asm); (case zqk6 => k_is); (case zqk7 => k_is); (case zqk8 => k_room); (case zqk9 => exact BindsTo.of_eq rfl); (case zqkB => exact locs rfl); (case zqcK => assumption); (case zqc2 => exact rfl); (case zqc3 => exact rfl); (case zqc4 => exact rfl); (case zqc5 => decide); k_whole); intro g' L' h' FG' F' N' B' X' T' D'; (try dsimp only); (try k_lift B'); (try k_fold))
  k_with "noteFrame ref" => (k_here; k_dflt (refine' caught_DS ?zqR ?zqF ?zqK ?zqU ?zqXB ?zqTB ?zqD ?zqT0 ?zqex ?zqq ?_; (case zqR => assumption); (case zqF => assumption); (case zqK => assumption); (case zqU => assumption); (case zqXB => assumption); (case zqTB => assumption); (case zqD => assumption); (case zqT0 => exact KtsTurn.refl); (case zqex => k_is); (case zqq => kernel_rfl); k_whole); intro h' g' oe tk' T' F' N' c1 c2 c3 K' X' P' D'; (try k_lift K'); (try k_sweep))
  k_with "getAttr ref" => (k_here; (with_reducible show wpAny _ _ (getAttr (Value.ref _) (Str.ofString "message") _) _ _ _); k_dflt (refine' get_msg ?zqk1 ?zqk2 ?zqk3 ?zqk4 ?zqk5 ?zqk6 ?zqk7 ?zqk8 ?zqk9 ?zqk10 ?zqk11 ?zqk12 ?zqk13 ?_; (case zqk1 => k_asm); (case zqk2 => k_asm); (case zqk3 => k_asm); (case zqk4 => k_mem); (case zqk5 => assumption); (case zqk6 => k_mem); (case zqk7 => assumption); (case zqk8 => assumption); (case zqk9 => k_is); (case zqk10 => k_is); (case zqk11 => kernel_rfl); (case zqk12 => k_is); (case zqk13 => k_is); k_whole))
  have askone_ok : ∀ (w : World) (mean : ExcName → Option Value) (mg mb : Str → Option Value), AskoneOK (Mine.top.heap_1_39 w.params) Mine.top.view_1_40 w mean mg mb := by as_aux_lemma =>
    clear gcd_ok make_ok isna_ok neg_ok add_ok sub_ok mul_ok div_ok isfin_ok floor_ok idiv_ok remd_ok refusal_ok most_ok within_ok dop_ok whole_ok withinone_ok powone_ok powgen_ok dpgen_ok nonea_ok nonem_ok infa_ok infs_ok
    intro w mean mg mb
    have ok_dpone := dpone_ok w mean mg mb
    clear dpone_ok
    intro news ts X Y p q n t u t' u' c c' hm0 hm1 hp0 dp un gd cn cs a ccd A₀ base h₀ L m s Q E kB kF kX kN kT kXB kTB hk hd hu hret
    refine wpAny_call ?_
    walk_at "enter try"
    k_steps
    all_goals (walk_at "fin ref"; done)
  k_with "call ref" => (k_here; (with_reducible show wpAny _ _ (call (Value.ref 418) _) _ _ _); k_dflt (refine' use_askone ?zqk1 ?zqk2 ?zqk3 ?zqk4 ?zqk5 ?zqk6 ?zqk7 ?zqkC ?zqkK ?zqkm0 ?zqkm1 ?zqkp0 ?zqkd ?zqku ?_; (case zqk1 => k_asm); (case zqk2 => k_asm); (case zqk3 => k_asm); (case zqk4 => k_asm); (case zqk5 => k_asm); (case zqk6 => k_asm); (case zqk7 => k_asm); (case zqkC => assumption); (case zqkK => first | exact rfl | assumption); (case zqkm0 => k_mem); (case zqkm1 => k_mem); (case zqkp0 => omega); (case zqkd => ktr_room); (case zqku => ktr_units)); intro h9 tk9 F9 N9; (all_goals (try k_sweep)); (all_goals (try dsimp only)); (all_goals (try k_fold)))
  have askgen_ok : ∀ (w : World) (mean : ExcName → Option Value) (mg mb : Str → Option Value), AskgenOK (Mine.top.heap_1_39 w.params) Mine.top.view_1_40 w mean mg mb := by as_aux_lemma =>
    clear gcd_ok make_ok isna_ok neg_ok add_ok sub_ok mul_ok div_ok isfin_ok floor_ok idiv_ok remd_ok refusal_ok most_ok within_ok dop_ok whole_ok withinone_ok powone_ok powgen_ok dpone_ok nonea_ok nonem_ok infa_ok infs_ok askone_ok
    intro w mean mg mb
    have ok_dpgen := dpgen_ok w mean mg mb
    clear dpgen_ok
    intro news ts X Y p q n t u t' u' c c' hm0 hm1 hp0 hp1 hp2 hp3 dp un gd cn cs a ccd A₀ base h₀ L m s Q E kB kF kX kN kT kXB kTB hk hd hu hret
    refine wpAny_call ?_
    walk_at "enter try"
    k_steps
    all_goals first
      | (have hx := hret.1 (by assumption); walk_at "fin tup" <;> rfl)
      | (have hx := hret.2 (by assumption); walk_at "fin str"; done)
  k_with "call ref" => (k_here; (with_reducible show wpAny _ _ (call (Value.ref 418) _) _ _ _); k_dflt (refine' use_askgen ?zqk1 ?zqk2 ?zqk3 ?zqk4 ?zqk5 ?zqk6 ?zqk7 ?zqkC ?zqkK ?zqkm0 ?zqkm1 ?zqkp0 ?zqkp1 ?zqkp2 ?zqkp3 ?zqkd ?zqku ?_; (case zqk1 => k_asm); (case zqk2 => k_asm); (case zqk3 => k_asm); (case zqk4 => k_asm); (case zqk5 => k_asm); (case zqk6 => k_asm); (case zqk7 => k_asm); (case zqkC => assumption); (case zqkK => first | exact rfl | assumption); (case zqkm0 => k_mem); (case zqkm1 => k_mem); (case zqkp0 => omega); (case zqkp1 => omega); (case zqkp2 => assumption); (case zqkp3 => assumption); (case zqkd => ktr_room); (case zqku => ktr_units)); (refine ⟨?_, ?_⟩ <;> intros); (all_goals (try k_sweep)); (all_goals (try dsimp only)); (all_goals (try k_fold)))
  have askop_ok : ∀ (w : World) (mean : ExcName → Option Value) (mg mb : Str → Option Value), AskopOK (Mine.top.heap_1_39 w.params) Mine.top.view_1_40 w mean mg mb := by as_aux_lemma =>
    clear gcd_ok make_ok isna_ok neg_ok add_ok sub_ok mul_ok div_ok isfin_ok floor_ok idiv_ok remd_ok refusal_ok most_ok within_ok whole_ok withinone_ok powone_ok powgen_ok dpone_ok dpgen_ok nonea_ok nonem_ok infa_ok infs_ok askone_ok askgen_ok
    intro w mean mg mb
    have ok_dop := dop_ok w mean mg mb
    clear dop_ok
    intro news o ts X Y p q r v t u t' u' c c' hm0 hm1 hp0 dp un gd cn cs a ccd A₀ base h₀ L m s Q E kB kF kX kN kT kXB kTB hk hd hu hret
    refine wpAny_call ?_
    walk_at "enter try"
    k_steps
    all_goals first
      | (have hx := hret.1 (by assumption); walk_at "fin tup" <;> rfl)
      | (have hx := hret.2 (by assumption); walk_at "fin str"; done)
  k_with "call ref" => (k_here; (with_reducible show wpAny _ _ (call (Value.ref 418) _) _ _ _); k_dflt (refine' use_askop ?zqk1 ?zqk2 ?zqk3 ?zqk4 ?zqk5 ?zqk6 ?zqk7 ?zqkC ?zqkK ?zqkm0 ?zqkm1 ?zqkp0 ?zqkd ?zqku ?_; (case zqk1 => k_asm); (case zqk2 => k_asm); (case zqk3 => k_asm); (case zqk4 => k_asm); (case zqk5 => k_asm); (case zqk6 => k_asm); (case zqk7 => k_asm); (case zqkC => assumption); (case zqkK => first | exact rfl | assumption); (case zqkm0 => k_mem); (case zqkm1 => k_mem); (case zqkp0 => assumption); (case zqkd => ktr_room); (case zqku => ktr_units)); (refine ⟨?_, ?_⟩ <;> intros); (all_goals (try k_sweep)); (all_goals (try dsimp only)); (all_goals (try k_fold)))
  k_with "pick" => first | exact Pick.head | exact Pick.tail (by walk_at "pick")
  k_with "truthy ref" => (k_here; (with_reducible show wpAny _ _ (truthy (Value.ref _)) _ _ _); k_dflt (refine' truthy_lis ?zqN ?zqm ?zqz ?_; (case zqN => k_asm); (case zqm => k_mem); (case zqz => assumption); k_whole))
  have bead_ok : ∀ (w : World) (mean : ExcName → Option Value) (mg mb : Str → Option Value), BeadOK (Mine.top.heap_1_39 w.params) Mine.top.view_1_40 w mean mg mb := by as_aux_lemma =>
    clear gcd_ok make_ok isna_ok neg_ok add_ok sub_ok mul_ok div_ok isfin_ok floor_ok idiv_ok remd_ok refusal_ok most_ok within_ok dop_ok whole_ok withinone_ok powone_ok powgen_ok dpone_ok dpgen_ok nonea_ok nonem_ok infa_ok infs_ok askone_ok askgen_ok askop_ok
    intro w mean mg mb
    intro news l us ns n most tm hp0 hp1 hp2 hp3 dp un gd cn cs a ccd cl outer A₀ base h₀ L m s Q E kB kF kX kN kT hk hd hu hret
    have hz : us.length ≤ sizeLine := by rw [sizeLine_eq]; omega
    by_cases hne : 0 < us.length
    all_goals refine wpAny_call ?_
    all_goals k_dflt cell_enter
    all_goals k_steps
    all_goals first
      | (refine hret _ _ _ _ _ _ _ ?zqa ?zqb (by assumption) ?zqc (by k_asm) (by k_asm)
         case zqa => exact Int.fmod_nonneg_of_pos _ hp3.1
         case zqb => exact Int.fmod_lt_of_pos _ hp3.1
         case zqc => (rw [List.length_dropLast]; omega))
      | (refine hret 0 _ us ns n _ _ (by omega) (by omega) (by assumption) (Nat.le_refl _) (by k_asm) (by k_asm))
  k_with "call ref" => (k_here; (with_reducible show wpAny _ _ (call (Value.ref 376) _) _ _ _); k_dflt (refine' use_bead ?zqk1 ?zqk2 ?zqk3 ?zqkP ?zqk4 ?zqk5 ?zqkC ?zqkK ?zqkp0 ?zqkp1 ?zqkp2 ?zqkp3 ?zqkd ?zqku ?_; (case zqk1 => k_asm); (case zqk2 => k_asm); (case zqk3 => k_asm); (case zqk4 => k_asm); (case zqkP => walk_at "pick"); (case zqk5 => k_asm); (case zqkC => assumption); (case zqkK => first | exact rfl | assumption); (case zqkp0 => k_all); (case zqkp1 => assumption); (case zqkp2 => omega); (case zqkp3 => omega); (case zqkd => ktr_room); (case zqku => ktr_units)); intro r9 t9 us9 ns9 n9 h9 tk9 a9 b9 i9 e9 F9 N9; (all_goals (try k_sweep)); (all_goals (try dsimp only)); (all_goals (try k_fold)))
  k_with "fin pow" => (refine' ret_pow ?zqh ?zqF ?zqN ?zqm1 ?zqm2 ?zqhn ?zqhl ?zqhf ?zqhk ?zqhw ?zqhi ?zqhz; (case zqh => assumption); (case zqF => k_asm); (case zqN => k_asm); (case zqm1 => k_mem); (case zqm2 => k_mem); (case zqhi => assumption); (case zqhn => (intro x hx; repeat (first | exact hx | refine List.mem_cons_of_mem _ ?_))); (case zqhl => (refine ⟨by omega, ?_⟩; first | assumption | exact And.right (by assumption) | exact And.right (And.right (by assumption)) | exact And.right (And.right (And.right (by assumption))))); (case zqhf => first | exact fig_pos (by assumption) (by assumption) | exact fig_neg (by assumption) (by assumption)); (case zqhk => first | exact hk_pos (by assumption) (by assumption) | exact hk_neg (by assumption) (by assumption)); (case zqhw => first | exact fun _ => (hgt (by assumption) (by assumption)).1 | exact bool_no (by assumption)); (case zqhz => omega))
  have power_ok : ∀ (w : World) (mean : ExcName → Option Value) (mg mb : Str → Option Value), PowerOK (Mine.top.heap_1_39 w.params) Mine.top.view_1_40 w mean mg mb := by as_aux_lemma =>
    clear gcd_ok make_ok isna_ok neg_ok add_ok sub_ok mul_ok div_ok isfin_ok floor_ok idiv_ok remd_ok refusal_ok most_ok within_ok dop_ok whole_ok withinone_ok powone_ok powgen_ok dpone_ok dpgen_ok nonea_ok nonem_ok infa_ok infs_ok askone_ok askgen_ok askop_ok
    intro w mean mg mb
    have ok_bead := bead_ok w mean mg mb
    clear bead_ok
    intro news l us ns n wf hp0 hp1 hp2 dp un gd cn cs a ccd cl outer A₀ base h₀ L m s Q E kB kF kX kN kT hk hd hu hret
    refine wpAny_call ?_
    k_dflt cell_enter
    k_steps
    all_goals walk_at "fin pow"
  k_with "call ref" => (k_here; (with_reducible show wpAny _ _ (call (Value.ref 383) _) _ _ _); k_dflt (refine' use_power ?zqk1 ?zqk2 ?zqk3 ?zqkP ?zqk4 ?zqk5 ?zqkC ?zqkK ?zqkp0 ?zqkp1 ?zqkp2 ?zqkd ?zqku ?_; (case zqk1 => k_asm); (case zqk2 => k_asm); (case zqk3 => k_asm); (case zqk4 => k_asm); (case zqkP => walk_at "pick"); (case zqk5 => k_asm); (case zqkC => assumption); (case zqkK => first | exact rfl | assumption); (case zqkp0 => k_all); (case zqkp1 => assumption); (case zqkp2 => omega); (case zqkd => ktr_room); (case zqku => ktr_units)); intro D9 f9 k9 t9 u9 c9 us9 ns9 n9 h9 tk9 a9 b9 d9 e9 i9 j9 F9 N9 l9; (try simp only [AllLt, and_true] at l9); (try simp only [Bool.and_eq_false_iff, Bool.or_eq_false_iff, decide_eq_false_iff_not, Decidable.not_not] at e9); (all_goals (try k_sweep)); (all_goals (try dsimp only)); (all_goals (try k_fold)))
  k_with "binaryOp Pow int int" => (k_here; (with_reducible refine pow_T5 ?_))
  k_with "subscriptTail" => (k_here; (with_reducible show wpAny _ _ (subscriptTail _ _ (Value.ref _) (Value.int _ _)) _ _ _); (with_unfolding_all refine' item_lis (lis_pw ?zqN ?zqm) ?zqk2 ?zqk3 ?zqk4 ?_ ?zqk6; (case zqN => k_asm); (case zqm => k_mem); (case zqk2 => decide); (case zqk3 => decide); (case zqk4 => rfl); (case zqk6 => with_unfolding_all rfl); k_whole))
  have pair_ok : ∀ (w : World) (mean : ExcName → Option Value) (mg mb : Str → Option Value), PairOK (Mine.top.heap_1_39 w.params) Mine.top.view_1_40 w mean mg mb := by as_aux_lemma =>
    clear gcd_ok make_ok isna_ok neg_ok add_ok sub_ok mul_ok div_ok isfin_ok floor_ok idiv_ok remd_ok refusal_ok most_ok within_ok dop_ok whole_ok withinone_ok powone_ok powgen_ok dpone_ok dpgen_ok nonea_ok nonem_ok infa_ok infs_ok askone_ok askgen_ok askop_ok bead_ok power_ok
    intro w mean mg mb
    intro news Z f k t u c hm0 hp0 hp1 dp un gd cn cs a ccd cl outer A₀ base h₀ L m s Q E kB kF kX kN kT hk hd hu hret
    have ht := tiny10
    have hm : IntMulOk f (10 ^ k.toNat) := IntMulOk.of_le (bits_fig hp0) (bits_ten _) (by omega)
    refine wpAny_call ?_
    k_dflt cell_enter
    k_steps
    all_goals (walk_at "fin tup" <;> first | exact prA_neg (by assumption) | exact prB_neg (by assumption) | exact prA_pos (by omega) | exact prB_pos (by omega))
  k_with "call ref" => (k_here; (with_reducible show wpAny _ _ (call (Value.ref 390) _) _ _ _); k_dflt (refine' use_pair ?zqk1 ?zqk2 ?zqk3 ?zqk4 ?zqk5 ?zqkC ?zqkK ?zqkm0 ?zqkp0 ?zqkp1 ?zqkd ?zqku ?_; (case zqk1 => k_asm); (case zqk2 => k_asm); (case zqk3 => k_asm); (case zqk4 => k_asm); (case zqk5 => k_asm); (case zqkC => assumption); (case zqkK => first | exact rfl | assumption); (case zqkm0 => k_mem); (case zqkp0 => assumption); (case zqkp1 => omega); (case zqkd => ktr_room); (case zqku => ktr_units)); intro D9 t9 u9 c9 h9 tk9 F9 N9 l9; (try simp only [AllLt, and_true] at l9); (all_goals (try k_sweep)); (all_goals (try dsimp only)); (all_goals (try k_fold)))
  have bounded_ok : ∀ (w : World) (mean : ExcName → Option Value) (mg mb : Str → Option Value), BoundedOK (Mine.top.heap_1_39 w.params) Mine.top.view_1_40 w mean mg mb := by as_aux_lemma =>
    clear gcd_ok make_ok isna_ok neg_ok add_ok sub_ok mul_ok div_ok isfin_ok floor_ok idiv_ok remd_ok refusal_ok most_ok within_ok dop_ok whole_ok withinone_ok powone_ok powgen_ok dpone_ok dpgen_ok nonea_ok nonem_ok infa_ok infs_ok askone_ok askgen_ok askop_ok bead_ok power_ok pair_ok
    intro w mean mg mb
    intro news ua lb t u dp un gd cn cs a ccd cl outer A₀ base h₀ L m s Q E kB kF kX kN kT hk hd hu hret
    have hT5 := t5_big
    refine wpAny_call ?_
    k_dflt cell_enter
    k_steps
    all_goals first
      | (have hx := hret.1 ⟨by simp only [absI]; omega, by omega⟩; walk_at "fin tup" <;> rfl)
      | (have hx := hret.2 (fun hc => by simp only [absI] at hc; omega); walk_at "fin str"; done)
  k_with "call ref" => (k_here; (with_reducible show wpAny _ _ (call (Value.ref 397) _) _ _ _); k_dflt (refine' use_bounded ?zqk1 ?zqk2 ?zqk3 ?zqk4 ?zqk5 ?zqkC ?zqkK ?zqkd ?zqku ?_; (case zqk1 => k_asm); (case zqk2 => k_asm); (case zqk3 => k_asm); (case zqk4 => k_asm); (case zqk5 => k_asm); (case zqkC => assumption); (case zqkK => first | exact rfl | assumption); (case zqkd => ktr_room); (case zqku => ktr_units)); (refine ⟨?_, ?_⟩ <;> intros); (all_goals (try k_sweep)); (all_goals (try dsimp only)); (all_goals (try k_fold)))
  k_with "pyIter ref" => (k_here; (with_reducible show wpAny _ _ (pyIter (Value.ref _)) (fun it s₂ => LoopAtV _ _ _ _ _ _ _ _ _ it s₂) _ _); (with_unfolding_all refine' loop_ok ?zqk1 ?zqk2 ?zqk3 ?zqk4 ?zqk5 ?zqk6 ?zqk7 ?_ ?_; (case zqk1 => rfl); (case zqk2 => k_asm); (case zqk3 => k_asm); (case zqk4 => k_mem); (case zqk5 => decide); (case zqk6 => rfl); (case zqk7 => rfl); k_whole))
  k_with "mul ok" => exact mul_q (by assumption) (by omega)
  k_with "eval Name" => (k_here; k_dflt (refine' ld ?zqk1 ?zqk2 ?_; (case zqk1 => k_asm); (case zqk2 => first | exact rfl | assumption); k_whole))
  k_with "fin turn" => (refine' turn_end ?zqh ?zqe ?zqF ?zqN ?zqhA ?zqhB ?zqhO; (case zqh => assumption); (case zqF => k_asm); (case zqN => k_asm); (case zqhA => first | exact rfl | assumption); (case zqhB => first | exact rfl | assumption); (case zqe => first | exact if_pos ⟨by assumption, by assumption⟩ | exact if_neg (fun hc => absurd hc.1 (by assumption)) | exact if_neg (fun hc => absurd hc.2 (by assumption))); (case zqhO => first | exact fun _ _ _ => rfl | (intro y y1 y2; exact (if_neg y2).trans (if_neg y1))))
  have quot_ok : ∀ (w : World) (mean : ExcName → Option Value) (mg mb : Str → Option Value), QuotOK (Mine.top.heap_1_39 w.params) Mine.top.view_1_40 w mean mg mb := by as_aux_lemma =>
    clear gcd_ok make_ok isna_ok neg_ok add_ok sub_ok mul_ok div_ok isfin_ok floor_ok idiv_ok remd_ok refusal_ok most_ok within_ok dop_ok whole_ok withinone_ok powone_ok powgen_ok dpone_ok dpgen_ok nonea_ok nonem_ok infa_ok infs_ok askone_ok askgen_ok askop_ok bead_ok power_ok pair_ok
    intro w mean mg mb
    have ok_bounded := bounded_ok w mean mg mb
    clear bounded_ok
    intro news Z Y f k g l t u t' u' c c' hm0 hm1 hp0 hp1 hp2 hp3 dp un gd cn cs a ccd cl outer A₀ base h₀ L m s Q E kB kF kX kN kT hk hd hu hret
    have ht := tiny10
    obtain ⟨hb1, hb2⟩ := bits_q3 hp0 hp1
    obtain ⟨hb3, hb4⟩ := bits_q3 (fig_flip hp0) (fig_flip hp1)
    refine wpAny_call ?_
    k_dflt cell_enter
    k_steps
    all_goals first
      | (walk_at "fin turn"; done)
      | (have hx := bnd_tup hret (by assumption) (by first | with_reducible exact quoA_neg (by assumption) | with_reducible exact quoA_pos (by first | assumption | exact Int.not_lt.mpr (by assumption))) (by first | with_reducible exact quoB_neg (by assumption) | with_reducible exact quoB_pos (by first | assumption | exact Int.not_lt.mpr (by assumption))); walk_at "fin tup" <;> rfl)
      | (have hx := bnd_str hret (by assumption) (by first | with_reducible exact quoA_neg (by assumption) | with_reducible exact quoA_pos (by first | assumption | exact Int.not_lt.mpr (by assumption))) (by first | with_reducible exact quoB_neg (by assumption) | with_reducible exact quoB_pos (by first | assumption | exact Int.not_lt.mpr (by assumption))); walk_at "fin str"; done)
  k_with "call ref" => (k_here; (with_reducible show wpAny _ _ (call (Value.ref 404) _) _ _ _); k_dflt (refine' use_quot ?zqk1 ?zqk2 ?zqk3 ?zqk4 ?zqk5 ?zqkC ?zqkK ?zqkm0 ?zqkm1 ?zqkp0 ?zqkp1 ?zqkp2 ?zqkp3 ?zqkd ?zqku ?_; (case zqk1 => k_asm); (case zqk2 => k_asm); (case zqk3 => k_asm); (case zqk4 => k_asm); (case zqk5 => k_asm); (case zqkC => assumption); (case zqkK => first | exact rfl | assumption); (case zqkm0 => k_mem); (case zqkm1 => k_mem); (case zqkp0 => assumption); (case zqkp1 => assumption); (case zqkp2 => omega); (case zqkp3 => omega); (case zqkd => ktr_room); (case zqku => ktr_units)); (refine ⟨?_, ?_⟩ <;> intros); (all_goals (try k_sweep)); (all_goals (try dsimp only)); (all_goals (try k_fold)))
  have due_ok : ∀ (w : World) (mean : ExcName → Option Value) (mg mb : Str → Option Value), DueOK (Mine.top.heap_1_39 w.params) Mine.top.view_1_40 w mean mg mb := by as_aux_lemma =>
    clear gcd_ok make_ok isna_ok neg_ok add_ok sub_ok mul_ok div_ok isfin_ok floor_ok idiv_ok remd_ok refusal_ok most_ok within_ok dop_ok whole_ok withinone_ok powone_ok powgen_ok dpone_ok dpgen_ok nonea_ok nonem_ok infa_ok infs_ok askone_ok askgen_ok askop_ok bead_ok power_ok
    intro w mean mg mb
    have ok_pair := pair_ok w mean mg mb
    have ok_bounded := bounded_ok w mean mg mb
    have ok_quot := quot_ok w mean mg mb
    clear pair_ok bounded_ok quot_ok
    intro news o ts Z Y f k g l t u t' u' c c' hm0 hm1 hp0 hp1 hp2 hp3 dp un gd cn cs a ccd cl outer A₀ base h₀ L m s Q E kB kF kX kN kT hk hd hu hret
    have ht := tiny10
    have hnz : prA g l ≠ 0 := prA_ne hp1
    have b1 := prA_bits (k := k) hp0 (by omega)
    have b2 := prA_bits (k := l) hp1 (by omega)
    have b3 := prB_bits (k := k) (by omega)
    have b4 := prB_bits (k := l) (by omega)
    have m1 : IntMulOk (prA f k) (prB l) := mul_big b1 b4
    have m2 : IntMulOk (prA g l) (prB k) := mul_big b2 b3
    have m3 : IntMulOk (prB k) (prB l) := mul_big b3 b4
    have m4 : IntMulOk (0 - prA g l) (prB k) := mul_big (neg_bits b2) b3
    have m5 : IntMulOk f g := mul_big (Nat.le_trans (bits_fig hp0) (by omega)) (Nat.le_trans (bits_fig hp1) (by omega))
    have b5 : Builtin.Int.intBits (f * g) ≤ 8 := PySem.intBits_mul_le (bits_fig hp0) (bits_fig hp1)
    clear b1 b2 b3 b4
    cases o <;> dsimp only [Op.s]
    all_goals refine wpAny_call ?_
    all_goals k_dflt cell_enter
    all_goals k_steps
    all_goals first
      | (have hx := hret.1 trivial; walk_at "fin tup" <;> rfl)
      | (have hx := hret.1 (by assumption); walk_at "fin tup" <;> rfl)
      | (have hx := hret.2 (by assumption); walk_at "fin str"; done)
  k_with "call ref" => (k_here; (with_reducible show wpAny _ _ (call (Value.ref 411) _) _ _ _); k_dflt (refine' use_due ?zqk1 ?zqk2 ?zqk3 ?zqk4 ?zqk5 ?zqkC ?zqkK ?zqkm0 ?zqkm1 ?zqkp0 ?zqkp1 ?zqkp2 ?zqkp3 ?zqkd ?zqku ?_; (case zqk1 => k_asm); (case zqk2 => k_asm); (case zqk3 => k_asm); (case zqk4 => k_asm); (case zqk5 => k_asm); (case zqkC => assumption); (case zqkK => first | exact rfl | assumption); (case zqkm0 => k_mem); (case zqkm1 => k_mem); (case zqkp0 => assumption); (case zqkp1 => assumption); (case zqkp2 => omega); (case zqkp3 => omega); (case zqkd => ktr_room); (case zqku => ktr_units)); (refine ⟨?_, ?_⟩ <;> intros); (all_goals (try k_sweep)); (all_goals (try dsimp only)); (all_goals (try k_fold)))
  k_with "call builtin:list.reverse" => (k_here; (with_reducible show wpAny _ _ (call (Value.builtin _) [Value.ref _]) _ _ _); k_dflt (refine' rev_lis ?zqF ?zqN ?zqU ?zqi ?zqz ?_; (case zqF => k_asm); (case zqN => k_asm); (case zqU => k_upd); (case zqi => assumption); (case zqz => omega); k_whole); (intro vs' h' e' F' N' i' z'; subst e'; (try k_sweep)))
  k_with "imp" => first | assumption | (intro hz9; omega)
  have asklaw_ok : ∀ (w : World) (mean : ExcName → Option Value) (mg mb : Str → Option Value), AsklawOK (Mine.top.heap_1_39 w.params) Mine.top.view_1_40 w mean mg mb := by as_aux_lemma =>
    clear gcd_ok make_ok isna_ok neg_ok add_ok sub_ok mul_ok div_ok isfin_ok floor_ok idiv_ok remd_ok refusal_ok most_ok within_ok dop_ok whole_ok withinone_ok powone_ok powgen_ok dpone_ok dpgen_ok nonea_ok nonem_ok infa_ok infs_ok askone_ok askgen_ok bead_ok power_ok pair_ok bounded_ok quot_ok due_ok
    intro w mean mg mb
    have ok_askop := askop_ok w mean mg mb
    clear askop_ok
    intro news o ts X Y f k g l t u t' u' c c' hm0 hm1 hp0 hp1 hp2 hp3 hp4 hp5 dp un gd cn cs a ccd A₀ base h₀ L m s Q E kB kF kX kN kT kXB kTB hk hd hu hret
    obtain ⟨⟨e1, e2⟩, e3⟩ := law_wf hp0 hp1 hp4 hp5
    exact ok_askop news o ts X Y _ _ _ _ t u t' u' c c' hm0 hm1 (ophyp_pr hp0 hp1 hp2 hp3) _ _ _ _ _ _ _ _ _ _ _ _ _ _ _ kB kF kX kN kT kXB kTB hk hd hu (two_s hret e1 e2 e3)
  k_with "call ref" => (k_here; (with_reducible show wpAny _ _ (call (Value.ref 418) _) _ _ _); k_dflt (refine' use_asklaw ?zqk1 ?zqk2 ?zqk3 ?zqk4 ?zqk5 ?zqk6 ?zqk7 ?zqkC ?zqkK ?zqkm0 ?zqkm1 ?zqkp0 ?zqkp1 ?zqkp2 ?zqkp3 ?zqkp4 ?zqkp5 ?zqkd ?zqku ?_; (case zqk1 => k_asm); (case zqk2 => k_asm); (case zqk3 => k_asm); (case zqk4 => k_asm); (case zqk5 => k_asm); (case zqk6 => k_asm); (case zqk7 => k_asm); (case zqkC => assumption); (case zqkK => first | exact rfl | assumption); (case zqkm0 => k_mem); (case zqkm1 => k_mem); (case zqkp0 => assumption); (case zqkp1 => assumption); (case zqkp2 => omega); (case zqkp3 => omega); (case zqkp4 => walk_at "imp"); (case zqkp5 => walk_at "imp"); (case zqkd => ktr_room); (case zqku => ktr_units)); (refine ⟨?_, ?_⟩ <;> intros); (all_goals try (exfalso; exact absurd (by assumption) (by assumption : ¬ dueOk _ _ _ _ _))); (all_goals (try k_sweep)); (all_goals (try dsimp only)); (all_goals (try k_fold)))
  have doplaw_ok : ∀ (w : World) (mean : ExcName → Option Value) (mg mb : Str → Option Value), DoplawOK (Mine.top.heap_1_39 w.params) Mine.top.view_1_40 w mean mg mb := by as_aux_lemma =>
    clear gcd_ok make_ok isna_ok neg_ok add_ok sub_ok mul_ok div_ok isfin_ok floor_ok idiv_ok remd_ok refusal_ok most_ok within_ok whole_ok withinone_ok powone_ok powgen_ok dpone_ok dpgen_ok nonea_ok nonem_ok infa_ok infs_ok askone_ok askgen_ok askop_ok bead_ok power_ok pair_ok bounded_ok quot_ok due_ok asklaw_ok
    intro w mean mg mb
    have ok_dop := dop_ok w mean mg mb
    clear dop_ok
    intro news o ts X Y f k g l t u t' u' c c' hm0 hm1 hp0 hp1 hp2 hp3 hp4 hp5 dp un gd cn cs a ccd cl outer A₀ base h₀ L m s Q E kB kF kX kN kT hk hd hu hret
    obtain ⟨⟨e1, e2⟩, e3⟩ := law_wf hp0 hp1 hp4 hp5
    exact ok_dop news o ts X Y _ _ _ _ t u t' u' c c' hm0 hm1 (ophyp_pr hp0 hp1 hp2 hp3) _ _ _ _ _ _ _ _ _ _ _ _ _ _ _ _ _ kB kF kX kN kT hk hd hu (two_e hret e1 e2 e3)
  k_with "call ref" => (k_here; (with_reducible show wpAny _ _ (call (Value.ref 331) _) _ _ _); k_dflt (refine' use_doplaw ?zqk1 ?zqk2 ?zqk3 ?zqk4 ?zqk5 ?zqkC ?zqkK ?zqkm0 ?zqkm1 ?zqkp0 ?zqkp1 ?zqkp2 ?zqkp3 ?zqkp4 ?zqkp5 ?zqkd ?zqku ?_; (case zqk1 => k_asm); (case zqk2 => k_asm); (case zqk3 => k_asm); (case zqk4 => k_asm); (case zqk5 => k_asm); (case zqkC => assumption); (case zqkK => first | exact rfl | assumption); (case zqkm0 => k_mem); (case zqkm1 => k_mem); (case zqkp0 => assumption); (case zqkp1 => assumption); (case zqkp2 => omega); (case zqkp3 => omega); (case zqkp4 => walk_at "imp"); (case zqkp5 => walk_at "imp"); (case zqkd => ktr_room); (case zqku => ktr_units)); (refine ⟨?_, ?_⟩ <;> intros); (all_goals try (exfalso; exact absurd (by assumption) (by assumption : ¬ dueOk _ _ _ _ _))); (all_goals (try k_sweep)); (all_goals (try dsimp only)); (all_goals (try k_fold)))
  have dopfst_ok : ∀ (w : World) (mean : ExcName → Option Value) (mg mb : Str → Option Value), DopfstOK (Mine.top.heap_1_39 w.params) Mine.top.view_1_40 w mean mg mb := by as_aux_lemma =>
    clear gcd_ok make_ok isna_ok neg_ok add_ok sub_ok mul_ok div_ok isfin_ok floor_ok idiv_ok remd_ok refusal_ok most_ok within_ok whole_ok withinone_ok powone_ok powgen_ok dpone_ok dpgen_ok nonea_ok nonem_ok infa_ok infs_ok askone_ok askgen_ok askop_ok bead_ok power_ok pair_ok bounded_ok quot_ok due_ok asklaw_ok doplaw_ok
    intro w mean mg mb
    have ok_dop := dop_ok w mean mg mb
    clear dop_ok
    intro news o ts X Y t u t' u' c c' hm0 hm1 dp un gd cn cs a ccd cl outer A₀ base h₀ L m s Q E kB kF kX kN kT hk hd hu hret
    have hr : RTup news (opA o 2 1 1 1) (opB o 2 1 1 1) h₀ L m s Q E base (envX cn cs L a ccd cl :: outer) := by
      rw [opA_fst, opB_fst]
      exact hret
    exact ok_dop news o ts X Y _ _ _ _ t u t' u' c c' hm0 hm1 ophyp_fst _ _ _ _ _ _ _ _ _ _ _ _ _ _ _ _ _ kB kF kX kN kT hk hd hu ⟨fun _ => hr, fun h => absurd (opOk_fst o) h⟩
  k_with "call ref" => (k_here; (with_reducible show wpAny _ _ (call (Value.ref 331) _) _ _ _); k_dflt (refine' use_dopfst ?zqk1 ?zqk2 ?zqk3 ?zqk4 ?zqk5 ?zqkC ?zqkK ?zqkm0 ?zqkm1 ?zqkd ?zqku ?_; (case zqk1 => k_asm); (case zqk2 => k_asm); (case zqk3 => k_asm); (case zqk4 => k_asm); (case zqk5 => k_asm); (case zqkC => assumption); (case zqkK => first | exact rfl | assumption); (case zqkm0 => k_mem); (case zqkm1 => k_mem); (case zqkd => ktr_room); (case zqku => ktr_units)); intro D9 t9 u9 c9 h9 tk9 F9 N9 l9; (try simp only [AllLt, and_true] at l9); (all_goals (try k_sweep)); (all_goals (try dsimp only)); (all_goals (try k_fold)))
  k_with "pa" => first | (refine' pa_ok ?zqF ?zqN ?zqmo ?zqmx ?zqmy ?zqmd ?zqmb ?zqn1 ?zqn2 ?zqn3 ?zqn4 ?zqhf ?zqhg ?zqhk ?zqhl ?zqw1 ?zqw2 ?zqhi ?zqhz ?zqlX ?zqlY ?zqlD ?zqok; (case zqF => k_asm); (case zqN => k_asm); (case zqmo => exact rfl); (case zqmx => exact rfl); (case zqmy => exact rfl); (case zqmd => exact rfl); (case zqmb => exact rfl); (case zqn1 => k_mem); (case zqn2 => k_mem); (case zqn3 => k_mem); (case zqn4 => k_mem); (case zqhf => assumption); (case zqhg => assumption); (case zqhk => omega); (case zqhl => omega); (case zqw1 => walk_at "imp"); (case zqw2 => walk_at "imp"); (case zqhi => assumption); (case zqhz => omega); (case zqlX => first | omega | exact lt_led (by assumption) (by k_mem)); (case zqlY => first | omega | exact lt_led (by assumption) (by k_mem)); (case zqlD => first | omega | exact lt_led (by assumption) (by k_mem)); (case zqok => assumption)) | (refine' pa_no ?zqF ?zqN ?zqmo ?zqmx ?zqmy ?zqmd ?zqmb ?zqn1 ?zqn2 ?zqn3 ?zqhf ?zqhg ?zqhk ?zqhl ?zqw1 ?zqw2 ?zqhi ?zqhz ?zqlX ?zqlY ?zqno; (case zqF => k_asm); (case zqN => k_asm); (case zqmo => exact rfl); (case zqmx => exact rfl); (case zqmy => exact rfl); (case zqmd => exact rfl); (case zqmb => exact rfl); (case zqn1 => k_mem); (case zqn2 => k_mem); (case zqn3 => k_mem); (case zqhf => assumption); (case zqhg => assumption); (case zqhk => omega); (case zqhl => omega); (case zqw1 => walk_at "imp"); (case zqw2 => walk_at "imp"); (case zqhi => assumption); (case zqhz => omega); (case zqlX => first | omega | exact lt_led (by assumption) (by k_mem)); (case zqlY => first | omega | exact lt_led (by assumption) (by k_mem)); (case zqno => assumption))
  k_with "subscriptTail" => (k_here; (with_reducible show wpAny _ _ (subscriptTail (Expr.List [_, _, _, _, _, _] _) _ (Value.ref _) (Value.int _ _)) _ _ _); (with_unfolding_all refine' pick_op ?zqN ?zqm ?zqk2 ?zqk3 ?_ ?zqk6; (case zqN => k_asm); (case zqm => k_mem); (case zqk2 => assumption); (case zqk3 => assumption); (case zqk6 => with_unfolding_all rfl); k_whole); (intro o9 ts9))
  k_with "eval BoolOp" => (k_here; (with_reducible show wpAny _ _ (eval (Expr.BoolOp _ [Expr.Compare (Expr.Name (Str.ofString "op") _) _ _ _, _] _) _) _ _ _); k_dflt (first | (refine' wf1 ?zqF ?zqhv ?_; (case zqF => k_asm); (case zqhv => exact rfl); k_whole) | (refine' wf2 ?zqF ?zqhv ?_; (case zqF => k_asm); (case zqhv => exact rfl); k_whole)); (intro tk9))
  k_with "ite" => (k_here; first | (refine ite_pos (by first | ((simp only [Bool.not_eq_true', decide_eq_false_iff_not, decide_eq_true_eq, bne_iff_ne, bne_self_eq_false, ne_eq, not_true_eq_false, not_false_eq_true, and_self, Bool.false_eq_true]; done); done) | fail) ?_) | (refine ite_neg (by first | ((simp only [Bool.not_eq_true', decide_eq_false_iff_not, decide_eq_true_eq, bne_iff_ne, bne_self_eq_false, ne_eq, not_true_eq_false, not_false_eq_true, and_self, Bool.false_eq_true]; done); done) | fail) ?_))
  k_with "p1" => (refine' p1_end ?zqF ?zqN ?zqmb ?zqmt ?zqhm ?zqhc ?zqk1 ?zqk2 ?zqk3 ?zqk4 ?zqhb ?zqhn; (case zqF => k_asm); (case zqN => k_asm); (case zqmb => exact rfl); (case zqmt => exact rfl); (case zqhm => k_mem); (case zqhc => (intro x hx; repeat (first | exact hx | refine List.mem_cons_of_mem _ ?_))); (case zqk1 => exact rfl); (case zqk2 => exact rfl); (case zqk3 => exact rfl); (case zqk4 => exact rfl); (case zqhb => assumption); (case zqhn => omega))
  k_with "subscriptTail" => (k_here; (with_reducible show wpAny _ _ (subscriptTail (Expr.List [Expr.List _ _, _, _, _, _, _] _) _ (Value.ref _) (Value.int _ _)) _ _ _); (with_unfolding_all refine' pick_base ?zqN ?zqm ?zqm0 ?zqm1 ?zqm2 ?zqm3 ?zqm4 ?zqm5 ?zqk2 ?zqk3 ?_ ?zqk6; (case zqN => k_asm); (case zqm => k_mem); (case zqm0 => k_mem); (case zqm1 => k_mem); (case zqm2 => k_mem); (case zqm3 => k_mem); (case zqm4 => k_mem); (case zqm5 => k_mem); (case zqk2 => assumption); (case zqk3 => assumption); (case zqk6 => with_unfolding_all rfl); k_whole); (intro B9 b9 e9 t9 u9 c9 hb9 hB9 N9))
  k_with "p2" => (refine' p2_end ?zqF ?zqN ?zqmb ?zqmt ?zqml ?zqhm ?zqhc ?zqk1 ?zqk2 ?zqk3 ?zqk4 ?zqhl; (case zqF => k_asm); (case zqN => k_asm); (case zqmb => assumption); (case zqmt => assumption); (case zqml => exact rfl); (case zqhm => k_mem); (case zqhc => (intro x hx; repeat (first | exact hx | refine List.mem_cons_of_mem _ ?_))); (case zqk1 => assumption); (case zqk2 => assumption); (case zqk3 => assumption); (case zqk4 => assumption); (case zqhl => first | exact lift_a (by assumption) | exact lift_b (by assumption) (by assumption) (by k_mem) | exact lift_c (by assumption) (by assumption)))
  k_with "p3" => (refine' p3_end ?zqF ?zqN ?zqmb ?zqmt ?zqml ?zqk1 ?zqk2 ?zqk3 ?zqk4 ?zqm1 ?zqm2 ?zqm3 ?zqe1 ?zqe2 ?zqe3; (case zqF => k_asm); (case zqN => k_asm); (case zqmb => assumption); (case zqmt => assumption); (case zqml => assumption); (case zqk1 => assumption); (case zqk2 => assumption); (case zqk3 => assumption); (case zqk4 => assumption); (case zqm1 => exact rfl); (case zqm2 => exact rfl); (case zqm3 => exact rfl); (case zqe1 => exact rfl); (case zqe3 => exact rfl); (case zqe2 => first | exact abv_neg (by assumption) (by assumption) | exact abv_pos1 (by first | ((first | assumption | exact Int.not_lt.mpr (by assumption)); done) | fail) | exact abv_pos2 (by assumption)))
  k_with "wa" => first | exact WA_pos (by assumption) (by assumption) (by assumption) | exact WA_neg1 (by assumption) (by assumption) (by assumption) (by assumption) | exact WA_neg2 (by assumption) (by assumption) (by assumption) (by assumption)
  k_with "wb" => first | exact WB_pos (by assumption) (by assumption) | exact WB_neg (by assumption) (by assumption) (by assumption)
  k_with "p4" => (refine' p4_end ?zqF ?zqN ?zqml ?zqmw ?zqhc ?zqk1 ?zqk2 ?zqk3 ?zqk4 ?zqhw; (case zqF => k_asm); (case zqN => k_asm); (case zqml => assumption); (case zqmw => exact rfl); (case zqhc => (intro x hx; repeat (first | exact hx | refine List.mem_cons_of_mem _ ?_))); (case zqk1 => assumption); (case zqk2 => assumption); (case zqk3 => assumption); (case zqk4 => assumption); (case zqhw => first | exact want_far (by assumption) | exact want_ok (by assumption) (by walk_at "wa") (by walk_at "wb") (by assumption) (by k_mem) | exact want_no (by walk_at "wa") (by walk_at "wb") (by assumption)))
  k_with "binaryOp Pow int int" => (k_here; (with_reducible refine pow_int ?zqkb1 ?zqkb2 ?_); (case zqkb1 => first | omega | (split <;> omega)); (case zqkb2 => exact tiny_pow (by assumption) (by first | ((first | omega | (split <;> omega)); done) | fail) (by first | ((first | omega | (split <;> omega)); done) | fail)))
  k_with "subscriptTail Name Constant ref int" => (k_here; (with_reducible show wpAny _ _ (subscriptTail _ _ (Value.ref _) (Value.int _ _)) _ _ _); (with_unfolding_all refine' item_lis (lis_pw ?zqN ?zqm) ?zqk2 ?zqk3 ?zqk4 ?_ ?zqk6; (case zqN => k_asm); (case zqm => k_mem); (case zqk2 => decide); (case zqk3 => decide); (case zqk4 => rfl); (case zqk6 => with_unfolding_all rfl); k_whole))
  k_with "pb" => (refine' pb_end ?zqF ?zqN ?zqhc ?zqk1 ?zqk2 ?zqk3 ?zqk4; (case zqF => k_asm); (case zqN => k_asm); (case zqhc => assumption); (case zqk1 => assumption); (case zqk2 => assumption); (case zqk3 => assumption); (case zqk4 => assumption))
  k_with "pc" => (refine' pc_end ?zqF ?zqN ?zqhc ?zqk1 ?zqk2 ?zqk3 ?zqk4; (case zqF => k_asm); (case zqN => k_asm); (case zqhc => (intro x hx; repeat (first | exact hx | refine List.mem_cons_of_mem _ ?_))); (case zqk1 => assumption); (case zqk2 => assumption); (case zqk3 => assumption); (case zqk4 => assumption))
  have getat_ok : ∀ (w : World) (mean : ExcName → Option Value) (mg mb : Str → Option Value), GetatOK (Mine.top.heap_1_39 w.params) Mine.top.view_1_40 w mean mg mb := by as_aux_lemma =>
    clear gcd_ok make_ok isna_ok neg_ok add_ok sub_ok mul_ok div_ok isfin_ok floor_ok idiv_ok remd_ok refusal_ok most_ok within_ok dop_ok whole_ok withinone_ok powone_ok powgen_ok dpone_ok dpgen_ok nonea_ok nonem_ok infa_ok infs_ok askone_ok askgen_ok askop_ok bead_ok power_ok pair_ok bounded_ok quot_ok due_ok asklaw_ok doplaw_ok dopfst_ok
    intro w mean mg mb
    intro news V d l kt k1 k2 k3 k4 k5 nm tn hm0 hm1 dp un gd cn cs a ccd cl outer A₀ base h₀ L m s Q E kB kF kX kN kT hk hd hu hret
    refine wpAny_call ?_
    k_dflt cell_enter
    k_steps
    all_goals (walk_at "fin none"; done)
  k_with "call ref" => (k_here; (with_reducible show wpAny _ _ (call (Value.ref 28) _) _ _ _); k_dflt (refine' use_getat ?zqk1 ?zqk2 ?zqk3 ?zqk4 ?zqk5 ?zqkC ?zqkK ?zqkm0 ?zqkm1 ?zqkd ?zqku ?_; (case zqk1 => k_asm); (case zqk2 => k_asm); (case zqk3 => k_asm); (case zqk4 => k_asm); (case zqk5 => k_asm); (case zqkC => assumption); (case zqkK => first | exact rfl | assumption); (case zqkm0 => k_mem); (case zqkm1 => k_mem); (case zqkd => ktr_room); (case zqku => ktr_units)); intro h9 tk9 F9 N9; (all_goals (try k_sweep)); (all_goals (try dsimp only)); (all_goals (try k_fold)))
  have dimof_ok : ∀ (w : World) (mean : ExcName → Option Value) (mg mb : Str → Option Value), DimofOK (Mine.top.heap_1_39 w.params) Mine.top.view_1_40 w mean mg mb := by as_aux_lemma =>
    clear gcd_ok make_ok isna_ok neg_ok add_ok sub_ok mul_ok div_ok isfin_ok floor_ok idiv_ok remd_ok refusal_ok most_ok within_ok dop_ok whole_ok withinone_ok powone_ok powgen_ok dpone_ok dpgen_ok nonea_ok nonem_ok infa_ok infs_ok askone_ok askgen_ok askop_ok bead_ok power_ok pair_ok bounded_ok quot_ok due_ok asklaw_ok doplaw_ok dopfst_ok
    intro w mean mg mb
    have ok_getat := getat_ok w mean mg mb
    clear getat_ok
    intro news V d l kt k1 k2 k3 k4 k5 hm0 hm1 dp un gd cn cs a ccd cl outer A₀ base h₀ L m s Q E kB kF kX kN kT hk hd hu hret
    refine wpAny_call ?_
    k_dflt cell_enter
    k_steps
    all_goals (walk_at "fin none"; done)
  k_with "call ref" => (k_here; (with_reducible show wpAny _ _ (call (Value.ref 35) _) _ _ _); k_dflt (refine' use_dimof ?zqk1 ?zqk2 ?zqk3 ?zqk4 ?zqk5 ?zqkC ?zqkK ?zqkm0 ?zqkm1 ?zqkd ?zqku ?_; (case zqk1 => k_asm); (case zqk2 => k_asm); (case zqk3 => k_asm); (case zqk4 => k_asm); (case zqk5 => k_asm); (case zqkC => assumption); (case zqkK => first | exact rfl | assumption); (case zqkm0 => k_mem); (case zqkm1 => k_mem); (case zqkd => ktr_room); (case zqku => ktr_units)); intro h9 tk9 F9 N9; (all_goals (try k_sweep)); (all_goals (try dsimp only)); (all_goals (try k_fold)))
  have attrib_ok : ∀ (w : World) (mean : ExcName → Option Value) (mg mb : Str → Option Value), AttribOK (Mine.top.heap_1_39 w.params) Mine.top.view_1_40 w mean mg mb := by as_aux_lemma =>
    clear gcd_ok make_ok isna_ok neg_ok add_ok sub_ok mul_ok div_ok isfin_ok floor_ok idiv_ok remd_ok refusal_ok most_ok within_ok dop_ok whole_ok withinone_ok powone_ok powgen_ok dpone_ok dpgen_ok nonea_ok nonem_ok infa_ok infs_ok askone_ok askgen_ok askop_ok bead_ok power_ok pair_ok bounded_ok quot_ok due_ok asklaw_ok doplaw_ok dopfst_ok getat_ok dimof_ok
    intro w mean mg mb
    intro news V d l kt k1 k2 k3 k4 k5 nm tn hm0 hm1 dp un gd cn cs a ccd cl outer A₀ base h₀ L m s Q E kB kF kX kN kT hk hd hu hret
    refine wpAny_call ?_
    k_dflt cell_enter
    k_steps
    all_goals (walk_at "fin none"; done)
  k_with "call ref" => (k_here; (with_reducible show wpAny _ _ (call (Value.ref 296) _) _ _ _); k_dflt (refine' use_attrib ?zqk1 ?zqk2 ?zqk3 ?zqk4 ?zqk5 ?zqkC ?zqkK ?zqkm0 ?zqkm1 ?zqkd ?zqku ?_; (case zqk1 => k_asm); (case zqk2 => k_asm); (case zqk3 => k_asm); (case zqk4 => k_asm); (case zqk5 => k_asm); (case zqkC => assumption); (case zqkK => first | exact rfl | assumption); (case zqkm0 => k_mem); (case zqkm1 => k_mem); (case zqkd => ktr_room); (case zqku => ktr_units)); intro h9 tk9 F9 N9; (all_goals (try k_sweep)); (all_goals (try dsimp only)); (all_goals (try k_fold)))
  have leng_ok : ∀ (w : World) (mean : ExcName → Option Value) (mg mb : Str → Option Value), LengOK (Mine.top.heap_1_39 w.params) Mine.top.view_1_40 w mean mg mb := by as_aux_lemma =>
    clear gcd_ok make_ok isna_ok neg_ok add_ok sub_ok mul_ok div_ok isfin_ok floor_ok idiv_ok remd_ok refusal_ok most_ok within_ok dop_ok whole_ok withinone_ok powone_ok powgen_ok dpone_ok dpgen_ok nonea_ok nonem_ok infa_ok infs_ok askone_ok askgen_ok askop_ok bead_ok power_ok pair_ok bounded_ok quot_ok due_ok asklaw_ok doplaw_ok dopfst_ok getat_ok dimof_ok attrib_ok
    intro w mean mg mb
    intro news V d l kt k1 k2 k3 k4 k5 p q n hm0 hm1 hm2 dp un gd cn cs a ccd cl outer A₀ base h₀ L m s Q E kB kF kX kN kT hk hd hu hret
    refine wpAny_call ?_
    k_dflt cell_enter
    k_steps
    all_goals (walk_at "fin int" <;> rfl; done)
  k_with "call ref" => (k_here; (with_reducible show wpAny _ _ (call (Value.ref 247) _) _ _ _); k_dflt (refine' use_leng ?zqk1 ?zqk2 ?zqk3 ?zqk4 ?zqk5 ?zqkC ?zqkK ?zqkm0 ?zqkm1 ?zqkm2 ?zqkd ?zqku ?_; (case zqk1 => k_asm); (case zqk2 => k_asm); (case zqk3 => k_asm); (case zqk4 => k_asm); (case zqk5 => k_asm); (case zqkC => assumption); (case zqkK => first | exact rfl | assumption); (case zqkm0 => k_mem); (case zqkm1 => k_mem); (case zqkm2 => k_mem); (case zqkd => ktr_room); (case zqku => ktr_units)); intro t9 h9 tk9 F9 N9; (all_goals (try k_sweep)); (all_goals (try dsimp only)); (all_goals (try k_fold)))
  have nitems_ok : ∀ (w : World) (mean : ExcName → Option Value) (mg mb : Str → Option Value), NitemsOK (Mine.top.heap_1_39 w.params) Mine.top.view_1_40 w mean mg mb := by as_aux_lemma =>
    clear gcd_ok make_ok isna_ok neg_ok add_ok sub_ok mul_ok div_ok isfin_ok floor_ok idiv_ok remd_ok refusal_ok most_ok within_ok dop_ok whole_ok withinone_ok powone_ok powgen_ok dpone_ok dpgen_ok nonea_ok nonem_ok infa_ok infs_ok askone_ok askgen_ok askop_ok bead_ok power_ok pair_ok bounded_ok quot_ok due_ok asklaw_ok doplaw_ok dopfst_ok getat_ok dimof_ok attrib_ok leng_ok
    intro w mean mg mb
    intro news V d l kt k1 k2 k3 k4 k5 hm0 hm1 dp un gd cn cs a ccd cl outer A₀ base h₀ L m s Q E kB kF kX kN kT hk hd hu hret
    refine wpAny_call ?_
    k_dflt cell_enter
    k_steps
    all_goals (walk_at "fin ref"; done)
  k_with "call ref" => (k_here; (with_reducible show wpAny _ _ (call (Value.ref 338) _) _ _ _); k_dflt (refine' use_nitems ?zqk1 ?zqk2 ?zqk3 ?zqk4 ?zqk5 ?zqkC ?zqkK ?zqkm0 ?zqkm1 ?zqkd ?zqku ?_; (case zqk1 => k_asm); (case zqk2 => k_asm); (case zqk3 => k_asm); (case zqk4 => k_asm); (case zqk5 => k_asm); (case zqkC => assumption); (case zqkK => first | exact rfl | assumption); (case zqkm0 => k_mem); (case zqkm1 => k_mem); (case zqkd => ktr_room); (case zqku => ktr_units)); intro h9 tk9 F9 N9; (all_goals (try k_sweep)); (all_goals (try dsimp only)); (all_goals (try k_fold)))
  have ditems_ok : ∀ (w : World) (mean : ExcName → Option Value) (mg mb : Str → Option Value), DitemsOK (Mine.top.heap_1_39 w.params) Mine.top.view_1_40 w mean mg mb := by as_aux_lemma =>
    clear gcd_ok make_ok isna_ok neg_ok add_ok sub_ok mul_ok div_ok isfin_ok floor_ok idiv_ok remd_ok refusal_ok most_ok within_ok dop_ok whole_ok withinone_ok powone_ok powgen_ok dpone_ok dpgen_ok nonea_ok nonem_ok infa_ok infs_ok askone_ok askgen_ok askop_ok bead_ok power_ok pair_ok bounded_ok quot_ok due_ok asklaw_ok doplaw_ok dopfst_ok getat_ok dimof_ok attrib_ok leng_ok
    intro w mean mg mb
    have ok_nitems := nitems_ok w mean mg mb
    clear nitems_ok
    intro news V d l kt k1 k2 k3 k4 k5 hm0 hm1 dp un gd cn cs a ccd cl outer A₀ base h₀ L m s Q E kB kF kX kN kT hk hd hu hret
    refine wpAny_call ?_
    k_dflt cell_enter
    k_steps
    all_goals (walk_at "fin ref"; done)
  k_with "call ref" => (k_here; (with_reducible show wpAny _ _ (call (Value.ref 343) _) _ _ _); k_dflt (refine' use_ditems ?zqk1 ?zqk2 ?zqk3 ?zqk4 ?zqk5 ?zqkC ?zqkK ?zqkm0 ?zqkm1 ?zqkd ?zqku ?_; (case zqk1 => k_asm); (case zqk2 => k_asm); (case zqk3 => k_asm); (case zqk4 => k_asm); (case zqk5 => k_asm); (case zqkC => assumption); (case zqkK => first | exact rfl | assumption); (case zqkm0 => k_mem); (case zqkm1 => k_mem); (case zqkd => ktr_room); (case zqku => ktr_units)); intro h9 tk9 F9 N9; (all_goals (try k_sweep)); (all_goals (try dsimp only)); (all_goals (try k_fold)))
  have rdim_ok : ∀ (w : World) (mean : ExcName → Option Value) (mg mb : Str → Option Value), RdimOK (Mine.top.heap_1_39 w.params) Mine.top.view_1_40 w mean mg mb := by as_aux_lemma =>
    clear gcd_ok make_ok isna_ok neg_ok add_ok sub_ok mul_ok div_ok isfin_ok floor_ok idiv_ok remd_ok refusal_ok most_ok within_ok dop_ok whole_ok withinone_ok powone_ok powgen_ok dpone_ok dpgen_ok nonea_ok nonem_ok infa_ok infs_ok askone_ok askgen_ok askop_ok bead_ok power_ok pair_ok bounded_ok quot_ok due_ok asklaw_ok doplaw_ok dopfst_ok getat_ok attrib_ok nitems_ok ditems_ok
    intro w mean mg mb
    have ok_leng := leng_ok w mean mg mb
    have ok_dimof := dimof_ok w mean mg mb
    clear leng_ok dimof_ok
    intro news V d l kt k1 k2 k3 k4 k5 p q n V' d' l' kt' k1' k2' k3' k4' k5' p' q' n' hm0 hm1 hm2 hm3 hm4 hm5 dp un gd cn cs a ccd cl outer A₀ base h₀ L m s Q E kB kF kX kN kT hk hd hu hret
    refine wpAny_call ?_
    k_dflt cell_enter
    k_steps
    all_goals (walk_at "fin none"; done)
  k_with "call ref" => (k_here; (with_reducible show wpAny _ _ (call (Value.ref 275) _) _ _ _); k_dflt (refine' use_rdim ?zqk1 ?zqk2 ?zqk3 ?zqk4 ?zqk5 ?zqkC ?zqkK ?zqkm0 ?zqkm1 ?zqkm2 ?zqkm3 ?zqkm4 ?zqkm5 ?zqkd ?zqku ?_; (case zqk1 => k_asm); (case zqk2 => k_asm); (case zqk3 => k_asm); (case zqk4 => k_asm); (case zqk5 => k_asm); (case zqkC => assumption); (case zqkK => first | exact rfl | assumption); (case zqkm0 => k_mem); (case zqkm1 => k_mem); (case zqkm2 => k_mem); (case zqkm3 => k_mem); (case zqkm4 => k_mem); (case zqkm5 => k_mem); (case zqkd => ktr_room); (case zqku => ktr_units)); intro h9 tk9 F9 N9; (all_goals (try k_sweep)); (all_goals (try dsimp only)); (all_goals (try k_fold)))
  have narr_ok : ∀ (w : World) (mean : ExcName → Option Value) (mg mb : Str → Option Value), NarrOK (Mine.top.heap_1_39 w.params) Mine.top.view_1_40 w mean mg mb := by as_aux_lemma =>
    clear gcd_ok make_ok isna_ok neg_ok add_ok sub_ok mul_ok div_ok isfin_ok floor_ok idiv_ok remd_ok refusal_ok most_ok within_ok dop_ok whole_ok withinone_ok powone_ok powgen_ok dpone_ok dpgen_ok nonea_ok nonem_ok infa_ok infs_ok askone_ok askgen_ok askop_ok bead_ok power_ok pair_ok bounded_ok quot_ok due_ok asklaw_ok doplaw_ok dopfst_ok getat_ok attrib_ok nitems_ok ditems_ok rdim_ok
    intro w mean mg mb
    have ok_leng := leng_ok w mean mg mb
    have ok_dimof := dimof_ok w mean mg mb
    clear leng_ok dimof_ok
    intro news V d l kt k1 k2 k3 k4 k5 p q n V' d' l' kt' k1' k2' k3' k4' k5' p' q' n' nt hm0 hm1 hm2 hm3 hm4 hm5 dp un gd cn cs a ccd cl outer A₀ base h₀ L m s Q E kB kF kX kN kT hk hd hu hret
    refine wpAny_call ?_
    k_dflt cell_enter
    k_steps
    all_goals (walk_at "fin none"; done)
  k_with "call ref" => (k_here; (with_reducible show wpAny _ _ (call (Value.ref 282) _) _ _ _); k_dflt (refine' use_narr ?zqk1 ?zqk2 ?zqk3 ?zqk4 ?zqk5 ?zqkC ?zqkK ?zqkm0 ?zqkm1 ?zqkm2 ?zqkm3 ?zqkm4 ?zqkm5 ?zqkd ?zqku ?_; (case zqk1 => k_asm); (case zqk2 => k_asm); (case zqk3 => k_asm); (case zqk4 => k_asm); (case zqk5 => k_asm); (case zqkC => assumption); (case zqkK => first | exact rfl | assumption); (case zqkm0 => k_mem); (case zqkm1 => k_mem); (case zqkm2 => k_mem); (case zqkm3 => k_mem); (case zqkm4 => k_mem); (case zqkm5 => k_mem); (case zqkd => ktr_room); (case zqku => ktr_units)); intro h9 tk9 F9 N9; (all_goals (try k_sweep)); (all_goals (try dsimp only)); (all_goals (try k_fold)))
  have nrec_ok : ∀ (w : World) (mean : ExcName → Option Value) (mg mb : Str → Option Value), NrecOK (Mine.top.heap_1_39 w.params) Mine.top.view_1_40 w mean mg mb := by as_aux_lemma =>
    clear gcd_ok make_ok isna_ok neg_ok add_ok sub_ok mul_ok div_ok isfin_ok floor_ok idiv_ok remd_ok refusal_ok most_ok within_ok dop_ok whole_ok withinone_ok powone_ok powgen_ok dpone_ok dpgen_ok nonea_ok nonem_ok infa_ok infs_ok askone_ok askgen_ok askop_ok bead_ok power_ok pair_ok bounded_ok quot_ok due_ok asklaw_ok doplaw_ok dopfst_ok getat_ok dimof_ok attrib_ok leng_ok nitems_ok ditems_ok rdim_ok narr_ok
    intro w mean mg mb
    intro news t u nt dp un gd cn cs a ccd cl outer A₀ base h₀ L m s Q E kB kF kX kN kT hk hd hu hret
    refine wpAny_call ?_
    k_dflt cell_enter
    k_steps
    all_goals (walk_at "fin none"; done)
  k_with "call ref" => (k_here; (with_reducible show wpAny _ _ (call (Value.ref 261) _) _ _ _); k_dflt (refine' use_nrec ?zqk1 ?zqk2 ?zqk3 ?zqk4 ?zqk5 ?zqkC ?zqkK ?zqkd ?zqku ?_; (case zqk1 => k_asm); (case zqk2 => k_asm); (case zqk3 => k_asm); (case zqk4 => k_asm); (case zqk5 => k_asm); (case zqkC => assumption); (case zqkK => first | exact rfl | assumption); (case zqkd => ktr_room); (case zqku => ktr_units)); intro h9 tk9 F9 N9; (all_goals (try k_sweep)); (all_goals (try dsimp only)); (all_goals (try k_fold)))
  have reclen_ok : ∀ (w : World) (mean : ExcName → Option Value) (mg mb : Str → Option Value), ReclenOK (Mine.top.heap_1_39 w.params) Mine.top.view_1_40 w mean mg mb := by as_aux_lemma =>
    clear gcd_ok make_ok isna_ok neg_ok add_ok sub_ok mul_ok div_ok isfin_ok floor_ok idiv_ok remd_ok refusal_ok most_ok within_ok dop_ok whole_ok withinone_ok powone_ok powgen_ok dpone_ok dpgen_ok nonea_ok nonem_ok infa_ok infs_ok askone_ok askgen_ok askop_ok bead_ok power_ok pair_ok bounded_ok quot_ok due_ok asklaw_ok doplaw_ok dopfst_ok getat_ok dimof_ok attrib_ok leng_ok nitems_ok ditems_ok rdim_ok narr_ok nrec_ok
    intro w mean mg mb
    intro news t u dp un gd cn cs a ccd cl outer A₀ base h₀ L m s Q E kB kF kX kN kT hk hd hu hret
    refine wpAny_call ?_
    k_dflt cell_enter
    k_steps
    all_goals (walk_at "fin int" <;> rfl; done)
  k_with "call ref" => (k_here; (with_reducible show wpAny _ _ (call (Value.ref 254) _) _ _ _); k_dflt (refine' use_reclen ?zqk1 ?zqk2 ?zqk3 ?zqk4 ?zqk5 ?zqkC ?zqkK ?zqkd ?zqku ?_; (case zqk1 => k_asm); (case zqk2 => k_asm); (case zqk3 => k_asm); (case zqk4 => k_asm); (case zqk5 => k_asm); (case zqkC => assumption); (case zqkK => first | exact rfl | assumption); (case zqkd => ktr_room); (case zqku => ktr_units)); intro t9 h9 tk9 F9 N9; (all_goals (try k_sweep)); (all_goals (try dsimp only)); (all_goals (try k_fold)))
  have comlen_ok : ∀ (w : World) (mean : ExcName → Option Value) (mg mb : Str → Option Value), ComlenOK (Mine.top.heap_1_39 w.params) Mine.top.view_1_40 w mean mg mb := by as_aux_lemma =>
    clear gcd_ok make_ok isna_ok neg_ok add_ok sub_ok mul_ok div_ok isfin_ok floor_ok idiv_ok remd_ok refusal_ok most_ok within_ok dop_ok whole_ok withinone_ok powone_ok powgen_ok dpone_ok dpgen_ok nonea_ok nonem_ok infa_ok infs_ok askone_ok askgen_ok askop_ok bead_ok power_ok pair_ok bounded_ok quot_ok due_ok asklaw_ok doplaw_ok dopfst_ok getat_ok dimof_ok attrib_ok nitems_ok ditems_ok
    intro w mean mg mb
    have ok_rdim := rdim_ok w mean mg mb
    have ok_narr := narr_ok w mean mg mb
    have ok_nrec := nrec_ok w mean mg mb
    have ok_reclen := reclen_ok w mean mg mb
    have ok_leng := leng_ok w mean mg mb
    clear rdim_ok narr_ok nrec_ok reclen_ok leng_ok
    intro news V d l kt k1 k2 k3 k4 k5 p q n V' d' l' kt' k1' k2' k3' k4' k5' p' q' n' nt hm0 hm1 hm2 hm3 hm4 hm5 dp un gd cn cs a ccd cl outer A₀ base h₀ L m s Q E kB kF kX kN kT hk hd hu hret
    refine wpAny_call ?_
    k_dflt cell_enter
    k_steps
    all_goals (walk_at "fin int" <;> rfl; done)
  k_with "call ref" => (k_here; (with_reducible show wpAny _ _ (call (Value.ref 289) _) _ _ _); k_dflt (refine' use_comlen ?zqk1 ?zqk2 ?zqk3 ?zqk4 ?zqk5 ?zqkC ?zqkK ?zqkm0 ?zqkm1 ?zqkm2 ?zqkm3 ?zqkm4 ?zqkm5 ?zqkd ?zqku ?_; (case zqk1 => k_asm); (case zqk2 => k_asm); (case zqk3 => k_asm); (case zqk4 => k_asm); (case zqk5 => k_asm); (case zqkC => assumption); (case zqkK => first | exact rfl | assumption); (case zqkm0 => k_mem); (case zqkm1 => k_mem); (case zqkm2 => k_mem); (case zqkm3 => k_mem); (case zqkm4 => k_mem); (case zqkm5 => k_mem); (case zqkd => ktr_room); (case zqku => ktr_units)); intro t9 h9 tk9 F9 N9; (all_goals (try k_sweep)); (all_goals (try dsimp only)); (all_goals (try k_fold)))
  k_with "pyIter ref" => (k_here; (with_reducible show wpAny _ _ (pyIter (Value.ref _)) (fun it s₂ => TurnsAt _ _ _ _ _ _ _ _ _ it s₂) _ _); (with_unfolding_all refine' iter_tupTurns (lo := tupR _ _ _) (vs := [_, _]) ?zqh ?zqF ?zqN ?zqm ?zqc ?zqd ?_; (case zqh => rfl); (case zqF => k_asm); (case zqN => k_asm); (case zqm => k_mem); (case zqc => rfl); (case zqd => rfl)); intro i' l1)
  k_with "UnrEndW" => (with_unfolding_all refine' unr_end ?zqF ?zqN ?zqoff ⟨?zqhm, True.intro⟩ ?_; (case zqF => k_asm); (case zqN => k_asm); (case zqoff => assumption); (case zqhm => k_mem))
  have shape_ok : ∀ (w : World) (mean : ExcName → Option Value) (mg mb : Str → Option Value), ShapeOK (Mine.top.heap_1_39 w.params) Mine.top.view_1_40 w mean mg mb := by as_aux_lemma =>
    clear gcd_ok make_ok isna_ok neg_ok add_ok sub_ok mul_ok div_ok isfin_ok floor_ok idiv_ok remd_ok refusal_ok most_ok within_ok dop_ok whole_ok withinone_ok powone_ok powgen_ok dpone_ok dpgen_ok nonea_ok nonem_ok infa_ok infs_ok askone_ok askgen_ok askop_ok bead_ok power_ok pair_ok bounded_ok quot_ok due_ok asklaw_ok doplaw_ok dopfst_ok getat_ok dimof_ok leng_ok nitems_ok ditems_ok narr_ok nrec_ok reclen_ok comlen_ok
    intro w mean mg mb
    have ok_rdim := rdim_ok w mean mg mb
    have ok_attrib := attrib_ok w mean mg mb
    clear rdim_ok attrib_ok
    intro news V d l kt k1 k2 k3 k4 k5 p q n V' d' l' kt' k1' k2' k3' k4' k5' p' q' n' R hm0 hm1 hm2 hm3 hm4 hm5 dp un gd cn cs a ccd cl outer A₀ base h₀ L m s Q E kB kF kX kN kT hk hd hu hret
    refine wpAny_call ?_
    k_dflt cell_enter
    k_steps
    all_goals (walk_at "fin none"; done)
  k_with "call ref" => (k_here; (with_reducible show wpAny _ _ (call (Value.ref 303) _) _ _ _); k_dflt (refine' use_shape ?zqk1 ?zqk2 ?zqk3 ?zqk4 ?zqk5 ?zqkC ?zqkK ?zqkm0 ?zqkm1 ?zqkm2 ?zqkm3 ?zqkm4 ?zqkm5 ?zqkd ?zqku ?_; (case zqk1 => k_asm); (case zqk2 => k_asm); (case zqk3 => k_asm); (case zqk4 => k_asm); (case zqk5 => k_asm); (case zqkC => assumption); (case zqkK => first | exact rfl | assumption); (case zqkm0 => k_mem); (case zqkm1 => k_mem); (case zqkm2 => k_mem); (case zqkm3 => k_mem); (case zqkm4 => k_mem); (case zqkm5 => k_mem); (case zqkd => ktr_room); (case zqku => ktr_units)); intro h9 tk9 F9 N9; (all_goals (try k_sweep)); (all_goals (try dsimp only)); (all_goals (try k_fold)))
  have rattr_ok : ∀ (w : World) (mean : ExcName → Option Value) (mg mb : Str → Option Value), RattrOK (Mine.top.heap_1_39 w.params) Mine.top.view_1_40 w mean mg mb := by as_aux_lemma =>
    clear gcd_ok make_ok isna_ok neg_ok add_ok sub_ok mul_ok div_ok isfin_ok floor_ok idiv_ok remd_ok refusal_ok most_ok within_ok dop_ok whole_ok withinone_ok powone_ok powgen_ok dpone_ok dpgen_ok nonea_ok nonem_ok infa_ok infs_ok askone_ok askgen_ok askop_ok bead_ok power_ok pair_ok bounded_ok quot_ok due_ok asklaw_ok doplaw_ok dopfst_ok getat_ok dimof_ok attrib_ok leng_ok nitems_ok ditems_ok rdim_ok narr_ok nrec_ok reclen_ok comlen_ok
    intro w mean mg mb
    have ok_shape := shape_ok w mean mg mb
    clear shape_ok
    intro news V d l kt k1 k2 k3 k4 k5 p q n V' d' l' kt' k1' k2' k3' k4' k5' p' q' n' R hm0 hm1 hm2 hm3 hm4 hm5 dp un gd cn cs a ccd cl outer A₀ base h₀ L m s Q E kB kF kX kN kT hk hd hu hret
    refine wpAny_call ?_
    k_dflt cell_enter
    k_steps
    all_goals (walk_at "fin none"; done)
  k_with "call ref" => (k_here; (with_reducible show wpAny _ _ (call (Value.ref 310) _) _ _ _); k_dflt (refine' use_rattr ?zqk1 ?zqk2 ?zqk3 ?zqk4 ?zqk5 ?zqkC ?zqkK ?zqkm0 ?zqkm1 ?zqkm2 ?zqkm3 ?zqkm4 ?zqkm5 ?zqkd ?zqku ?_; (case zqk1 => k_asm); (case zqk2 => k_asm); (case zqk3 => k_asm); (case zqk4 => k_asm); (case zqk5 => k_asm); (case zqkC => assumption); (case zqkK => first | exact rfl | assumption); (case zqkm0 => k_mem); (case zqkm1 => k_mem); (case zqkm2 => k_mem); (case zqkm3 => k_mem); (case zqkm4 => k_mem); (case zqkm5 => k_mem); (case zqkd => ktr_room); (case zqku => ktr_units)); intro h9 tk9 F9 N9; (all_goals (try k_sweep)); (all_goals (try dsimp only)); (all_goals (try k_fold)))
  k_with "enter cells" => (k_dflt (refine' code_defC ?zqk1 ?zqk2 ?zqk3 ?zqk4 ?zqk5 ?zqkA ?zqkF ?zqkK ?zqk6 ?zqk7 ?zqk8 ?zqk9 ?zqkB ?zqkD ?_ ?zqc2 ?zqc3 ?zqc4; (case zqkA => exact rfl); (case zqkF => exact rfl); (case zqkK => assumption); (case zqk1 => k_asm); (case zqk2 => k_asm); (case zqk3 => k_asm); (case zqk4 => k_asm); (case zqk5 => k_asm); (case zqk6 => k_is); (case zqk7 => k_is); (case zqk8 => ktr_room); (case zqk9 => exact BindsTo.of_eq rfl); (case zqkB => exact rfl); (case zqkD => decide +kernel); (case zqc2 => exact rfl); (case zqc3 => exact rfl); (case zqc4 => exact rfl); k_whole); intro g' L' h' tk' cells' FG' F' N' Y' B' X' T' l1; (try k_lt l1); k_cells Y'; (try simp only [List.cons_append, List.nil_append] at N'); (try dsimp only); (try k_lift B'); (try k_fold))
  k_with "eval ListComp" => (k_here; k_dflt (refine comp_R (by k_asm) (by with_unfolding_all rfl) (by decide) (by rfl) (by decide) (by rfl) ?_))
  k_with "CSrc" => (k_here; k_dflt (refine c_src (by rfl) (by k_asm) (by k_asm) (by assumption) ?_; intro g'); (try dsimp only))
  k_with "CRest" => (with_unfolding_all first | (refine c_succ ?_; intro t' I' oI' C' oC' D' m' h' tk' hC' hx' F' N' off' ne'; (try simp only [List.nil_append, List.cons_append] at N'); (try dsimp only)) | (show LCg.FinE _ _ _ _ _ _ _))
  k_with "CEnd" => (refine' c_end1 ?zqF ?zqN ?zqoff ?zqe0 ?_; (case zqF => k_asm); (case zqN => k_asm); (case zqoff => assumption); (case zqe0 => assumption))
  k_with "eval Name" => (k_here; (with_reducible show wpAny _ _ (eval (Expr.Name _ _) (compEnvC _ _ _ _)) _ _ _); k_dflt (refine' lcf_cell ?zqN ?zqc ?zqm ?zqd ?_ ?zqa ?zqb; (case zqa => rfl); (case zqb => rfl); (case zqN => k_asm); (case zqc => rfl); (case zqm => k_mem); (case zqd => k_asm); k_whole))
  k_with "subscriptTail Name BinOp ref int" => (k_here; (with_reducible show wpAny _ _ (subscriptTail _ _ (Value.ref _) (Value.int _ _)) _ _ _); (with_unfolding_all refine' item_lis (lis_two ?zqN ?zqm) ?zqk2 ?zqk3 ?zqk4 ?_ ?zqk6; (case zqN => k_asm); (case zqm => k_mem); (case zqk2 => decide); (case zqk3 => decide); (case zqk4 => exact rfl); (case zqk6 => with_unfolding_all rfl); k_whole))
  k_with "fin lst" => (refine' ret_lst ?zqh ?zqok ?zqF ?zqN ?zqm1 ?zqm2 ?zqm3 ?zqhn; (case zqh => assumption); (case zqok => assumption); (case zqF => k_asm); (case zqN => k_asm); (case zqm1 => k_mem); (case zqm2 => k_mem); (case zqm3 => k_mem); (case zqhn => (intro x hx; repeat (first | exact hx | refine List.mem_cons_of_mem _ ?_))))
  k_with "notedBy" => (k_here; k_dflt (refine' raise_turn ?zqK ?zqF ?zqR ?zqU ?zqhn ?zqhx ?zqN ?zqoff ?_; (case zqR => assumption); (case zqK => assumption); (case zqF => assumption); (case zqU => assumption); (case zqhn => assumption); (case zqhx => assumption); (case zqN => k_asm); (case zqoff => assumption); k_whole); intro h' P'; (try dsimp only at P' ⊢))
  k_with "leaving ref" => (k_here; k_dflt (refine' leave_pass ?zqK ?zqP ?_; (case zqP => assumption); (case zqK => assumption); k_whole); intro h' R' U'; (try dsimp only at R' U' ⊢))
  have dres_ok : ∀ (w : World) (mean : ExcName → Option Value) (mg mb : Str → Option Value), DresOK (Mine.top.heap_1_39 w.params) Mine.top.view_1_40 w mean mg mb := by as_aux_lemma =>
    clear gcd_ok make_ok isna_ok neg_ok add_ok sub_ok mul_ok div_ok isfin_ok floor_ok idiv_ok remd_ok refusal_ok most_ok within_ok dop_ok whole_ok withinone_ok powone_ok powgen_ok dpone_ok dpgen_ok nonea_ok nonem_ok infa_ok infs_ok askone_ok askgen_ok askop_ok bead_ok power_ok pair_ok bounded_ok quot_ok due_ok asklaw_ok getat_ok dimof_ok attrib_ok leng_ok nitems_ok ditems_ok rdim_ok narr_ok nrec_ok reclen_ok comlen_ok shape_ok rattr_ok
    intro w mean mg mb
    have ok_doplaw := doplaw_ok w mean mg mb
    have ok_dopfst := dopfst_ok w mean mg mb
    clear doplaw_ok dopfst_ok
    intro news o ts tn lu lv P X R Y n1 n2 f k g l t1 t2 t3 t4 t u t' u' c1 c2 c c' hm0 hm1 hm2 hm3 hm4 hm5 hp0 hp1 hp2 hp3 hp4 hp5 dp un gd cn cs a ccd cl outer A₀ base h₀ L m s Q E kB kF kX kN kT hk hd hu hret
    refine wpAny_call ?_
    walk_at "enter cells"
    k_steps
    all_goals (try k_data)
    all_goals first
      | (walk_at "fin lst"; done)
      | (have hx := hret.2 (by assumption); walk_at "fin rexc"; done)
  k_with "call ref" => (k_here; (with_reducible show wpAny _ _ (call (Value.ref 355) _) _ _ _); k_dflt (refine' use_dres ?zqk1 ?zqk2 ?zqk3 ?zqk4 ?zqk5 ?zqkC ?zqkK ?zqkm0 ?zqkm1 ?zqkm2 ?zqkm3 ?zqkm4 ?zqkm5 ?zqkp0 ?zqkp1 ?zqkp2 ?zqkp3 ?zqkp4 ?zqkp5 ?zqkd ?zqku ?_; (case zqk1 => k_asm); (case zqk2 => k_asm); (case zqk3 => k_asm); (case zqk4 => k_asm); (case zqk5 => k_asm); (case zqkC => assumption); (case zqkK => first | exact rfl | assumption); (case zqkm0 => k_mem); (case zqkm1 => k_mem); (case zqkm2 => k_mem); (case zqkm3 => k_mem); (case zqkm4 => k_mem); (case zqkm5 => k_mem); (case zqkp0 => assumption); (case zqkp1 => assumption); (case zqkp2 => omega); (case zqkp3 => omega); (case zqkp4 => walk_at "imp"); (case zqkp5 => walk_at "imp"); (case zqkd => ktr_room); (case zqku => ktr_units)); (refine ⟨?_, ?_⟩ <;> intros); (all_goals (try k_sweep)); (all_goals (try dsimp only)); (all_goals (try k_fold)))
  k_with "fin vec" => (refine' ret_vec ?zqh ?zqok ?zqF ?zqN ?zqm4 ?zqm5 ?zqm1 ?zqm2 ?zqm3 ?zqhn; (case zqh => assumption); (case zqok => assumption); (case zqF => k_asm); (case zqN => k_asm); (case zqm4 => k_mem); (case zqm5 => k_mem); (case zqm1 => k_mem); (case zqm2 => k_mem); (case zqm3 => k_mem); (case zqhn => (intro x hx; repeat (first | exact hx | refine List.mem_cons_of_mem _ ?_))))
  have arith_ok : ∀ (w : World) (mean : ExcName → Option Value) (mg mb : Str → Option Value), ArithOK (Mine.top.heap_1_39 w.params) Mine.top.view_1_40 w mean mg mb := by as_aux_lemma =>
    clear gcd_ok make_ok isna_ok neg_ok add_ok sub_ok mul_ok div_ok isfin_ok floor_ok idiv_ok remd_ok refusal_ok most_ok within_ok dop_ok whole_ok withinone_ok powone_ok powgen_ok dpone_ok dpgen_ok nonea_ok nonem_ok infa_ok infs_ok askone_ok askgen_ok askop_ok bead_ok power_ok pair_ok bounded_ok quot_ok due_ok asklaw_ok doplaw_ok dopfst_ok getat_ok dimof_ok attrib_ok leng_ok rdim_ok narr_ok nrec_ok reclen_ok shape_ok
    intro w mean mg mb
    have ok_nitems := nitems_ok w mean mg mb
    have ok_comlen := comlen_ok w mean mg mb
    have ok_ditems := ditems_ok w mean mg mb
    have ok_dres := dres_ok w mean mg mb
    have ok_rattr := rattr_ok w mean mg mb
    clear nitems_ok comlen_ok ditems_ok dres_ok rattr_ok
    intro news o ts nt V d l kt k1 k2 k3 k4 k5 V' d' l' kt' k1' k2' k3' k4' k5' P X R Y n1 n2 f k g l0 t1 t2 t3 t4 t u t' u' c1 c2 c c' hm0 hm1 hm2 hm3 hm4 hm5 hm6 hm7 hm8 hm9 hp0 hp1 hp2 hp3 hp4 hp5 dp un gd cn cs a ccd cl outer A₀ base h₀ L m s Q E kB kF kX kN kT hk hd hu hret
    refine wpAny_call ?_
    k_dflt cell_enter
    k_steps
    all_goals (try k_data)
    all_goals first
      | (walk_at "fin vec"; done)
      | (have hx := hret.2 (by assumption); walk_at "fin rexc"; done)
  k_with "call ref" => (k_here; (with_reducible show wpAny _ _ (call (Value.ref 362) _) _ _ _); k_dflt (refine' use_arith ?zqk1 ?zqk2 ?zqk3 ?zqk4 ?zqk5 ?zqkC ?zqkK ?zqkm0 ?zqkm1 ?zqkm2 ?zqkm3 ?zqkm4 ?zqkm5 ?zqkm6 ?zqkm7 ?zqkm8 ?zqkm9 ?zqkp0 ?zqkp1 ?zqkp2 ?zqkp3 ?zqkp4 ?zqkp5 ?zqkd ?zqku ?_; (case zqk1 => k_asm); (case zqk2 => k_asm); (case zqk3 => k_asm); (case zqk4 => k_asm); (case zqk5 => k_asm); (case zqkC => assumption); (case zqkK => first | exact rfl | assumption); (case zqkm0 => k_mem); (case zqkm1 => k_mem); (case zqkm2 => k_mem); (case zqkm3 => k_mem); (case zqkm4 => k_mem); (case zqkm5 => k_mem); (case zqkm6 => k_mem); (case zqkm7 => k_mem); (case zqkm8 => k_mem); (case zqkm9 => k_mem); (case zqkp0 => assumption); (case zqkp1 => assumption); (case zqkp2 => omega); (case zqkp3 => omega); (case zqkp4 => walk_at "imp"); (case zqkp5 => walk_at "imp"); (case zqkd => ktr_room); (case zqku => ktr_units)); (refine ⟨?_, ?_⟩ <;> intros); (all_goals (try k_sweep)); (all_goals (try dsimp only)); (all_goals (try k_fold)))
  k_with "noteFrame ref" => (k_here; k_dflt (refine' caught_D0 (A₀ := callerA) ?zqR ?zqF ?zqK ?zqU ?zqX ?zqT ?zqex ?zqq ?_; (case zqR => assumption); (case zqF => assumption); (case zqK => assumption); (case zqU => assumption); (case zqX => k_asm); (case zqT => exact topRead_of (by k_asm)); (case zqex => k_is); (case zqq => kernel_rfl); k_whole); intro h' oe tk' F' N' c1 c2 c3; (try k_sweep))
  k_with "pt" => (refine' pt_end ?zqF ?zqN ?zqhc ?zqk1 ?zqk2 ?zqk3 ?zqht; (case zqF => k_asm); (case zqN => k_asm); (case zqhc => (intro x hx; repeat (first | exact hx | refine List.mem_cons_of_mem _ ?_))); (case zqk1 => assumption); (case zqk2 => assumption); (case zqk3 => exact rfl); (case zqht => first | exact told_ok (by assumption) (by k_mem) (by k_mem) (by k_mem) | exact told_no (by assumption)))
  k_with "ite" => (first | with_reducible refine ite_neg Bool.false_ne_true ?_ | with_reducible refine ite_pos (Eq.refl true) ?_)
  k_with "pu" => (refine' pu_end ?zqF ?zqN ?zqhc ?zqk1 ?zqk2 ?zqk3; (case zqF => k_asm); (case zqN => k_asm); (case zqhc => (intro x hx; repeat (first | exact hx | refine List.mem_cons_of_mem _ ?_))); (case zqk1 => first | exact rfl | assumption); (case zqk2 => first | exact rfl | assumption); (case zqk3 => first | exact rfl | assumption))
  k_with "pg" => (refine' pg_end ?zqF ?zqN ?zqhc ?zqk1 ?zqhm ?zqe ?zqk2 ?zqk3; (case zqF => k_asm); (case zqN => k_asm); (case zqk1 => exact rfl); (case zqhm => k_mem); (case zqe => exact rfl); (case zqhc => (intro x hx; repeat (first | exact hx | refine List.mem_cons_of_mem _ ?_))); (case zqk2 => first | exact rfl | assumption); (case zqk3 => first | exact rfl | assumption))
  k_with "eval Dict" => (k_here; (with_reducible show wpAny _ _ (eval (Expr.Dict (_ :: _) _ _) _) _ _ _); k_dflt (refine' kdn_str ?zqq ?zqF ?zqN ?zqb ?zqa ?zql ?zqe ?zqn ?_; (case zqq => rfl); (case zqF => k_asm); (case zqN => k_asm); (case zqb => exact Top.nolimit (by k_asm)); (case zqa => rfl); (case zql => rfl); (case zqe => exact List.cons_ne_nil _ _); (case zqn => exact Nat.le_of_ble_eq_true rfl)); intro d' h' o' F' N' l1 lo' hd'; (try k_lt l1))
  intro w s₀ s₁ mg mb G Y fa o pm cd doc dV kV ho hd hcd hD hmg hg args vals as hpre hlay hrd hwl hlo
  have KX := kIn_of Y
  k_behind G ho hd hcd hD hmg hpre hlay hrd hwl hlo cd
  (all_goals try k_fold)
  have ok_bead := bead_ok w (ExcName.means s₀.heap) mg mb
  have ok_power := power_ok w (ExcName.means s₀.heap) mg mb
  have ok_pair := pair_ok w (ExcName.means s₀.heap) mg mb
  have ok_bounded := bounded_ok w (ExcName.means s₀.heap) mg mb
  have ok_due := due_ok w (ExcName.means s₀.heap) mg mb
  have ok_askone := askone_ok w (ExcName.means s₀.heap) mg mb
  have ok_askgen := askgen_ok w (ExcName.means s₀.heap) mg mb
  have ok_asklaw := asklaw_ok w (ExcName.means s₀.heap) mg mb
  have ok_nonea := nonea_ok w (ExcName.means s₀.heap) mg mb
  have ok_nonem := nonem_ok w (ExcName.means s₀.heap) mg mb
  have ok_infa := infa_ok w (ExcName.means s₀.heap) mg mb
  have ok_infs := infs_ok w (ExcName.means s₀.heap) mg mb
  have ok_arith := arith_ok w (ExcName.means s₀.heap) mg mb
  clear gcd_ok make_ok isna_ok neg_ok add_ok sub_ok mul_ok div_ok isfin_ok floor_ok idiv_ok remd_ok refusal_ok most_ok within_ok dop_ok whole_ok withinone_ok powone_ok powgen_ok dpone_ok dpgen_ok nonea_ok nonem_ok infa_ok infs_ok askone_ok askgen_ok askop_ok bead_ok power_ok pair_ok bounded_ok quot_ok due_ok asklaw_ok doplaw_ok dopfst_ok getat_ok dimof_ok attrib_ok leng_ok nitems_ok ditems_ok rdim_ok narr_ok nrec_ok reclen_ok comlen_ok shape_ok rattr_ok dres_ok arith_ok
  k_dflt (show wpAny (model PySem.Challenge.pw_ov0068_01 w) (ktrTop _ _ _ _ _ _ _ _ [] []) _ _ _ _)
  dsimp only
  k_with "pyIter ref" => k_state (fun pre bs => bs.length ≤ 2 * pre.length) "beads"
  refine cut_B (by assumption) 8 PA' ?_ ?_
  · simp only [List.take_succ_cons, List.take_zero]
    intro Qn En hQn
    k_steps
    all_goals (subst hQn; walk_at "pa")
  · simp only [List.drop_succ_cons, List.drop_zero]
    rintro s' ⟨h', m, o, ts, f, k, g, l, X, Y, lb, us, ns, n, t, u, t', u', c, c', v, dl, ⟨tk', rfl⟩, hf, hg, hk, hl, w1, w2, mo, mx, my, md, mb, F, N, hi, hz, lX, lY, ld, hdue⟩
    try dsimp only
    have hoff : ∀ p ∈ (X, tupO (prA f k) (prB k) t u c) :: (Y, tupO (prA g l) (prB l) t' u' c') :: dl, p.1 ≠ lb := by
      intro p hp
      rcases List.mem_cons.mp hp with rfl | hp
      · exact Nat.ne_of_gt lX
      · rcases List.mem_cons.mp hp with rfl | hp
        · exact Nat.ne_of_gt lY
        · exact ld p hp
    refine cut_B F 10 (PB m ((X, tupO (prA f k) (prB k) t u c) :: (Y, tupO (prA g l) (prB l) t' u' c') :: dl)) ?_ ?_
    · simp only [List.take_succ_cons, List.take_zero]
      intro Qn En hQn
      generalize (X, tupO (prA f k) (prB k) t u c) :: (Y, tupO (prA g l) (prB l) t' u' c') :: dl = core at *
      clear w1 w2 mo mx my md lX lY ld hdue hf hg hk hl
      refine cut_B F 3 (P1 m core) ?_ ?_
      · simp only [List.take_succ_cons, List.take_zero]
        intro Qn En hQn
        k_steps
        all_goals (subst hQn; walk_at "p1")
      · simp only [List.drop_succ_cons, List.drop_zero]
        clear F N mb hi hz hoff
        rintro s' ⟨h1, tk1, m', nn, b, e, B, tb, ub, tn, cb, rfl, F, N, Kn, hb, hn, mb, mt⟩
        try dsimp only
        have hbf := base_fig hb
        obtain ⟨tb1, tb2⟩ := tiny_base hb
        have hbp := base_p hb
        have hbe : -5000 ≤ e ∧ e ≤ 5000 := by unfold BaseOk at hb; omega
        obtain ⟨k1, k2, k3, k4⟩ := Kn
        refine cut_B F 1 (P2 m core b e nn B tb ub tn cb) ?_ ?_
        · simp only [List.take_succ_cons, List.take_zero]
          intro Qn En hQn
          by_cases hone : isOne b e nn
          · have hone' := hone
            unfold isOne at hone'
            k_steps
            all_goals (subst hQn; walk_at "p2")
          · have hone' := hone
            unfold isOne at hone'
            k_steps
            all_goals (subst hQn; walk_at "p2")
        · simp only [List.drop_succ_cons, List.drop_zero]
          clear F N mb mt k1 k2 k3 k4
          rintro s' ⟨h1, tk1, m', v2, core', rfl, F, N, hcc, ⟨k1, k2, k3, k4⟩, hlift, mb, mt, ml⟩
          try dsimp only
          have ht3 := tiny_abs hb
          have hfar := far_bd hb hn
          refine cut_B F 4 (P3 m core' b e nn B tb ub tn cb v2) ?_ ?_
          · simp only [List.take_succ_cons, List.take_zero]
            intro Qn En hQn
            k_steps
            all_goals (subst hQn; walk_at "p3")
          · simp only [List.drop_succ_cons, List.drop_zero]
            clear F N mb mt ml k1 k2 k3 k4 ht3 hbp tb1 tb2 hbe
            rintro s' ⟨h1, tk1, m', t1, t2, t3, rfl, F, N, ⟨k1, k2, k3, k4⟩, mb, mt, ml, m1, m2, m3⟩
            try dsimp only
            have sz0 := absI_nn nn
            have sz1 : absI nn ≤ 5100 := by unfold absI; split <;> omega
            have bab := bits_abv hb sz0 sz1
            have i1 : IntMulOk (abv b (absI nn)) (10 ^ (if 0 > e * absI nn then 0 else e * absI nn).toNat) := IntMulOk.of_le bab (bits_ten _) (by split <;> omega)
            have i2 : IntMulOk (if abv b (absI nn) < 0 then -abv b (absI nn) else abv b (absI nn)) (10 ^ (if 0 > e * absI nn then 0 else e * absI nn).toNat) := IntMulOk.of_le (by split; exact PySem.intBits_neg_le bab; exact bab) (bits_ten _) (by split <;> omega)
            have i3 : IntMulOk (-1) (10 ^ (if 0 > 0 - e * absI nn then 0 else 0 - e * absI nn).toNat) := IntMulOk.of_le (m := 1) (by decide) (bits_ten _) (by split <;> omega)
            have i4 : IntMulOk 1 (10 ^ (if 0 > 0 - e * absI nn then 0 else 0 - e * absI nn).toNat) := IntMulOk.of_le (m := 1) (by decide) (bits_ten _) (by split <;> omega)
            clear bab
            generalize hab : abv b (absI nn) = ab at *
            generalize hfr : e * absI nn = fr at *
            have hab' := hab.symm
            have hfr' := hfr.symm
            clear hab hfr
            have ht10 := tiny10
            refine cut_B F 1 (P4 m core' b e nn v2) ?_ ?_
            · simp only [List.take_succ_cons, List.take_zero]
              intro Qn En hQn
              by_cases hfa : Far b e nn
              · have f1 := hfa.1
                have f2 := lis_ne hfa.2
                generalize hsz : absI nn = sz at m1 f1 sz0 sz1
                clear i1 i2 i3 i4 hb hbf
                k_steps
                all_goals (subst hQn; walk_at "p4")
              · have f0 : absI nn ≤ 4096 ∨ [b, e] = [1, 0] := by
                  unfold Far at hfa
                  by_cases h1 : b = 1 ∧ e = 0
                  · exact .inr (lis_eq h1)
                  · exact .inl (by omega)
                generalize hsz : absI nn = sz at m1 f0 sz0 sz1
                clear hb hbf
                by_cases hnn : 0 ≤ nn
                · rcases f0 with f0 | f0
                  · k_steps
                    all_goals (subst hQn; walk_at "p4")
                  · k_steps
                    all_goals (subst hQn; walk_at "p4")
                · by_cases hneg : ab < 0
                  · rcases f0 with f0 | f0
                    · k_steps
                      all_goals (subst hQn; walk_at "p4")
                    · k_steps
                      all_goals (subst hQn; walk_at "p4")
                  · rcases f0 with f0 | f0
                    · k_steps
                      all_goals (subst hQn; walk_at "p4")
                    · k_steps
                      all_goals (subst hQn; walk_at "p4")
            · simp only [List.drop_succ_cons, List.drop_zero]
              clear F N k1 k2 k3 k4 ml m1 m2 m3 mb mt hab' hfr' i1 i2 i3 i4 sz0 sz1 hfar
              rintro s' ⟨h1, tk1, m', v3, core2, rfl, F, N, hc2, ⟨k1, k2, k3, k4⟩, hwant, ml, mw⟩
              try dsimp only
              have hc3 : ∀ p ∈ core, p ∈ core2 := fun p hp => hc2 p (hcc p hp)
              have hsame := same_v hb hlift hwant hc2
              clear hcc hc2 hlift hwant hb hbf
              rcases hsame with ⟨rfl, D, t1, t2, c1, rfl, hm1⟩ | ⟨p, q, D, D', t1, t2, t3, t4, c1, c2, rfl, rfl, hm1, hm2⟩ | ⟨t1, t2, rfl, rfl⟩
              · k_steps
                all_goals (subst hQn; walk_at "pb")
              · k_steps
                all_goals (subst hQn; walk_at "pb")
              · k_steps
                all_goals (subst hQn; walk_at "pb")
    · simp only [List.drop_succ_cons, List.drop_zero]
      rintro s' ⟨h1, tk1, m', rfl, F, N, ⟨k1, k2, k3, k4⟩⟩
      try dsimp only
      have mo' := k1.trans mo
      have mx' := k2.trans mx
      have my' := k3.trans my
      have md' := k4.trans md
      have qk := prB_gt k
      have ql := prB_gt l
      clear k1 k2 k3 k4 mo mx my md mb hi hz lX lY ld hoff
      refine cut_B F 2 (PC o.s ts X Y v ((X, tupO (prA f k) (prB k) t u c) :: (Y, tupO (prA g l) (prB l) t' u' c') :: dl)) ?_ ?_
      · simp only [List.take_succ_cons, List.take_zero]
        intro Qn En hQn
        clear hdue w1 w2 hf hg hk hl
        generalize hcore : (X, tupO (prA f k) (prB k) t u c) :: (Y, tupO (prA g l) (prB l) t' u' c') :: dl = core at *
        have hmx : (X, tupO (prA f k) (prB k) t u c) ∈ core := by rw [← hcore]; exact .head _
        clear hcore
        k_steps
        all_goals (subst hQn; walk_at "pc")
      · simp only [List.drop_succ_cons, List.drop_zero]
        clear F N mo' mx' my' md'
        rintro s' ⟨h2, tk2, m2, rfl, F, N, mo', mx', my', md'⟩
        try dsimp only
        obtain ⟨hk1, hk2⟩ := hk
        obtain ⟨hl1, hl2⟩ := hl
        have hdue' := due_in (core := (X, tupO (prA f k) (prB k) t u c) :: (Y, tupO (prA g l) (prB l) t' u' c') :: dl) hdue fun p hp => .tail _ (.tail _ hp)
        generalize hcore : (X, tupO (prA f k) (prB k) t u c) :: (Y, tupO (prA g l) (prB l) t' u' c') :: dl = core at *
        have hmx : (X, tupO (prA f k) (prB k) t u c) ∈ core := by rw [← hcore]; exact .head _
        have hmy : (Y, tupO (prA g l) (prB l) t' u' c') ∈ core := by rw [← hcore]; exact .tail _ (.head _)
        clear hcore hdue
        refine cut_B F 1 (PT o ts v f k g l core) ?_ ?_
        · simp only [List.take_succ_cons, List.take_zero]
          intro Qn En hQn
          clear hdue'
          k_steps
          all_goals (subst hQn; walk_at "pt")
        · simp only [List.drop_succ_cons, List.drop_zero]
          clear F N mo' mx' my' md' hmx hmy hf hg hk1 hk2 hl1 hl2 w1 w2 qk ql
          rintro s' ⟨h3, tk3, m3, vt, core', rfl, F, N, hcc, mo', md', mt', htold⟩
          try dsimp only
          have hfin := told_due htold hdue' hcc
          clear htold hdue' hcc
          rcases hfin with ⟨p, q, D, A, B, T, t1, t2, t3, t4, t5, t6, c1, c2, c3, n1, rfl, rfl, hm1, hm2, hm3, hm4⟩ | ⟨t1, t2, rfl, rfl⟩
          · refine cut_B F 1 (PU m3 core') ?_ ?_
            · simp only [List.take_succ_cons, List.take_zero]
              intro Qn En hQn
              clear mo' hm2 hm3 hm4
              k_steps
              all_goals (subst hQn; walk_at "pu")
            · simp only [List.drop_succ_cons, List.drop_zero]
              clear F N
              rintro s' ⟨h4, tk4, m4, rfl, F, N, k1, k2, k3⟩
              try dsimp only
              have mo2 := k1.trans mo'
              have md2 := k2.trans md'
              have mt2 := k3.trans mt'
              clear k1 k2 k3 mo' md' mt'
              refine cut_B F 1 (PG (fstA o) m4 core') ?_ ?_
              · simp only [List.take_succ_cons, List.take_zero]
                intro Qn En hQn
                clear hm1 hm2 hm3 hm4 md2 mt2
                k_with "subscriptTail Dict" => (cases o <;> dsimp only [Op.s, fstA])
                k_steps
                all_goals (subst hQn; walk_at "pg")
              · simp only [List.drop_succ_cons, List.drop_zero]
                clear F N
                rintro s' ⟨h5, tk5, m5, G, t7, t8, c4, core2, rfl, F, N, hc2, hm5, mf, k2, k3⟩
                try dsimp only
                have md3 := k2.trans md2
                have mt3 := k3.trans mt2
                replace hm1 := hc2 _ hm1
                replace hm2 := hc2 _ hm2
                replace hm3 := hc2 _ hm3
                replace hm4 := hc2 _ hm4
                clear k2 k3 mo2 md2 mt2 hc2
                k_steps
          · k_steps
end Mine
theorem PySem.Challenge.cw_ov0068_01_holds : PySem.Challenge.rw_ov0068_01.Holds :=
  Mine.top
