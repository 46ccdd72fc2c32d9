import PyProof.Rows.All
import Wide.All
import OpenK.AllK
import Wide.FinOn
import HandS.ForMost
import HandS.Exc
import HandS.TryOnly
import HandS.ExcOwn
import HandS.IsInst
import HandS.Flow
import HandS.TupAny
import HandS.TupMul
import HandS.Deep
import HandS.Wide
import HandS.Zip
import KE.GoesEnum
import HandS.ExcInit
import HandS.ExcField
import HandS.ExcIs
import HandS.ClsMeth
import HandS.WordsExc
import KE.KExcIs
import HandS.FStr
import HandS.Style
import PyProof.FString2
import HandS.Defaults
import HandS.More
import KE.KxIndex
import HandS.SetFor
import HandS.Strs
import PySem.Challenge.RW_blindslots_k08_logs_that_are_impossible
set_option Elab.async false
set_option linter.all false
set_option maxRecDepth 100000
set_option maxHeartbeats 2000000
namespace DL
open PySem L2

/-- data: tuples and unshared lists by value, shared objects by address -/
inductive D where
  | non | bl (b : Bool) | int (i : Int) | str (s : Str) | tup (ds : List D) | lst (ds : List D) | ref (a : Addr) | lsk (ds : List D)
mutual
inductive R (K : PySem.W.Frag) (F : Hp) : V → D → Prop
  | non : R K F .non .non
  | bl (b : Bool) : R K F (.bl b) (.bl b)
  | int (i : Int) : R K F (.int i) (.int i)
  | str (x : Str) : R K F (.str x) (.str x)
  | tup {a : Addr} {xs : List V} {ds : List D} : SqT K F a xs → Rs K F xs ds → R K F (.ref a) (.tup ds)
  | lst {a : Addr} {xs : List V} {ds : List D} : F a = some (.lst xs) → Rs K F xs ds → R K F (.ref a) (.lst ds)
  | lsk {a : Addr} {xs : List V} {ds : List D} : SqL K F a xs → Rs K F xs ds → R K F (.ref a) (.lsk ds)
  | ref (a : Addr) : R K F (.ref a) (.ref a)
inductive Rs (K : PySem.W.Frag) (F : Hp) : List V → List D → Prop
  | nil : Rs K F [] []
  | cons {v : V} {vs : List V} {d : D} {ds : List D} : R K F v d → Rs K F vs ds → Rs K F (v :: vs) (d :: ds)
end
def Ex (H H' : Hp) : Prop := ∀ a o, H a = some o → H' a = some o
theorem Ex.refl (H : Hp) : Ex H H := fun _ _ h => h
theorem Ex.trans {H H1 H2 : Hp} (a : Ex H H1) (b : Ex H1 H2) : Ex H H2 := fun c o h => b c o (a c o h)
theorem Ex.new {H : Hp} {p : Addr} {o : HO} (h : H p = none) : Ex H (upd H p o) := fun c u e => by
  rw [upd_ne (ne_of_none e h)]; exact e
theorem ex_rd {H H' : Hp} {a : Addr} {u : HO} (e : Ex H H') (h : Rd H a u) : Rd H' a u := by
  rcases h with h | ⟨o, h⟩
  · exact .inl (e _ _ h)
  · exact .inr ⟨o, e _ _ h⟩
theorem ex_t {K : PySem.W.Frag} {H H' : Hp} {a : Addr} {xs : List V} (e : Ex H H') (h : SqT K H a xs) : SqT K H' a xs := by
  rcases h with h | h
  · exact .inl (ex_rd e h)
  · exact .inr h
theorem ex_l {K : PySem.W.Frag} {H H' : Hp} {a : Addr} {xs : List V} (e : Ex H H') (h : SqL K H a xs) : SqL K H' a xs := by
  rcases h with h | h
  · exact .inl (ex_rd e h)
  · exact .inr h
mutual
theorem R.mono {K : PySem.W.Frag} {F F' : Hp} (e : Ex F F') : ∀ {v : V} {d : D}, R K F v d → R K F' v d
  | _, _, .non => .non
  | _, _, .bl b => .bl b
  | _, _, .int i => .int i
  | _, _, .str x => .str x
  | _, _, .tup h r => .tup (ex_t e h) (Rs.mono e r)
  | _, _, .lst h r => .lst (e _ _ h) (Rs.mono e r)
  | _, _, .lsk h r => .lsk (ex_l e h) (Rs.mono e r)
  | _, _, .ref a => .ref a
theorem Rs.mono {K : PySem.W.Frag} {F F' : Hp} (e : Ex F F') : ∀ {vs : List V} {ds : List D}, Rs K F vs ds → Rs K F' vs ds
  | _, _, .nil => .nil
  | _, _, .cons h r => .cons (R.mono e h) (Rs.mono e r)
end
section
variable {K : PySem.W.Frag} {F : Hp}
theorem Rs.length : ∀ {vs : List V} {ds : List D}, Rs K F vs ds → vs.length = ds.length
  | _, _, .nil => rfl
  | _, _, .cons _ r => by rw [List.length_cons, List.length_cons, Rs.length r]
theorem Rs.get : ∀ {vs : List V} {ds : List D} {i : Nat} {d : D}, Rs K F vs ds → ds[i]? = some d → ∃ v, vs[i]? = some v ∧ R K F v d
  | _, _, _, _, .nil, e => by simp at e
  | _, _, 0, _, .cons h _, e => by simp at e; subst e; exact ⟨_, rfl, h⟩
  | _, _, i + 1, d, .cons _ r, e => by
    obtain ⟨v, h1, h2⟩ := Rs.get (i := i) (d := d) r (by simpa using e)
    exact ⟨v, by simpa using h1, h2⟩
theorem Rs.getV : ∀ {vs : List V} {ds : List D} {i : Nat} {v : V}, Rs K F vs ds → vs[i]? = some v → ∃ d, ds[i]? = some d ∧ R K F v d
  | _, _, _, _, .nil, e => by simp at e
  | _, _, 0, _, .cons h _, e => by simp at e; subst e; exact ⟨_, rfl, h⟩
  | _, _, i + 1, v, .cons _ r, e => by
    obtain ⟨d, h1, h2⟩ := Rs.getV (i := i) (v := v) r (by simpa using e)
    exact ⟨d, by simpa using h1, h2⟩
theorem Rs.append : ∀ {vs ws : List V} {ds es : List D}, Rs K F vs ds → Rs K F ws es → Rs K F (vs ++ ws) (ds ++ es)
  | _, _, _, _, .nil, s => s
  | _, _, _, _, .cons h r, s => .cons h (Rs.append r s)
theorem Rs.take : ∀ {vs : List V} {ds : List D} (n : Nat), Rs K F vs ds → Rs K F (vs.take n) (ds.take n)
  | _, _, 0, _ => by simpa using Rs.nil
  | _, _, _ + 1, .nil => by simpa using Rs.nil
  | _, _, n + 1, .cons h r => .cons h (Rs.take n r)
theorem Rs.drop : ∀ {vs : List V} {ds : List D} (n : Nat), Rs K F vs ds → Rs K F (vs.drop n) (ds.drop n)
  | _, _, 0, r => r
  | _, _, _ + 1, .nil => by simpa using Rs.nil
  | _, _, n + 1, .cons _ r => Rs.drop n r
theorem Rs.set {v : V} {d : D} (h : R K F v d) : ∀ {vs : List V} {ds : List D} (i : Nat), Rs K F vs ds → Rs K F (vs.set i v) (ds.set i d)
  | _, _, _, .nil => .nil
  | _, _, 0, .cons _ r => .cons h r
  | _, _, i + 1, .cons q r => .cons q (Rs.set h i r)
theorem Rs.eraseIdx : ∀ {vs : List V} {ds : List D} (i : Nat), Rs K F vs ds → Rs K F (vs.eraseIdx i) (ds.eraseIdx i)
  | _, _, _, .nil => by simpa using Rs.nil
  | _, _, 0, .cons _ r => r
  | _, _, i + 1, .cons q r => .cons q (Rs.eraseIdx i r)
theorem Rs.reverse : ∀ {vs : List V} {ds : List D}, Rs K F vs ds → Rs K F vs.reverse ds.reverse
  | _, _, .nil => by simpa using Rs.nil
  | _, _, .cons h r => by
    rw [List.reverse_cons, List.reverse_cons]
    exact (Rs.reverse r).append (.cons h .nil)
theorem Rs.replicate {vs : List V} {ds : List D} (r : Rs K F vs ds) : ∀ n : Nat, Rs K F (List.replicate n vs).flatten (List.replicate n ds).flatten
  | 0 => by simpa using Rs.nil
  | n + 1 => by
    rw [List.replicate_succ, List.replicate_succ, List.flatten_cons, List.flatten_cons]
    exact r.append (Rs.replicate r n)
theorem R.int_inv {v : V} {i : Int} (h : R K F v (.int i)) : v = .int i := by cases h; rfl
theorem R.bl_inv {v : V} {i : Bool} (h : R K F v (.bl i)) : v = .bl i := by cases h; rfl
theorem R.str_inv {v : V} {i : Str} (h : R K F v (.str i)) : v = .str i := by cases h; rfl
theorem R.non_inv {v : V} (h : R K F v .non) : v = .non := by cases h; rfl
theorem R.ref_inv {v : V} {a : Addr} (h : R K F v (.ref a)) : v = .ref a := by cases h; rfl
theorem R.tup_inv {v : V} {ds : List D} (h : R K F v (.tup ds)) : ∃ a vs, v = .ref a ∧ SqT K F a vs ∧ Rs K F vs ds := by
  cases h with
  | tup h r => exact ⟨_, _, rfl, h, r⟩
theorem R.lst_inv {v : V} {ds : List D} (h : R K F v (.lst ds)) : ∃ a vs, v = .ref a ∧ F a = some (.lst vs) ∧ Rs K F vs ds := by
  cases h with
  | lst h r => exact ⟨_, _, rfl, h, r⟩
theorem R.lsk_inv {v : V} {ds : List D} (h : R K F v (.lsk ds)) : ∃ a vs, v = .ref a ∧ SqL K F a vs ∧ Rs K F vs ds := by
  cases h with
  | lsk h r => exact ⟨_, _, rfl, h, r⟩
theorem Rs.ints : ∀ {vs : List V} {ns : List Int}, Rs K F vs (ns.map D.int) → vs = ns.map V.int
  | _, [], h => by cases h; rfl
  | _, n :: ns, h => by
    cases h with
    | cons a r => rw [a.int_inv, Rs.ints r]; rfl
theorem Rs.bls : ∀ {vs : List V} {ns : List Bool}, Rs K F vs (ns.map D.bl) → vs = ns.map V.bl
  | _, [], h => by cases h; rfl
  | _, n :: ns, h => by
    cases h with
    | cons a r => rw [a.bl_inv, Rs.bls r]; rfl
theorem Rs.strs : ∀ {vs : List V} {ns : List Str}, Rs K F vs (ns.map D.str) → vs = ns.map V.str
  | _, [], h => by cases h; rfl
  | _, n :: ns, h => by
    cases h with
    | cons a r => rw [a.str_inv, Rs.strs r]; rfl
theorem rs_ints : ∀ (ns : List Int), Rs K F (ns.map V.int) (ns.map D.int)
  | [] => .nil
  | n :: ns => .cons (.int n) (rs_ints ns)
end

/-! ### shared objects -/
inductive MO where
  | lst (xs : List D) | ins (C : Addr) (fs : List (Str × D)) | exc (C : Addr) (fs : List (Str × D))
  | dk (kvs : List (Key × D))
abbrev MH := Addr → Option MO
def mu (M : MH) (a : Addr) (o : MO) : MH := fun b => if b = a then some o else M b
theorem mu_same {M : MH} {a : Addr} {o : MO} : mu M a o a = some o := by unfold mu; rw [if_pos rfl]
theorem mu_ne {M : MH} {a b : Addr} {o : MO} (h : b ≠ a) : mu M a o b = M b := by unfold mu; rw [if_neg h]
theorem mu_mu {M : MH} {a : Addr} {o u : MO} : mu (mu M a o) a u = mu M a u := by funext b; unfold mu; split <;> rfl
/-- at a: an exception of the class at C, its own dict at dx -/
def xob (a C dx : Addr) : HO := .ext fun h => ∃ (oe : Obj) (vs : Array Value), h.get? a = some oe ∧ Zc (.ref C) (some dx) oe ∧ oe.data = .fields vs
inductive Fds (K : PySem.W.Frag) (F : Hp) : List (Str × V) → List (Str × D) → Prop
  | nil : Fds K F [] []
  | cons {f : Str} {v : V} {d : D} {fv : List (Str × V)} {fs : List (Str × D)} : R K F v d → Fds K F fv fs → Fds K F ((f, v) :: fv) ((f, d) :: fs)
inductive Kds (K : PySem.W.Frag) (F : Hp) : List (Key × V) → List (Key × D) → Prop
  | nil : Kds K F [] []
  | cons {f : Key} {v : V} {d : D} {fv : List (Key × V)} {fs : List (Key × D)} : R K F v d → Kds K F fv fs → Kds K F ((f, v) :: fv) ((f, d) :: fs)
def MoR (K : PySem.W.Frag) (F H : Hp) (a : Addr) : MO → Prop
  | .lst xs => ∃ vs, H a = some (.lst vs) ∧ Rs K F vs xs
  | .ins C fs => ∃ dx fv, H a = some (.ins C dx fv) ∧ Fds K F fv fs
  | .exc C fs => ∃ dx fv, H a = some (xob a C dx) ∧ F dx = some (.xd fv) ∧ Fds K F fv fs
  | .dk kvs => ∃ kv, H a = some (.dK kv) ∧ Kds K F kv kvs
theorem Fds.mono {K : PySem.W.Frag} {F F' : Hp} (e : Ex F F') : ∀ {fv : List (Str × V)} {fs : List (Str × D)}, Fds K F fv fs → Fds K F' fv fs
  | _, _, .nil => .nil
  | _, _, .cons h r => .cons (h.mono e) (Fds.mono e r)
theorem Kds.mono {K : PySem.W.Frag} {F F' : Hp} (e : Ex F F') : ∀ {fv : List (Key × V)} {fs : List (Key × D)}, Kds K F fv fs → Kds K F' fv fs
  | _, _, .nil => .nil
  | _, _, .cons h r => .cons (h.mono e) (Kds.mono e r)
end DL

set_option Elab.async false
set_option linter.all false
set_option maxRecDepth 100000
set_option maxHeartbeats 2000000
namespace DL
open PySem L2
/-- a slot: a value, or a list that nobody else holds -/
inductive Sl where
  | d (x : D) | own (xs : List D)
def Sl.fz : Sl → D
  | .d x => x
  | .own xs => .lst xs
abbrev DS := List (Option Sl)
/-- the ground: the entry of the def -/
structure Gd where
  K : PySem.W.Frag
  H0 : Hp
  F0 : Hp
  M0 : MH
structure Fra (G : Gd) (F : Hp) (M : MH) (H : Hp) : Prop where
  ex : Ex F H
  ex0 : Ex G.F0 F
  keep : ∀ a o, G.H0 a = some o → G.M0 a = none → H a = some o
  newF : ∀ a, F a ≠ none → G.F0 a ≠ none ∨ G.H0 a = none
  newM : ∀ a, M a ≠ none → G.M0 a ≠ none ∨ G.H0 a = none
  dom : ∀ a, G.H0 a ≠ none → H a ≠ none
  domM : ∀ a, G.M0 a ≠ none → M a ≠ none
  mem : ∀ a mo, M a = some mo → F a = none ∧ MoR G.K F H a mo
def OwnAt (G : Gd) (F : Hp) (M : MH) (H : Hp) (a : Addr) (xs : List D) : Prop :=
  ∃ vs, H a = some (.lst vs) ∧ Rs G.K F vs xs ∧ F a = none ∧ M a = none ∧ G.H0 a = none
/-- the data state stands for the slots and the heap -/
structure Rep (G : Gd) (F : Hp) (δ : DS) (M : MH) (σ : L2.St) (H : Hp) : Prop where
  fr : Fra G F M H
  len : δ.length = σ.length
  val : ∀ (i : Nat) (x : D), δ[i]? = some (some (.d x)) → ∃ v, σ[i]? = some (some v) ∧ R G.K F v x
  own : ∀ (i : Nat) (xs : List D), δ[i]? = some (some (.own xs)) → ∃ a, σ[i]? = some (some (.ref a)) ∧ OwnAt G F M H a xs
  inj : ∀ (i j : Nat) (xs ys : List D) (a : Addr), δ[i]? = some (some (.own xs)) → δ[j]? = some (some (.own ys)) → σ[i]? = some (some (.ref a)) → σ[j]? = some (some (.ref a)) → i = j
/-- a result -/
def SvR (G : Gd) (F : Hp) (δ : DS) (M : MH) (σ : L2.St) (H : Hp) (v : V) : Sl → Prop
  | .d x => R G.K F v x
  | .own xs => ∃ a, v = .ref a ∧ OwnAt G F M H a xs ∧ ∀ (i : Nat) (ys : List D), δ[i]? = some (some (.own ys)) → σ[i]? ≠ some (some (.ref a))
/-- an operand: a value, or an own slot that is looked at -/
def Opn (G : Gd) (F : Hp) (δ : DS) (σ : L2.St) (v : V) (d : D) : Prop :=
  R G.K F v d ∨ ∃ (i : Nat) (xs : List D), δ[i]? = some (some (.own xs)) ∧ σ[i]? = some (some v) ∧ d = .lst xs
abbrev XP := Addr → List (Str × D) → DS → MH → Prop
abbrev DE := DS → MH → (Sl → MH → Prop) → XP → Prop
abbrev DX := DS → MH → (D → MH → Prop) → XP → Prop
abbrev DT := DS → MH → (Bool → MH → Prop) → XP → Prop
abbrev DA := DS → MH → (List D → MH → Prop) → XP → Prop
structure DEnds where
  nx : DS → MH → Prop
  rt : Sl → MH → Prop
  bk : DS → MH → Prop
  ct : DS → MH → Prop
  ex : XP
abbrev DP := DEnds → DS → MH → Prop
/-- what is wished of an exception -/
def XOk (G : Gd) (W : WX) (δ : DS) (σ : L2.St) (Ed : XP) : Prop :=
  ∀ C fs F M H dx fv, Rep G F δ M σ H → H dx = some (.xd fv) → Fds G.K F fv fs → G.H0 dx = none → Ed C fs δ M → W (.ref C) (some dx) σ H
def LE (G : Gd) (W : WX) (td : DE) : TE := fun σ H Q => ∃ F δ M Qd Ed, Rep G F δ M σ H ∧ td δ M Qd Ed ∧
  (∀ r v F' M' H', Rep G F' δ M' σ H' → Ex F F' → SvR G F' δ M' σ H' v r → Qd r M' → Q v H') ∧ XOk G W δ σ Ed
def LV (G : Gd) (W : WX) (td : DX) : TE := fun σ H Q => ∃ F δ M Qd Ed, Rep G F δ M σ H ∧ td δ M Qd Ed ∧
  (∀ d v F' M' H', Rep G F' δ M' σ H' → Ex F F' → R G.K F' v d → Qd d M' → Q v H') ∧ XOk G W δ σ Ed
def LO (G : Gd) (W : WX) (td : DX) : TE := fun σ H Q => ∃ F δ M Qd Ed, Rep G F δ M σ H ∧ td δ M Qd Ed ∧
  (∀ d v F' M' H', Rep G F' δ M' σ H' → Ex F F' → Opn G F' δ σ v d → Qd d M' → Q v H') ∧ XOk G W δ σ Ed
def LT (G : Gd) (W : WX) (td : DT) : TT := fun σ H Q => ∃ F δ M Qd Ed, Rep G F δ M σ H ∧ td δ M Qd Ed ∧
  (∀ b F' M' H', Rep G F' δ M' σ H' → Ex F F' → Qd b M' → Q b H') ∧ XOk G W δ σ Ed
def LA (G : Gd) (W : WX) (td : DA) : TA := fun σ H Q => ∃ F δ M Qd Ed, Rep G F δ M σ H ∧ td δ M Qd Ed ∧
  (∀ ds vs F' M' H', Rep G F' δ M' σ H' → Ex F F' → Rs G.K F' vs ds → Qd ds M' → Q vs H') ∧ XOk G W δ σ Ed
/-- operands in a row -/
inductive Opns (G : Gd) (F : Hp) (δ : DS) (σ : L2.St) : List V → List D → Prop
  | nil : Opns G F δ σ [] []
  | cons {v : V} {d : D} {vs : List V} {ds : List D} : Opn G F δ σ v d → Opns G F δ σ vs ds → Opns G F δ σ (v :: vs) (d :: ds)
def LAO (G : Gd) (W : WX) (td : DA) : TA := fun σ H Q => ∃ F δ M Qd Ed, Rep G F δ M σ H ∧ td δ M Qd Ed ∧
  (∀ ds vs F' M' H', Rep G F' δ M' σ H' → Ex F F' → Opns G F' δ σ vs ds → Qd ds M' → Q vs H') ∧ XOk G W δ σ Ed
def RetR (G : Gd) (F : Hp) (M : MH) (H : Hp) (v : V) : Sl → Prop
  | .d x => R G.K F v x
  | .own xs => ∃ a, v = .ref a ∧ OwnAt G F M H a xs
structure EndsOk (G : Gd) (W : WX) (F1 : Hp) (D : Ends) (E : DEnds) : Prop where
  nx : ∀ F δ M σ H, Rep G F δ M σ H → Ex F1 F → E.nx δ M → D.nx σ H
  rt : ∀ r v F M H, Fra G F M H → RetR G F M H v r → E.rt r M → D.rt v H
  bk : ∀ F δ M σ H, Rep G F δ M σ H → Ex F1 F → E.bk δ M → D.bk σ H
  ct : ∀ F δ M σ H, Rep G F δ M σ H → Ex F1 F → E.ct δ M → D.ct σ H
  ex : ∀ δ σ, XOk G W δ σ E.ex
def LS (G : Gd) (W : WX) (td : DP) : TS := fun D σ H => ∃ F δ M E, Rep G F δ M σ H ∧ td E δ M ∧ EndsOk G W F D E

theorem pe_imp {X : Cx} {e : Expr} {t t' : TE} (h : PE X e t) (k : ∀ σ H Q, t' σ H Q → t σ H Q) : PE X e t' := ⟨fun pins s σ H Q I z => h.run pins s σ H Q I (k σ H Q z)⟩
theorem pt_imp {X : Cx} {e : Expr} {t t' : TT} (h : PT X e t) (k : ∀ σ H Q, t' σ H Q → t σ H Q) : PT X e t' := ⟨fun pins s σ H Q I z => h.run pins s σ H Q I (k σ H Q z)⟩
theorem pw_imp {X : Cx} {e : Expr} {t t' : TT} (h : PW X e t) (k : ∀ σ H Q, t' σ H Q → t σ H Q) : PW X e t' := ⟨fun whole pins s σ H Q I z => h.run whole pins s σ H Q I (k σ H Q z)⟩
theorem pa_imp {X : Cx} {e : List Expr} {t t' : TA} (h : PA X e t) (k : ∀ σ H Q, t' σ H Q → t σ H Q) : PA X e t' := ⟨fun pos pins s σ H Q I z => h.run pos pins s σ H Q I (k σ H Q z)⟩
theorem ps_imp {X : Cx} {st : Stmt} {t t' : TS} (h : PS X st t) (k : ∀ D σ H, t' D σ H → t D σ H) : PS X st t' := ⟨fun pins s σ H D I z => h.run pins s σ H D I (k D σ H z)⟩
theorem pss_imp {X : Cx} {st : List Stmt} {t t' : TS} (h : PSs X st t) (k : ∀ D σ H, t' D σ H → t D σ H) : PSs X st t' := ⟨fun pins s σ H D I z => h.run pins s σ H D I (k D σ H z)⟩

/-! ### how the heap may change -/
section
variable {G : Gd} {F F' : Hp} {δ : DS} {M M' : MH} {σ : L2.St} {H H' : Hp} {a p : Addr} {v : V} {d : D} {xs : List D} {o : HO} {i : Nat}
theorem MoR.mono {mo : MO} (e : Ex F F') (h : MoR G.K F H a mo) (k : H' a = H a) (k2 : ∀ b fv, H b = some (.xd fv) → H' b = H b) : MoR G.K F' H' a mo := by
  cases mo with
  | lst xs => obtain ⟨vs, h1, h2⟩ := h; exact ⟨vs, by rw [k, h1], h2.mono e⟩
  | ins C fs => obtain ⟨dx, fv, h1, h2⟩ := h; exact ⟨dx, fv, by rw [k, h1], h2.mono e⟩
  | exc C fs => obtain ⟨dx, fv, h1, h2, h3⟩ := h; exact ⟨dx, fv, by rw [k, h1], e _ _ h2, h3.mono e⟩
  | dk kvs => obtain ⟨kv, h1, h2⟩ := h; exact ⟨kv, by rw [k, h1], h2.mono e⟩
theorem OwnAt.mono (e : Ex F F') (h : OwnAt G F M H a xs) (k : H' a = H a) (f : F' a = none) (m : M' a = none) : OwnAt G F' M' H' a xs := by
  obtain ⟨vs, h1, h2, h3, h4, h5⟩ := h
  exact ⟨vs, by rw [k, h1], h2.mono e, f, m, h5⟩
theorem Fra.h0 (r : Fra G F M H) (h : H p = none) : G.H0 p = none := by
  cases e : G.H0 p with
  | none => rfl
  | some o => exact absurd h (r.dom p (by rw [e]; simp))
theorem Fra.f_none (r : Fra G F M H) (h : H p = none) : F p = none := by
  cases e : F p with
  | none => rfl
  | some o => rw [r.ex _ _ e] at h; cases h
theorem MoR.some_h {mo : MO} {K : PySem.W.Frag} (h : MoR K F H a mo) : ∃ o, H a = some o := by
  cases mo with
  | lst xs => obtain ⟨vs, h1, h2⟩ := h; exact ⟨_, h1⟩
  | ins C fs => obtain ⟨dx, fv, h1, h2⟩ := h; exact ⟨_, h1⟩
  | exc C fs => obtain ⟨dx, fv, h1, h2, h3⟩ := h; exact ⟨_, h1⟩
  | dk kvs => obtain ⟨kv, h1, h2⟩ := h; exact ⟨_, h1⟩

theorem Fra.m_none (r : Fra G F M H) (h : H p = none) : M p = none := by
  cases e : M p with
  | none => rfl
  | some mo =>
    obtain ⟨o, ho⟩ := (r.mem p mo e).2.some_h
    rw [h] at ho; cases ho
theorem getSet {α : Type} {l : List α} {i j : Nat} {x y : α} (h : (l.set i x)[j]? = some y) : (j = i ∧ y = x) ∨ (j ≠ i ∧ l[j]? = some y) := by
  rw [List.getElem?_set] at h
  by_cases e : i = j
  · rw [if_pos e] at h
    split at h
    · exact .inl ⟨e.symm, (Option.some.inj h).symm⟩
    · cases h
  · rw [if_neg e] at h
    exact .inr ⟨fun z => e z.symm, h⟩
theorem setNe {α : Type} {l : List α} {i j : Nat} {x : α} (h : j ≠ i) : (l.set i x)[j]? = l[j]? := by
  rw [List.getElem?_set, if_neg (fun z => h z.symm)]
theorem setSame {α : Type} {l : List α} {i : Nat} {x : α} (h : i < l.length) : (l.set i x)[i]? = some x := by
  rw [List.getElem?_set, if_pos rfl, if_pos h]
theorem lt_of_get {α : Type} {l : List α} {i : Nat} {x : α} (h : l[i]? = some x) : i < l.length := (List.getElem?_eq_some_iff.mp h).1
theorem Ex.upd2 (e : Ex F H) (o : HO) : Ex (upd F p o) (upd H p o) := fun b u h => by
  by_cases hb : b = p
  · subst hb; rw [upd_same] at h ⊢; exact h
  · rw [upd_ne hb] at h ⊢; exact e b u h
theorem Ex.updR (e : Ex F H) (h : F p = none) (o : HO) : Ex F (upd H p o) := fun b u z => by
  rw [upd_ne (ne_of_none z h)]; exact e b u z
/-- a new object, frozen | at large -/
theorem Fra.addF (r : Fra G F M H) (h : H p = none) : Fra G (upd F p o) M (upd H p o) where
  ex := r.ex.upd2 o
  ex0 := r.ex0.trans (Ex.new (r.f_none h))
  keep := fun b u e m => by rw [upd_ne (ne_of_none (r.keep b u e m) h)]; exact r.keep b u e m
  newF := fun b e => by
    by_cases hb : b = p
    · subst hb; exact .inr (r.h0 h)
    · rw [upd_ne hb] at e; exact r.newF b e
  newM := r.newM
  dom := fun b e => by
    by_cases hb : b = p
    · subst hb; rw [upd_same]; simp
    · rw [upd_ne hb]; exact r.dom b e
  domM := r.domM
  mem := fun b mo e => by
    have hb : b ≠ p := fun z => by rw [z, r.m_none h] at e; cases e
    obtain ⟨q1, q2⟩ := r.mem b mo e
    exact ⟨by rw [upd_ne hb]; exact q1, q2.mono (Ex.new (r.f_none h)) (upd_ne hb) fun c fv z => upd_ne (ne_of_none z h)⟩
theorem Fra.addH (r : Fra G F M H) (h : H p = none) : Fra G F M (upd H p o) where
  ex := r.ex.updR (r.f_none h) o
  ex0 := r.ex0
  keep := fun b u e m => by rw [upd_ne (ne_of_none (r.keep b u e m) h)]; exact r.keep b u e m
  newF := r.newF
  newM := r.newM
  dom := fun b e => by
    by_cases hb : b = p
    · subst hb; rw [upd_same]; simp
    · rw [upd_ne hb]; exact r.dom b e
  domM := r.domM
  mem := fun b mo e => by
    have hb : b ≠ p := fun z => by rw [z, r.m_none h] at e; cases e
    obtain ⟨q1, q2⟩ := r.mem b mo e
    exact ⟨q1, q2.mono (Ex.refl F) (upd_ne hb) fun c fv z => upd_ne (ne_of_none z h)⟩
theorem Rep.addF (r : Rep G F δ M σ H) (h : H p = none) (o : HO) : Rep G (upd F p o) δ M σ (upd H p o) where
  fr := r.fr.addF h
  len := r.len
  val := fun i x e => by
    obtain ⟨v, h1, h2⟩ := r.val i x e
    exact ⟨v, h1, h2.mono (Ex.new (r.fr.f_none h))⟩
  own := fun i xs e => by
    obtain ⟨a, h1, h2⟩ := r.own i xs e
    obtain ⟨vs, q, h3, h4, h5, h6⟩ := id h2
    have hb : a ≠ p := ne_of_none q h
    exact ⟨a, h1, h2.mono (Ex.new (r.fr.f_none h)) (upd_ne hb) (by rw [upd_ne hb]; exact h4) h5⟩
  inj := r.inj
theorem Rep.addH (r : Rep G F δ M σ H) (h : H p = none) (o : HO) : Rep G F δ M σ (upd H p o) where
  fr := r.fr.addH h
  len := r.len
  val := r.val
  own := fun i xs e => by
    obtain ⟨a, h1, h2⟩ := r.own i xs e
    obtain ⟨vs, q, h3, h4, h5, h6⟩ := id h2
    have hb : a ≠ p := ne_of_none q h
    exact ⟨a, h1, h2.mono (Ex.refl F) (upd_ne hb) h4 h5⟩
  inj := r.inj
theorem Rep.addOwn (r : Rep G F δ M σ H) (h : H p = none) {vs : List V} (rs : Rs G.K F vs xs) : SvR G F δ M σ (upd H p (.lst vs)) (.ref p) (.own xs) :=
  ⟨p, rfl, ⟨vs, upd_same, rs, r.fr.f_none h, r.fr.m_none h, r.fr.h0 h⟩, fun i ys e q => by
    obtain ⟨a, h1, vs', h2, _⟩ := r.own i ys e
    rw [q] at h1
    cases h1
    rw [h] at h2; cases h2⟩
/-- a list that nobody holds is let go of as a value -/
theorem Fra.frz (r : Fra G F M H) (h : OwnAt G F M H a xs) : ∃ F', Fra G F' M H ∧ Ex F F' ∧ R G.K F' (.ref a) (.lst xs) ∧ ∀ b, b ≠ a → F' b = F b := by
  obtain ⟨vs, h1, h2, h3, h4, h5⟩ := h
  have e : Ex F (upd F a (.lst vs)) := Ex.new h3
  refine ⟨upd F a (.lst vs), ⟨fun b u z => ?_, r.ex0.trans e, r.keep, fun b z => ?_, r.newM, r.dom, r.domM, fun b mo z => ?_⟩, e, .lst upd_same (h2.mono e), fun b hb => upd_ne hb⟩
  · by_cases hb : b = a
    · subst hb; rw [upd_same] at z; rw [h1]; exact z
    · rw [upd_ne hb] at z; exact r.ex b u z
  · by_cases hb : b = a
    · subst hb; exact .inr h5
    · rw [upd_ne hb] at z; exact r.newF b z
  · have hb : b ≠ a := fun q => by rw [q, h4] at z; cases z
    obtain ⟨q1, q2⟩ := r.mem b mo z
    exact ⟨by rw [upd_ne hb]; exact q1, q2.mono e rfl fun _ _ _ => rfl⟩
theorem Rep.frz (r : Rep G F δ M σ H) (h : SvR G F δ M σ H v (.own xs)) : ∃ F', Rep G F' δ M σ H ∧ Ex F F' ∧ R G.K F' v (.lst xs) := by
  obtain ⟨a, rfl, h1, h2⟩ := h
  obtain ⟨F', f1, e, f2, f3⟩ := r.fr.frz h1
  refine ⟨F', ⟨f1, r.len, fun i x z => ?_, fun i ys z => ?_, r.inj⟩, e, f2⟩
  · obtain ⟨v, q1, q2⟩ := r.val i x z
    exact ⟨v, q1, q2.mono e⟩
  · obtain ⟨b, q1, q2⟩ := r.own i ys z
    have hb : b ≠ a := fun q => h2 i ys z (by rw [q1, q])
    obtain ⟨vs, q3, q4, q5, q6, q7⟩ := id q2
    exact ⟨b, q1, q2.mono e rfl (by rw [f3 b hb]; exact q5) q6⟩
theorem Rep.frzAny (r : Rep G F δ M σ H) {x : Sl} (h : SvR G F δ M σ H v x) : ∃ F', Rep G F' δ M σ H ∧ Ex F F' ∧ R G.K F' v x.fz := by
  cases x with
  | d x => exact ⟨F, r, Ex.refl F, h⟩
  | own xs => exact r.frz h
/-! ### slots -/
theorem Rep.setD (r : Rep G F δ M σ H) (h : R G.K F v d) : Rep G F (δ.set i (some (.d d))) M (σ.set i (some v)) H where
  fr := r.fr
  len := by rw [List.length_set, List.length_set]; exact r.len
  val := fun j x e => by
    rcases getSet e with ⟨e1, e2⟩ | ⟨e1, e2⟩
    · cases e2
      have hl : j < δ.length := by have := lt_of_get e; rw [List.length_set] at this; exact this
      exact ⟨v, by rw [e1]; exact setSame (by rw [← r.len, ← e1]; exact hl), h⟩
    · rw [setNe e1]; exact r.val j x e2
  own := fun j xs e => by
    rcases getSet e with ⟨e1, e2⟩ | ⟨e1, e2⟩
    · cases e2
    · rw [setNe e1]; exact r.own j xs e2
  inj := fun j k xs ys a e1 e2 e3 e4 => by
    rcases getSet e1 with ⟨z1, z2⟩ | ⟨z1, z2⟩
    · cases z2
    rcases getSet e2 with ⟨y1, y2⟩ | ⟨y1, y2⟩
    · cases y2
    rw [setNe z1] at e3
    rw [setNe y1] at e4
    exact r.inj j k xs ys a z2 y2 e3 e4
theorem Rep.setOwn (r : Rep G F δ M σ H) (h : SvR G F δ M σ H v (.own xs)) : Rep G F (δ.set i (some (.own xs))) M (σ.set i (some v)) H := by
  obtain ⟨a, rfl, h1, h2⟩ := h
  refine ⟨r.fr, by rw [List.length_set, List.length_set]; exact r.len, fun j x e => ?_, fun j ys e => ?_, fun j k ys zs b e1 e2 e3 e4 => ?_⟩
  · rcases getSet e with ⟨e1, e2⟩ | ⟨e1, e2⟩
    · cases e2
    · rw [setNe e1]; exact r.val j x e2
  · rcases getSet e with ⟨e1, e2⟩ | ⟨e1, e2⟩
    · cases e2
      have hl : j < δ.length := by have := lt_of_get e; rw [List.length_set] at this; exact this
      exact ⟨a, by rw [e1]; exact setSame (by rw [← r.len, ← e1]; exact hl), h1⟩
    · rw [setNe e1]; exact r.own j ys e2
  · have hl : ∀ {m : Nat} {u : Option Sl}, (δ.set i (some (.own xs)))[m]? = some u → m < σ.length := fun {m u} z => by
      have := lt_of_get z; rw [List.length_set, r.len] at this; exact this
    rcases getSet e1 with ⟨z1, z2⟩ | ⟨z1, z2⟩
    · rcases getSet e2 with ⟨y1, y2⟩ | ⟨y1, y2⟩
      · exact z1.trans y1.symm
      · rw [z1, setSame (by rw [← z1]; exact hl e1)] at e3
        cases e3
        rw [setNe y1] at e4
        exact absurd e4 (h2 k zs y2)
    · rcases getSet e2 with ⟨y1, y2⟩ | ⟨y1, y2⟩
      · rw [y1, setSame (by rw [← y1]; exact hl e2)] at e4
        cases e4
        rw [setNe z1] at e3
        exact absurd e3 (h2 j ys z2)
      · rw [setNe z1] at e3
        rw [setNe y1] at e4
        exact r.inj j k ys zs b z2 y2 e3 e4
theorem Rep.setAny (r : Rep G F δ M σ H) {x : Sl} (h : SvR G F δ M σ H v x) : Rep G F (δ.set i (some x)) M (σ.set i (some v)) H := by
  cases x with
  | d x => exact r.setD h
  | own xs => exact r.setOwn h
/-- a slot's word, another one for the same value -/
theorem Rep.reD (r : Rep G F δ M σ H) (hi : σ[i]? = some (some v)) (h : R G.K F v d) : Rep G F (δ.set i (some (.d d))) M σ H := by
  have q := r.setD (i := i) h
  have e : σ.set i (some v) = σ := by
    apply List.ext_getElem?
    intro j
    by_cases hj : j = i
    · subst hj; rw [setSame (lt_of_get hi), hi]
    · rw [setNe hj]
  rw [e] at q
  exact q
theorem Rep.setNone (r : Rep G F δ M σ H) {y : Option V} : Rep G F (δ.set i none) M (σ.set i y) H where
  fr := r.fr
  len := by rw [List.length_set, List.length_set]; exact r.len
  val := fun j x e => by
    rcases getSet e with ⟨e1, e2⟩ | ⟨e1, e2⟩
    · cases e2
    · rw [setNe e1]; exact r.val j x e2
  own := fun j xs e => by
    rcases getSet e with ⟨e1, e2⟩ | ⟨e1, e2⟩
    · cases e2
    · rw [setNe e1]; exact r.own j xs e2
  inj := fun j k xs ys a e1 e2 e3 e4 => by
    rcases getSet e1 with ⟨z1, z2⟩ | ⟨z1, z2⟩
    · cases z2
    rcases getSet e2 with ⟨y1, y2⟩ | ⟨y1, y2⟩
    · cases y2
    rw [setNe z1] at e3
    rw [setNe y1] at e4
    exact r.inj j k xs ys a z2 y2 e3 e4
/-- forgetting a slot's word -/
theorem Rep.forget (r : Rep G F δ M σ H) : Rep G F (δ.set i none) M σ H where
  fr := r.fr
  len := by rw [List.length_set]; exact r.len
  val := fun j x e => by
    rcases getSet e with ⟨e1, e2⟩ | ⟨e1, e2⟩
    · cases e2
    · exact r.val j x e2
  own := fun j xs e => by
    rcases getSet e with ⟨e1, e2⟩ | ⟨e1, e2⟩
    · cases e2
    · exact r.own j xs e2
  inj := fun j k xs ys a e1 e2 e3 e4 => by
    rcases getSet e1 with ⟨z1, z2⟩ | ⟨z1, z2⟩
    · cases z2
    rcases getSet e2 with ⟨y1, y2⟩ | ⟨y1, y2⟩
    · cases y2
    exact r.inj j k xs ys a z2 y2 e3 e4
/-- an own slot is let go of as a value -/
theorem Rep.frzSlot (r : Rep G F δ M σ H) (hi : δ[i]? = some (some (.own xs))) : ∃ F', Rep G F' (δ.set i (some (.d (.lst xs)))) M σ H ∧ Ex F F' := by
  obtain ⟨a, h1, h2⟩ := r.own i xs hi
  have r1 := r.forget (i := i)
  obtain ⟨F', q1, q2, q3⟩ := r1.frz (v := .ref a) (xs := xs) ⟨a, rfl, h2, fun j ys e q => by
    rcases getSet e with ⟨e1, e2⟩ | ⟨e1, e2⟩
    · cases e2
    · exact e1 (r.inj j i ys xs a e2 hi q h1)⟩
  have q4 := q1.reD h1 q3
  rw [List.set_set] at q4
  exact ⟨F', q4, q2⟩
/-! ### changes -/
theorem Fra.chgM (r : Fra G F M H) {mo mo' : MO} (hm : M a = some mo) (hx : ∀ fv, H a ≠ some (.xd fv)) (h : MoR G.K F (upd H a o) a mo') : Fra G F (mu M a mo') (upd H a o) where
  ex := r.ex.updR (r.mem a mo hm).1 o
  ex0 := r.ex0
  keep := fun b u e m => by
    have hb : b ≠ a := fun z => by
      subst z
      rcases r.newM b (by rw [hm]; simp) with q | q
      · exact q m
      · rw [q] at e; cases e
    rw [upd_ne hb]; exact r.keep b u e m
  newF := r.newF
  newM := fun b e => by
    by_cases hb : b = a
    · subst hb; exact r.newM b (by rw [hm]; simp)
    · rw [mu_ne hb] at e; exact r.newM b e
  dom := fun b e => by
    by_cases hb : b = a
    · subst hb; rw [upd_same]; simp
    · rw [upd_ne hb]; exact r.dom b e
  domM := fun b e => by
    by_cases hb : b = a
    · subst hb; rw [mu_same]; simp
    · rw [mu_ne hb]; exact r.domM b e
  mem := fun b mo2 e => by
    by_cases hb : b = a
    · subst hb
      rw [mu_same] at e
      cases e
      exact ⟨(r.mem b mo hm).1, h⟩
    · rw [mu_ne hb] at e
      obtain ⟨q1, q2⟩ := r.mem b mo2 e
      exact ⟨q1, q2.mono (Ex.refl F) (upd_ne hb) fun c fv z => upd_ne (fun y => hx fv (by rw [← y]; exact z))⟩

theorem Rep.chgM (r : Rep G F δ M σ H) {mo mo' : MO} (hm : M a = some mo) (hx : ∀ fv, H a ≠ some (.xd fv)) (h : MoR G.K F (upd H a o) a mo') : Rep G F δ (mu M a mo') σ (upd H a o) where
  fr := r.fr.chgM hm hx h
  len := r.len
  val := r.val
  own := fun i xs e => by
    obtain ⟨b, h1, h2⟩ := r.own i xs e
    obtain ⟨vs, q, h3, h4, h5, h6⟩ := id h2
    have hb : b ≠ a := fun z => by rw [z, hm] at h5; cases h5
    exact ⟨b, h1, h2.mono (Ex.refl F) (upd_ne hb) h4 (by rw [mu_ne hb]; exact h5)⟩
  inj := r.inj
/-- a new shared object -/
theorem Fra.addM (r : Fra G F M H) (hp : H p = none) {mo : MO} (h : MoR G.K F (upd H p o) p mo) : Fra G F (mu M p mo) (upd H p o) where
  ex := r.ex.updR (r.f_none hp) o
  ex0 := r.ex0
  keep := fun b u e m => by rw [upd_ne (ne_of_none (r.keep b u e m) hp)]; exact r.keep b u e m
  newF := r.newF
  newM := fun b e => by
    by_cases hb : b = p
    · subst hb; exact .inr (r.h0 hp)
    · rw [mu_ne hb] at e; exact r.newM b e
  dom := fun b e => by
    by_cases hb : b = p
    · subst hb; rw [upd_same]; simp
    · rw [upd_ne hb]; exact r.dom b e
  domM := fun b e => by
    by_cases hb : b = p
    · subst hb; rw [mu_same]; simp
    · rw [mu_ne hb]; exact r.domM b e
  mem := fun b mo2 e => by
    by_cases hb : b = p
    · subst hb
      rw [mu_same] at e
      cases e
      exact ⟨r.f_none hp, h⟩
    · rw [mu_ne hb] at e
      obtain ⟨q1, q2⟩ := r.mem b mo2 e
      exact ⟨q1, q2.mono (Ex.refl F) (upd_ne hb) fun c fv z => upd_ne (ne_of_none z hp)⟩
theorem Rep.addM (r : Rep G F δ M σ H) (hp : H p = none) {mo : MO} (h : MoR G.K F (upd H p o) p mo) : Rep G F δ (mu M p mo) σ (upd H p o) where
  fr := r.fr.addM hp h
  len := r.len
  val := r.val
  own := fun i xs e => by
    obtain ⟨b, h1, h2⟩ := r.own i xs e
    obtain ⟨vs, q, h3, h4, h5, h6⟩ := id h2
    have hb : b ≠ p := ne_of_none q hp
    exact ⟨b, h1, h2.mono (Ex.refl F) (upd_ne hb) h4 (by rw [mu_ne hb]; exact h5)⟩
  inj := r.inj
/-- an object that stands in H, nobody's, becomes a shared one -/
theorem Fra.adopt (r : Fra G F M H) (f : F a = none) (h0 : G.H0 a = none) {mo : MO} (h : MoR G.K F H a mo) : Fra G F (mu M a mo) H where
  ex := r.ex
  ex0 := r.ex0
  keep := r.keep
  newF := r.newF
  newM := fun b e => by
    by_cases hb : b = a
    · subst hb; exact .inr h0
    · rw [mu_ne hb] at e; exact r.newM b e
  dom := r.dom
  domM := fun b e => by
    by_cases hb : b = a
    · subst hb; rw [mu_same]; simp
    · rw [mu_ne hb]; exact r.domM b e
  mem := fun b mo2 e => by
    by_cases hb : b = a
    · subst hb
      rw [mu_same] at e
      cases e
      exact ⟨f, h⟩
    · rw [mu_ne hb] at e
      exact r.mem b mo2 e
/-- an own list becomes a shared one -/
theorem Rep.shareRes (r : Rep G F δ M σ H) (h : SvR G F δ M σ H v (.own xs)) : ∃ a, v = .ref a ∧ M a = none ∧ G.H0 a = none ∧ Rep G F δ (mu M a (.lst xs)) σ H := by
  obtain ⟨a, rfl, h1, h2⟩ := h
  obtain ⟨vs, q, h3, h4, h5, h6⟩ := h1
  refine ⟨a, rfl, h5, h6, r.fr.adopt h4 h6 ⟨vs, q, h3⟩, r.len, r.val, fun i ys e => ?_, r.inj⟩
  obtain ⟨b, g1, g2⟩ := r.own i ys e
  have hb : b ≠ a := fun z => h2 i ys e (by rw [g1, z])
  obtain ⟨ws, g3, g4, g5, g6, g7⟩ := id g2
  exact ⟨b, g1, g2.mono (Ex.refl F) rfl g5 (by rw [mu_ne hb]; exact g6)⟩
theorem Rep.shareSlot (r : Rep G F δ M σ H) (hi : δ[i]? = some (some (.own xs))) : ∃ a, M a = none ∧ G.H0 a = none ∧ Rep G F (δ.set i (some (.d (.ref a)))) (mu M a (.lst xs)) σ H := by
  obtain ⟨a, h1, h2⟩ := r.own i xs hi
  have r1 := r.forget (i := i)
  obtain ⟨b, e, q1, q2, q3⟩ := r1.shareRes (v := .ref a) (xs := xs) ⟨a, rfl, h2, fun j ys e q => by
    rcases getSet e with ⟨e1, e2⟩ | ⟨e1, e2⟩
    · cases e2
    · exact e1 (r.inj j i ys xs a e2 hi q h1)⟩
  cases e
  have q4 := q3.reD h1 (.ref a)
  rw [List.set_set] at q4
  exact ⟨a, q1, q2, q4⟩
/-- an own list is changed -/
theorem Rep.chgOwn (r : Rep G F δ M σ H) (hi : δ[i]? = some (some (.own xs))) (hs : σ[i]? = some (some (.ref a))) {vs' : List V} {xs' : List D} (h : Rs G.K F vs' xs') :
    Rep G F (δ.set i (some (.own xs'))) M σ (upd H a (.lst vs')) := by
  obtain ⟨b, h1, vs, q, h3, h4, h5, h6⟩ := r.own i xs hi
  rw [hs] at h1
  cases h1
  have hx : ∀ c fv, H c = some (.xd fv) → c ≠ a := fun c fv z y => by rw [y, q] at z; cases z
  refine ⟨⟨r.fr.ex.updR h4 _, r.fr.ex0, fun b u e m => ?_, r.fr.newF, r.fr.newM, fun b e => ?_, r.fr.domM, fun b mo e => ?_⟩, by rw [List.length_set]; exact r.len, fun j x e => ?_, fun j ys e => ?_, fun j k ys zs c e1 e2 e3 e4 => ?_⟩
  · have hb : b ≠ a := fun z => by rw [z, h6] at e; cases e
    rw [upd_ne hb]; exact r.fr.keep b u e m
  · by_cases hb : b = a
    · subst hb; rw [upd_same]; simp
    · rw [upd_ne hb]; exact r.fr.dom b e
  · have hb : b ≠ a := fun z => by rw [z, h5] at e; cases e
    obtain ⟨q1, q2⟩ := r.fr.mem b mo e
    exact ⟨q1, q2.mono (Ex.refl F) (upd_ne hb) fun c fv z => upd_ne (hx c fv z)⟩
  · rcases getSet e with ⟨e1, e2⟩ | ⟨e1, e2⟩
    · cases e2
    · exact r.val j x e2
  · rcases getSet e with ⟨e1, e2⟩ | ⟨e1, e2⟩
    · cases e2
      exact ⟨a, by rw [e1]; exact hs, vs', upd_same, h, h4, h5, h6⟩
    · obtain ⟨b, g1, g2⟩ := r.own j ys e2
      have hb : b ≠ a := fun z => e1 (r.inj j i ys xs b e2 hi g1 (by rw [hs, z]))
      obtain ⟨ws, g3, g4, g5, g6, g7⟩ := id g2
      exact ⟨b, g1, g2.mono (Ex.refl F) (upd_ne hb) g5 g6⟩
  · have hl : ∀ {m : Nat} {ys : List D}, (δ.set i (some (.own xs')))[m]? = some (some (.own ys)) → ∃ zs, δ[m]? = some (some (.own zs)) := fun {m ys} z => by
      rcases getSet z with ⟨e1, e2⟩ | ⟨e1, e2⟩
      · exact ⟨xs, by rw [e1]; exact hi⟩
      · exact ⟨ys, e2⟩
    obtain ⟨y1, q1⟩ := hl e1
    obtain ⟨y2, q2⟩ := hl e2
    exact r.inj j k y1 y2 c q1 q2 e3 e4
/-! ### operands -/
theorem Opn.mono (h : Opn G F δ σ v d) (e : Ex F F') : Opn G F' δ σ v d := by
  rcases h with h | ⟨i, xs, h1, h2, h3⟩
  · exact .inl (h.mono e)
  · exact .inr ⟨i, xs, h1, h2, h3⟩
theorem Opns.mono (e : Ex F F') : ∀ {vs : List V} {ds : List D}, Opns G F δ σ vs ds → Opns G F' δ σ vs ds
  | _, _, .nil => .nil
  | _, _, .cons h r => .cons (h.mono e) (Opns.mono e r)
theorem Opn.lst (h : Opn G F δ σ v (.lst xs)) (r : Rep G F δ M σ H) : ∃ a vs, v = .ref a ∧ H a = some (.lst vs) ∧ Rs G.K F vs xs := by
  rcases h with h | ⟨i, ys, h1, h2, h3⟩
  · obtain ⟨a, vs, e, h1, h2⟩ := h.lst_inv
    exact ⟨a, vs, e, r.fr.ex _ _ h1, h2⟩
  · cases h3
    obtain ⟨a, q1, vs, q2, q3, _⟩ := r.own i _ h1
    rw [q1] at h2
    cases h2
    exact ⟨a, vs, rfl, q2, q3⟩
theorem Opn.val (h : Opn G F δ σ v d) (hd : ∀ xs, d ≠ .lst xs) : R G.K F v d := by
  rcases h with h | ⟨i, ys, h1, h2, h3⟩
  · exact h
  · exact absurd h3 (hd _)
theorem Opn.tup (h : Opn G F δ σ v (.tup xs)) (r : Rep G F δ M σ H) : ∃ a vs, v = .ref a ∧ SqT G.K H a vs ∧ Rs G.K F vs xs := by
  obtain ⟨a, vs, e, h1, h2⟩ := (h.val (fun _ z => by cases z)).tup_inv
  exact ⟨a, vs, e, ex_t r.fr.ex h1, h2⟩
end
end DL

set_option Elab.async false
set_option linter.all false
set_option maxRecDepth 100000
set_option maxHeartbeats 2000000
namespace DL
open PySem L2
/-! ### expressions -/
section
variable {X : Cx} {G : Gd} {W : WX} {e : Expr} {es : List Expr} {pos : Pos}
def dC (d : D) : DE := fun _ M Q _ => Q (.d d) M
def dVar (i : Nat) : DE := fun δ M Q _ => ∃ x, δ[i]? = some (some (.d x)) ∧ Q (.d x) M
def dFz (t : DE) : DX := fun δ M Q E => t δ M (fun r M' => Q r.fz M') E
def oPeek (i : Nat) : DX := fun δ M Q _ => ∃ s, δ[i]? = some (some s) ∧ Q s.fz M
def dV (t : DX) : DE := fun δ M Q E => t δ M (fun d M' => Q (.d d) M') E
theorem d_con {v : V} {d : D} (h : PE X e (tC v)) (r : ∀ K F, R K F v d) : PE X e (LE G W (dC d)) :=
  pe_imp h fun σ H Q ⟨F, δ, M, Qd, Ed, rep, q, k, x⟩ => k (.d d) v F M H rep (Ex.refl F) (r _ _) q
theorem d_int {i : Int} {j pos} : PE X (.Constant (.int i) j pos) (LE G W (dC (.int i))) := d_con pe_int fun _ _ => .int i
theorem d_bl {i : Bool} {j pos} : PE X (.Constant (.bool i) j pos) (LE G W (dC (.bl i))) := d_con pe_bl fun _ _ => .bl i
theorem d_str {i : Str} {j pos} : PE X (.Constant (.str i) j pos) (LE G W (dC (.str i))) := d_con pe_str fun _ _ => .str i
theorem d_non {j pos} : PE X (.Constant .none j pos) (LE G W (dC .non)) := d_con pe_non fun _ _ => .non
theorem d_var {i : Nat} (h : PE X e (tVar i)) : PE X e (LE G W (dVar i)) :=
  pe_imp h fun σ H Q ⟨F, δ, M, Qd, Ed, rep, ⟨x, hx, q⟩, k, _⟩ => by
    obtain ⟨v, h1, h2⟩ := rep.val i x hx
    exact ⟨v, h1, k (.d x) v F M H rep (Ex.refl F) h2 q⟩
theorem o_peek {i : Nat} (h : PE X e (tVar i)) : PE X e (LO G W (oPeek i)) :=
  pe_imp h fun σ H Q ⟨F, δ, M, Qd, Ed, rep, ⟨s, hs, q⟩, k, _⟩ => by
    cases s with
    | d x =>
      obtain ⟨v, h1, h2⟩ := rep.val i x hs
      exact ⟨v, h1, k x v F M H rep (Ex.refl F) (.inl h2) q⟩
    | own xs =>
      obtain ⟨a, h1, h2⟩ := rep.own i xs hs
      exact ⟨.ref a, h1, k (.lst xs) (.ref a) F M H rep (Ex.refl F) (.inr ⟨i, xs, hs, h1, rfl⟩) q⟩
theorem v_fz {td : DE} (h : PE X e (LE G W td)) : PE X e (LV G W (dFz td)) :=
  pe_imp h fun σ H Q ⟨F, δ, M, Qd, Ed, rep, q, k, x⟩ => ⟨F, δ, M, _, Ed, rep, q, fun r v F' M' H' rep' e' s' q' => by
    obtain ⟨F2, r2, e2, q2⟩ := rep'.frzAny s'
    exact k _ v F2 M' H' r2 (e'.trans e2) q2 q', x⟩
theorem o_v {td : DX} (h : PE X e (LV G W td)) : PE X e (LO G W td) :=
  pe_imp h fun σ H Q ⟨F, δ, M, Qd, Ed, rep, q, k, x⟩ => ⟨F, δ, M, Qd, Ed, rep, q, fun d v F' M' H' rep' e' s' q' => k d v F' M' H' rep' e' (.inl s') q', x⟩
theorem o_fz {td : DE} (h : PE X e (LE G W td)) : PE X e (LO G W (dFz td)) := o_v (v_fz h)
theorem d_v {td : DX} (h : PE X e (LV G W td)) : PE X e (LE G W (dV td)) :=
  pe_imp h fun σ H Q ⟨F, δ, M, Qd, Ed, rep, q, k, x⟩ => ⟨F, δ, M, _, Ed, rep, q, fun d v F' M' H' rep' e' s' q' => k (.d d) v F' M' H' rep' e' s' q', x⟩
/-! ### arguments -/
def aNil : DA := fun _ M Q _ => Q [] M
def aCons (t : DX) (u : DA) : DA := fun δ M Q E => t δ M (fun d M1 => u δ M1 (fun ds M2 => Q (d :: ds) M2) E) E
theorem a_nil : PA X [] (LA G W aNil) := pa_imp pa_nil fun σ H Q ⟨F, δ, M, Qd, Ed, rep, q, k, x⟩ => k [] [] F M H rep (Ex.refl F) .nil q
theorem a_cons {t : DX} {u : DA} (ha : PE X e (LV G W t)) (hr : PA X es (LA G W u)) (hs : starEach (e :: es) X.env = (false, eval e X.env) :: starEach es X.env := by rfl) : PA X (e :: es) (LA G W (aCons t u)) :=
  pa_imp (pa_cons ha hr hs) fun σ H Q ⟨F, δ, M, Qd, Ed, rep, q, k, x⟩ => ⟨F, δ, M, _, Ed, rep, q, fun d v F1 M1 H1 rep1 e1 s1 q1 =>
    ⟨F1, δ, M1, _, Ed, rep1, q1, fun ds vs F2 M2 H2 rep2 e2 s2 q2 => k _ _ F2 M2 H2 rep2 (e1.trans e2) (.cons (s1.mono e2) s2) q2, x⟩, x⟩
theorem ao_nil : PA X [] (LAO G W aNil) := pa_imp pa_nil fun σ H Q ⟨F, δ, M, Qd, Ed, rep, q, k, x⟩ => k [] [] F M H rep (Ex.refl F) .nil q
theorem ao_cons {t : DX} {u : DA} (ha : PE X e (LO G W t)) (hr : PA X es (LAO G W u)) (hs : starEach (e :: es) X.env = (false, eval e X.env) :: starEach es X.env := by rfl) : PA X (e :: es) (LAO G W (aCons t u)) :=
  pa_imp (pa_cons ha hr hs) fun σ H Q ⟨F, δ, M, Qd, Ed, rep, q, k, x⟩ => ⟨F, δ, M, _, Ed, rep, q, fun d v F1 M1 H1 rep1 e1 s1 q1 =>
    ⟨F1, δ, M1, _, Ed, rep1, q1, fun ds vs F2 M2 H2 rep2 e2 s2 q2 => k _ _ F2 M2 H2 rep2 (e1.trans e2) (.cons (s1.mono e2) s2) q2, x⟩, x⟩
/-! ### displays -/
def dTup (t : DA) : DE := fun δ M Q E => t δ M (fun ds M' => ds.length ≤ sizeLine ∧ Q (.d (.tup ds)) M') E
def dLst (t : DA) : DE := fun δ M Q E => t δ M (fun ds M' => ds.length ≤ sizeLine ∧ Q (.own ds) M') E
theorem d_tup {t : DA} {x1} (h : PA X es (LA G W t)) : PE X (.Tuple es x1 pos) (LE G W (dTup t)) :=
  pe_imp (pe_tup h) fun σ H Q ⟨F, δ, M, Qd, Ed, rep, q, k, x⟩ => ⟨F, δ, M, _, Ed, rep, q, fun ds vs F1 M1 H1 rep1 e1 s1 ⟨hl, q1⟩ =>
    ⟨by rw [s1.length]; exact hl, fun p hp => k (.d (.tup ds)) _ _ M1 _ (rep1.addF hp (.tup vs)) (e1.trans (Ex.new (rep1.fr.f_none hp))) (R.tup (.inl (.inl upd_same)) (s1.mono (Ex.new (rep1.fr.f_none hp)))) q1⟩, x⟩
theorem d_lst {t : DA} (h : PA X es (LA G W t)) : PE X (.List es pos) (LE G W (dLst t)) :=
  pe_imp (pe_lst h) fun σ H Q ⟨F, δ, M, Qd, Ed, rep, q, k, x⟩ => ⟨F, δ, M, _, Ed, rep, q, fun ds vs F1 M1 H1 rep1 e1 s1 ⟨hl, q1⟩ =>
    ⟨by rw [s1.length]; exact hl, fun p hp => k _ _ F1 M1 _ (rep1.addH hp (.lst vs)) e1 (rep1.addOwn hp s1) q1⟩, x⟩
/-! ### operators -/
abbrev F2 := D → D → MH → (Sl → MH → Prop) → Prop
/-- r on values does what f does on data -/
def OpL (G : Gd) (r : R2) (f : F2) : Prop := ∀ F δ M σ H v u x y Q Qv, Rep G F δ M σ H → Opn G F δ σ v x → Opn G F δ σ u y → f x y M Q →
  (∀ z w F' M' H', Rep G F' δ M' σ H' → Ex F F' → SvR G F' δ M' σ H' w z → Q z M' → Qv w H') → r v u H Qv
def dBin (f : F2) (ta tb : DX) : DE := fun δ M Q E => ta δ M (fun x M1 => tb δ M1 (fun y M2 => f x y M2 Q) E) E
theorem bin_l {r : R2} {f : F2} {ta tb : DX} (hl : OpL G r f) {σ : L2.St} {H : Hp} {Q : VK} (h : LE G W (dBin f ta tb) σ H Q) : tOp r (LO G W ta) (LO G W tb) σ H Q := by
  obtain ⟨F, δ, M, Qd, Ed, rep, q, k, x⟩ := h
  exact ⟨F, δ, M, _, Ed, rep, q, fun d v F1 M1 H1 rep1 e1 s1 q1 => ⟨F1, δ, M1, _, Ed, rep1, q1, fun d2 v2 F2 M2 H2 rep2 e2 s2 q2 =>
    hl F2 δ M2 σ H2 v v2 d d2 Qd Q rep2 (s1.mono e2) s2 q2 fun z w F' M' H' rep' e' s' q' => k z w F' M' H' rep' (e1.trans (e2.trans e')) s' q', x⟩, x⟩
theorem d_bin {a b : Expr} {op : Operator} {r : R2} {f : F2} {ta tb : DX} (ho : OpR X (binaryOp op) r) (hl : OpL G r f) (ha : PE X a (LO G W ta)) (hb : PE X b (LO G W tb)) : PE X (.BinOp a op b pos) (LE G W (dBin f ta tb)) :=
  pe_imp (pe_op ho ha hb) fun _ _ _ h => bin_l hl h
/-- a result that leaves the heap -/
theorem OpL.done {F : Hp} {δ : DS} {M : MH} {σ : L2.St} {H : Hp} {Q : Sl → MH → Prop} {Qv : VK} (rep : Rep G F δ M σ H) (k : ∀ z w F' M' H', Rep G F' δ M' σ H' → Ex F F' → SvR G F' δ M' σ H' w z → Q z M' → Qv w H')
    {d : D} {w : V} (r : R G.K F w d) (q : Q (.d d) M) : Qv w H := k (.d d) w F M H rep (Ex.refl F) r q
def fI (g : Int → Int → Int) (C : Int → Int → Prop) : F2 := fun x y M Q => ∃ i j, x = .int i ∧ y = .int j ∧ C i j ∧ Q (.d (.int (g i j))) M
theorem opn_int {F : Hp} {δ : DS} {σ : L2.St} {v : V} {i : Int} (h : Opn G F δ σ v (.int i)) : v = .int i := (h.val (fun _ z => by cases z)).int_inv
theorem opn_str {F : Hp} {δ : DS} {σ : L2.St} {v : V} {i : Str} (h : Opn G F δ σ v (.str i)) : v = .str i := (h.val (fun _ z => by cases z)).str_inv
theorem opn_bl {F : Hp} {δ : DS} {σ : L2.St} {v : V} {i : Bool} (h : Opn G F δ σ v (.bl i)) : v = .bl i := (h.val (fun _ z => by cases z)).bl_inv
theorem opn_non {F : Hp} {δ : DS} {σ : L2.St} {v : V} (h : Opn G F δ σ v .non) : v = .non := (h.val (fun _ z => by cases z)).non_inv
theorem opl_int {g : Int → Int → Int} {C : Int → Int → Prop} : OpL G (rI C fun i j => .int (g i j)) (fI g C) := by
  intro F δ M σ H v u x y Q Qv rep hx hy h k
  obtain ⟨i, j, rfl, rfl, c, q⟩ := h
  exact ⟨i, j, opn_int hx, opn_int hy, c, OpL.done rep k (.int _) q⟩
theorem opl_int0 {g : Int → Int → Int} : OpL G (rI0 fun i j => .int (g i j)) (fI g fun _ _ => True) := by
  intro F δ M σ H v u x y Q Qv rep hx hy h k
  obtain ⟨i, j, rfl, rfl, c, q⟩ := h
  exact ⟨i, j, opn_int hx, opn_int hy, OpL.done rep k (.int _) q⟩
def fAdd : F2 := fun x y M Q => match x, y with
  | .int i, .int j => Q (.d (.int (i + j))) M
  | .str a, .str b => a.length + b.length ≤ sizeLine ∧ Q (.d (.str (a ++ b))) M
  | .tup xs, .tup ys => xs.length + ys.length ≤ sizeLine ∧ Q (.d (.tup (xs ++ ys))) M
  | .lst xs, .lst ys => xs.length + ys.length ≤ sizeLine ∧ Q (.own (xs ++ ys)) M
  | _, _ => False
def rAddU (K : PySem.W.Frag) : R2 := fun x y H Q => rI0 (fun i j => .int (i + j)) x y H Q ∨ ((∃ i j, x = .str i ∧ y = .str j ∧ i.length + j.length ≤ sizeLine ∧ Q (.str (i ++ j)) H) ∨ (rCatA K x y H Q ∨ rCat x y H Q))
theorem op_addU : OpR X (binaryOp .Add) (rAddU X.K) := op_add.or (op_add_str.or (op_catA.or op_cat))
theorem rs_len {K : PySem.W.Frag} {F : Hp} {vs : List V} {ds : List D} (r : Rs K F vs ds) : ds.length = vs.length := r.length.symm
theorem opl_add : OpL G (rAddU G.K) fAdd := by
  intro F δ M σ H v u x y Q Qv rep hx hy h k
  unfold fAdd at h
  split at h
  · exact .inl ⟨_, _, opn_int hx, opn_int hy, OpL.done rep k (.int _) h⟩
  · exact .inr (.inl ⟨_, _, opn_str hx, opn_str hy, h.1, OpL.done rep k (.str _) h.2⟩)
  · obtain ⟨a, vs, rfl, h1, h2⟩ := (hx.val (fun _ z => by cases z)).tup_inv
    obtain ⟨b, us, rfl, h3, h4⟩ := (hy.val (fun _ z => by cases z)).tup_inv
    refine .inr (.inr (.inl ⟨a, b, vs, us, rfl, rfl, ex_t rep.fr.ex h1, ex_t rep.fr.ex h3, by rw [h2.length, h4.length]; exact h.1, fun z => ?_, fun _ z => ?_, fun _ _ p hp => ?_⟩))
    · subst z
      cases h2
      exact OpL.done rep k (.tup h3 h4) h.2
    · subst z
      cases h4
      exact OpL.done rep k (.tup h1 (by rw [List.append_nil]; exact h2)) h.2
    · have e := Ex.new (o := HO.tup (vs ++ us)) (rep.fr.f_none hp)
      exact k (.d (.tup _)) _ _ M _ (rep.addF hp (.tup (vs ++ us))) e (R.tup (.inl (.inl upd_same)) ((h2.append h4).mono e)) h.2
  · obtain ⟨a, vs, rfl, h1, h2⟩ := hx.lst rep
    obtain ⟨b, us, rfl, h3, h4⟩ := hy.lst rep
    exact .inr (.inr (.inr ⟨a, b, vs, us, rfl, rfl, h1, h3, by rw [h2.length, h4.length]; exact h.1, fun p hp =>
      k _ _ F M _ (rep.addH hp (.lst (vs ++ us))) (Ex.refl F) (rep.addOwn hp (h2.append h4)) h.2⟩))
  · exact h.elim
def fMul : F2 := fun x y M Q => match x, y with
  | .int i, .int j => (CMul i j ∨ CMulW i j) ∧ Q (.d (.int (i * j))) M
  | .lst xs, .int k => -(2 ^ 63) ≤ k ∧ k < 2 ^ 63 ∧ xs.length * k.toNat ≤ sizeLine ∧ Q (.own (List.replicate k.toNat xs).flatten) M
  | .tup xs, .int k => xs ≠ [] ∧ 2 ≤ k ∧ k ≤ 1000 ∧ xs.length ≤ 1000 ∧ Q (.d (.tup (List.replicate k.toNat xs).flatten)) M
  | _, _ => False
def rMulU (K : PySem.W.Frag) : R2 := fun x y H Q => rI CMul (fun i j => .int (i * j)) x y H Q ∨ (rI CMulW (fun i j => .int (i * j)) x y H Q ∨ (rRep x y H Q ∨ rRepT K x y H Q))
theorem op_mulU : OpR X (binaryOp .Mult) (rMulU X.K) := op_mul.or (op_mulW.or (op_rep.or op_repT))
theorem opl_mul : OpL G (rMulU G.K) fMul := by
  intro F δ M σ H v u x y Q Qv rep hx hy h k
  unfold fMul at h
  split at h
  · rcases h.1 with c | c
    · exact .inl ⟨_, _, opn_int hx, opn_int hy, c, OpL.done rep k (.int _) h.2⟩
    · exact .inr (.inl ⟨_, _, opn_int hx, opn_int hy, c, OpL.done rep k (.int _) h.2⟩)
  · obtain ⟨a, vs, rfl, h1, h2⟩ := hx.lst rep
    refine .inr (.inr (.inl ⟨a, _, vs, rfl, opn_int hy, h1, h.1, h.2.1, by rw [h2.length]; exact h.2.2.1, fun p hp => ?_⟩))
    exact k _ _ F M _ (rep.addH hp _) (Ex.refl F) (rep.addOwn hp (h2.replicate _)) h.2.2.2
  · obtain ⟨a, vs, rfl, h1, h2⟩ := (hx.val (fun _ z => by cases z)).tup_inv
    refine .inr (.inr (.inr ⟨a, _, vs, rfl, opn_int hy, ex_t rep.fr.ex h1, fun z => ?_, h.2.1, h.2.2.1, by rw [h2.length]; exact h.2.2.2.1, fun p hp => ?_⟩))
    · subst z
      cases h2
      exact h.1 rfl
    · exact k (.d (.tup _)) _ _ M _ (rep.addF hp _) (Ex.new (rep.fr.f_none hp)) (R.tup (.inl (.inl upd_same)) ((h2.replicate _).mono (Ex.new (rep.fr.f_none hp)))) h.2.2.2.2
  · exact h.elim
def rDivU : R2 := fun x y H Q => rI CDiv (fun i j => .int (i / j)) x y H Q ∨ rI CDivW (fun i j => .int (i / j)) x y H Q
theorem op_divU : OpR X (binaryOp .FloorDiv) rDivU := op_fdiv.or op_fdivW
def fDiv : F2 := fI (· / ·) fun i j => 0 < j ∧ (j < 1073741824 ∨ j.natAbs.log2 < 9000)
theorem opl_div : OpL G rDivU fDiv := by
  intro F δ M σ H v u x y Q Qv rep hx hy h k
  obtain ⟨i, j, rfl, rfl, c, q⟩ := h
  rcases c.2 with c2 | c2
  · exact .inl ⟨i, j, opn_int hx, opn_int hy, ⟨c.1, c2⟩, OpL.done rep k (.int _) q⟩
  · exact .inr ⟨i, j, opn_int hx, opn_int hy, ⟨c.1, c2⟩, OpL.done rep k (.int _) q⟩
def fMod : F2 := fI (· % ·) fun _ j => 0 < j
def fSub : F2 := fI (· - ·) fun _ _ => True
def fPow : F2 := fI (fun i j => i ^ j.toNat) CPow
/-- the operators by their names -/
theorem d_add {a b : Expr} {ta tb : DX} (hk : X.K = G.K) (ha : PE X a (LO G W ta)) (hb : PE X b (LO G W tb)) : PE X (.BinOp a .Add b pos) (LE G W (dBin fAdd ta tb)) := d_bin op_addU (by rw [hk]; exact opl_add) ha hb
theorem d_mul {a b : Expr} {ta tb : DX} (hk : X.K = G.K) (ha : PE X a (LO G W ta)) (hb : PE X b (LO G W tb)) : PE X (.BinOp a .Mult b pos) (LE G W (dBin fMul ta tb)) := d_bin op_mulU (by rw [hk]; exact opl_mul) ha hb
theorem d_sub {a b : Expr} {ta tb : DX} (ha : PE X a (LO G W ta)) (hb : PE X b (LO G W tb)) : PE X (.BinOp a .Sub b pos) (LE G W (dBin fSub ta tb)) := d_bin op_sub opl_int0 ha hb
theorem d_div {a b : Expr} {ta tb : DX} (ha : PE X a (LO G W ta)) (hb : PE X b (LO G W tb)) : PE X (.BinOp a .FloorDiv b pos) (LE G W (dBin fDiv ta tb)) := d_bin op_divU opl_div ha hb
theorem d_mod {a b : Expr} {ta tb : DX} (ha : PE X a (LO G W ta)) (hb : PE X b (LO G W tb)) : PE X (.BinOp a .Mod b pos) (LE G W (dBin fMod ta tb)) := d_bin op_mod opl_int ha hb
theorem d_pow {a b : Expr} {ta tb : DX} (ha : PE X a (LO G W ta)) (hb : PE X b (LO G W tb)) : PE X (.BinOp a .Pow b pos) (LE G W (dBin fPow ta tb)) := d_bin op_pow opl_int ha hb
def dNeg (t : DX) : DE := fun δ M Q E => t δ M (fun x M' => ∃ i, x = .int i ∧ Q (.d (.int (-i))) M') E
theorem d_neg {a : Expr} {t : DX} (ha : PE X a (LO G W t)) : PE X (.UnaryOp .USub a pos) (LE G W (dNeg t)) :=
  pe_imp (pe_un un_neg ha) fun σ H Q ⟨F, δ, M, Qd, Ed, rep, q, k, x⟩ => ⟨F, δ, M, _, Ed, rep, q, fun d v F1 M1 H1 rep1 e1 s1 ⟨i, z, q1⟩ => by
    subst z
    exact ⟨i, opn_int s1, k (.d (.int (-i))) _ F1 M1 H1 rep1 e1 (.int _) q1⟩, x⟩
end
end DL

set_option Elab.async false
set_option linter.all false
set_option maxRecDepth 100000
set_option maxHeartbeats 2000000
namespace DL
open PySem L2
/-! ### data as the library's own -/
mutual
def D.toP : D → PyData
  | .non => .none
  | .bl b => .bool b
  | .int i => .int i
  | .str s => .str s
  | .tup ds => .tuple (D.toPs ds)
  | .lst ds => .list (D.toPs ds)
  | .ref _ => .dict []
  | .lsk _ => .dict []
def D.toPs : List D → List PyData
  | [] => []
  | d :: ds => D.toP d :: D.toPs ds
end
theorem toPs_map : ∀ ds : List D, D.toPs ds = ds.map D.toP
  | [] => by simp [D.toPs]
  | d :: ds => by simp [D.toPs, toPs_map ds]
def D.eq (x y : D) : Bool := PyData.eqv x.toP y.toP
mutual
/-- no references, texts of proper signs -/
def D.nr : D → Bool
  | .ref _ => false
  | .lsk _ => false
  | .str s => PyData.strOk s
  | .tup ds => D.nrs ds
  | .lst ds => D.nrs ds
  | _ => true
def D.nrs : List D → Bool
  | [] => true
  | d :: ds => D.nr d && D.nrs ds
end
mutual
def D.dp : D → Nat
  | .tup ds => D.dps ds + 1
  | .lst ds => D.dps ds + 1
  | _ => 0
def D.dps : List D → Nat
  | [] => 0
  | d :: ds => max (D.dp d) (D.dps ds)
end
mutual
theorem lay_toP : ∀ d : D, (D.toP d).canLay0 = D.nr d
  | .non => by simp [D.toP, D.nr, PyData.canLay0]
  | .bl b => by simp [D.toP, D.nr, PyData.canLay0]
  | .int i => by simp [D.toP, D.nr, PyData.canLay0]
  | .str s => by simp [D.toP, D.nr, PyData.canLay0]
  | .ref a => by simp [D.toP, D.nr, PyData.canLay0]
  | .lsk a => by simp [D.toP, D.nr, PyData.canLay0]
  | .tup ds => by simp [D.toP, D.nr, PyData.canLay0, lay_toPs ds]
  | .lst ds => by simp [D.toP, D.nr, PyData.canLay0, lay_toPs ds]
theorem lay_toPs : ∀ ds : List D, PyData.canLayAll0 (D.toPs ds) = D.nrs ds
  | [] => by simp [D.toPs, D.nrs, PyData.canLayAll0]
  | d :: ds => by simp [D.toPs, D.nrs, PyData.canLayAll0, lay_toP d, lay_toPs ds]
end
mutual
theorem dp_toP : ∀ d : D, D.nr d = true → (D.toP d).depth = D.dp d
  | .non, _ => by simp [D.toP, D.dp, PyData.depth]
  | .bl b, _ => by simp [D.toP, D.dp, PyData.depth]
  | .int i, _ => by simp [D.toP, D.dp, PyData.depth]
  | .str s, _ => by simp [D.toP, D.dp, PyData.depth]
  | .ref a, h => by simp [D.nr] at h
  | .lsk a, h => by simp [D.nr] at h
  | .tup ds, h => by simp [D.toP, D.dp, PyData.depth, dp_toPs ds (by simpa [D.nr] using h)]
  | .lst ds, h => by simp [D.toP, D.dp, PyData.depth, dp_toPs ds (by simpa [D.nr] using h)]
theorem dp_toPs : ∀ ds : List D, D.nrs ds = true → PyData.depthAll (D.toPs ds) = D.dps ds
  | [], _ => by simp [D.toPs, D.dps, PyData.depthAll]
  | d :: ds, h => by
    have h' : D.nr d = true ∧ D.nrs ds = true := by simpa [D.nrs] using h
    simp [D.toPs, D.dps, PyData.depthAll, dp_toP d h'.1, dp_toPs ds h'.2]
end
/-- comparable data -/
def D.Ok (d : D) : Prop := d.nr = true ∧ d.dp ≤ 60
theorem D.Ok.shaped {d : D} (h : d.Ok) : SeqAt.shaped d.toP = true := by
  unfold SeqAt.shaped
  rw [lay_toP, dp_toP d h.1, h.1]
  have := h.2
  simp
  omega
mutual
theorem R.dp {K : PySem.W.Frag} {F H : Hp} (e : Ex F H) : ∀ (d : D) (v : V), R K F v d → D.nr d = true → Dp K H v d.toP
  | .non, _, h, _ => by cases h; exact .non
  | .bl b, _, h, _ => by cases h; exact .bl b
  | .int i, _, h, _ => by cases h; exact .int i
  | .str s, _, h, _ => by cases h; exact .str s
  | .ref a, _, _, n => by simp [D.nr] at n
  | .tup ds, _, h, n => by
    obtain ⟨a, vs, rfl, h1, h2⟩ := h.tup_inv
    have n' : D.nrs ds = true := by simpa [D.nr] using n
    have q := Rs.dp e ds vs h2 n'
    show Dp K H (.ref a) (.tuple (D.toPs ds))
    exact .tup (ex_t e h1) q
  | .lst ds, _, h, n => by
    obtain ⟨a, vs, rfl, h1, h2⟩ := h.lst_inv
    have n' : D.nrs ds = true := by simpa [D.nr] using n
    have q := Rs.dp e ds vs h2 n'
    show Dp K H (.ref a) (.list (D.toPs ds))
    exact .lst (.inl (.inl (e _ _ h1))) q
theorem Rs.dp {K : PySem.W.Frag} {F H : Hp} (e : Ex F H) : ∀ (ds : List D) (vs : List V), Rs K F vs ds → D.nrs ds = true → DpAll K H vs (D.toPs ds)
  | [], _, h, _ => by cases h; exact .nil
  | d :: ds, _, h, n => by
    cases h with
    | cons h1 h2 =>
      have n' : D.nr d = true ∧ D.nrs ds = true := by simpa [D.nrs] using n
      exact .cons (R.dp e d _ h1 n'.1) (Rs.dp e ds _ h2 n'.2)
end
section
variable {X : Cx} {G : Gd} {W : WX} {e a b c : Expr} {es : List Expr} {pos : Pos} {ta tb tc : DX}
theorem Opn.dp {F : Hp} {δ : DS} {M : MH} {σ : L2.St} {H : Hp} {v : V} {d : D} (h : Opn G F δ σ v d) (rep : Rep G F δ M σ H) (n : D.nr d = true) : Dp G.K H v d.toP := by
  cases d with
  | lst ds =>
    obtain ⟨a, vs, rfl, h1, h2⟩ := h.lst rep
    have n' : D.nrs ds = true := by simpa [D.nr] using n
    show Dp G.K H (.ref a) (.list (D.toPs ds))
    exact .lst (.inl (.inl h1)) (Rs.dp rep.fr.ex ds vs h2 n')
  | non => exact R.dp rep.fr.ex _ _ (h.val (fun _ z => by cases z)) n
  | bl b => exact R.dp rep.fr.ex _ _ (h.val (fun _ z => by cases z)) n
  | int i => exact R.dp rep.fr.ex _ _ (h.val (fun _ z => by cases z)) n
  | str s => exact R.dp rep.fr.ex _ _ (h.val (fun _ z => by cases z)) n
  | tup ds => exact R.dp rep.fr.ex _ _ (h.val (fun _ z => by cases z)) n
  | ref a => exact R.dp rep.fr.ex _ _ (h.val (fun _ z => by cases z)) n
  | lsk a => exact R.dp rep.fr.ex _ _ (h.val (fun _ z => by cases z)) n
/-! ### comparisons -/
abbrev FB := D → D → MH → (Bool → Prop) → Prop
def CmpL (G : Gd) (r : R2) (f : FB) : Prop := ∀ F δ M σ H v u x y Q Qv, Rep G F δ M σ H → Opn G F δ σ v x → Opn G F δ σ u y → f x y M Q → (∀ b, Q b → Qv (.bl b) H) → r v u H Qv
def dCmp (f : FB) (ta tb : DX) : DT := fun δ M Q E => ta δ M (fun x M1 => tb δ M1 (fun y M2 => f x y M2 fun b => Q b M2) E) E
/-- a test's answer as a value -/
def dOfT (t : DT) : DE := fun δ M Q E => t δ M (fun b M' => Q (.d (.bl b)) M') E
/-- a value as a test -/
def dB (t : DE) : DT := fun δ M Q E => t δ M (fun r M' => ∃ b, r = .d (.bl b) ∧ Q b M') E
theorem cmp_l {r : R2} {f : FB} (hl : CmpL G r f) {σ : L2.St} {H : Hp} {Q : VK} (h : LE G W (dOfT (dCmp f ta tb)) σ H Q) : tOp r (LO G W ta) (LO G W tb) σ H Q := by
  obtain ⟨F, δ, M, Qd, Ed, rep, q, k, x⟩ := h
  exact ⟨F, δ, M, _, Ed, rep, q, fun d v F1 M1 H1 rep1 e1 s1 q1 => ⟨F1, δ, M1, _, Ed, rep1, q1, fun d2 v2 F2 M2 H2 rep2 e2 s2 q2 =>
    hl F2 δ M2 σ H2 v v2 d d2 _ Q rep2 (s1.mono e2) s2 q2 fun b qb => k (.d (.bl b)) (.bl b) F2 M2 H2 rep2 (e1.trans e2) (R.bl b) qb, x⟩, x⟩
theorem cmp_t {r : R2} {f : FB} (hl : CmpL G r f) {σ : L2.St} {H : Hp} {Q : Bool → Hp → Prop} (h : LT G W (dCmp f ta tb) σ H Q) : tTest (tOp r (LO G W ta) (LO G W tb)) σ H Q := by
  obtain ⟨F, δ, M, Qd, Ed, rep, q, k, x⟩ := h
  exact ⟨F, δ, M, _, Ed, rep, q, fun d v F1 M1 H1 rep1 e1 s1 q1 => ⟨F1, δ, M1, _, Ed, rep1, q1, fun d2 v2 F2 M2 H2 rep2 e2 s2 q2 =>
    hl F2 δ M2 σ H2 v v2 d d2 _ _ rep2 (s1.mono e2) s2 q2 fun b qb => ⟨b, rfl, k b F2 M2 H2 rep2 (e1.trans e2) qb⟩, x⟩, x⟩
theorem d_cmp {op : CmpOp} {r : R2} {f : FB} (ho : OpR X (compareOp op) r) (hl : CmpL G r f) (ha : PE X a (LO G W ta)) (hb : PE X b (LO G W tb)) (hm : behindInMarks op b = false) : PE X (.Compare a [op] [b] pos) (LE G W (dOfT (dCmp f ta tb))) :=
  pe_imp (pe_cmpR ho ha hb hm) fun _ _ _ h => cmp_l hl h
theorem t_cmp {op : CmpOp} {r : R2} {f : FB} (ho : OpR X (compareOp op) r) (hl : CmpL G r f) (ha : PE X a (LO G W ta)) (hb : PE X b (LO G W tb)) (hm : behindInMarks op b = false) : PT X (.Compare a [op] [b] pos) (LT G W (dCmp f ta tb)) :=
  pt_imp (pt_cmpR ho ha hb hm) fun _ _ _ h => cmp_t hl h
def dChain (f f' : FB) (ta tb tc : DX) : DT := fun δ M Q E => ta δ M (fun x M1 => tb δ M1 (fun y M2 => f x y M2 fun b => if b = true then tc δ M2 (fun z M3 => f' y z M3 fun b' => Q b' M3) E else Q false M2) E) E
theorem chain_l {r r' : R2} {f f' : FB} (hl : CmpL G r f) (hl' : CmpL G r' f') {σ : L2.St} {H : Hp} {Q : VK} (h : LE G W (dOfT (dChain f f' ta tb tc)) σ H Q) : tChain r r' (LO G W ta) (LO G W tb) (LO G W tc) σ H Q := by
  obtain ⟨F, δ, M, Qd, Ed, rep, q, k, x⟩ := h
  refine ⟨F, δ, M, _, Ed, rep, q, fun d v F1 M1 H1 rep1 e1 s1 q1 => ⟨F1, δ, M1, _, Ed, rep1, q1, fun d2 v2 F2 M2 H2 rep2 e2 s2 q2 => ?_, x⟩, x⟩
  refine hl F2 δ M2 σ H2 v v2 d d2 _ _ rep2 (s1.mono e2) s2 q2 fun b qb => ⟨b, rfl, ?_⟩
  cases b with
  | false => exact k (.d (.bl false)) _ F2 M2 H2 rep2 (e1.trans e2) (R.bl _) qb
  | true =>
    rw [if_pos rfl] at qb ⊢
    exact ⟨F2, δ, M2, _, Ed, rep2, qb, fun d3 v3 F3 M3 H3 rep3 e3 s3 q3 =>
      hl' F3 δ M3 σ H3 v2 v3 d2 d3 _ _ rep3 (s2.mono e3) s3 q3 fun b' qb' => k (.d (.bl b')) _ F3 M3 H3 rep3 (e1.trans (e2.trans e3)) (R.bl _) qb', x⟩
theorem d_chain {op op' : CmpOp} {r r' : R2} {f f' : FB} (ho : OpR X (compareOp op) r) (hl : CmpL G r f) (ho' : OpR X (compareOp op') r') (hl' : CmpL G r' f') (ha : PE X a (LO G W ta)) (hb : PE X b (LO G W tb)) (hc : PE X c (LO G W tc))
    (hm : lastMarks [op, op'] [b, c] = false := by with_unfolding_all rfl) : PE X (.Compare a [op, op'] [b, c] pos) (LE G W (dOfT (dChain f f' ta tb tc))) :=
  pe_imp (pe_chain ho ho' ha hb hc hm) fun _ _ _ h => chain_l hl hl' h
theorem chain_t {r r' : R2} {f f' : FB} (hl : CmpL G r f) (hl' : CmpL G r' f') {σ : L2.St} {H : Hp} {Q : Bool → Hp → Prop} (h : LT G W (dChain f f' ta tb tc) σ H Q) : tTest (tChain r r' (LO G W ta) (LO G W tb) (LO G W tc)) σ H Q := by
  obtain ⟨F, δ, M, Qd, Ed, rep, q, k, x⟩ := h
  refine ⟨F, δ, M, _, Ed, rep, q, fun d v F1 M1 H1 rep1 e1 s1 q1 => ⟨F1, δ, M1, _, Ed, rep1, q1, fun d2 v2 F2 M2 H2 rep2 e2 s2 q2 => ?_, x⟩, x⟩
  refine hl F2 δ M2 σ H2 v v2 d d2 _ _ rep2 (s1.mono e2) s2 q2 fun b qb => ⟨b, rfl, ?_⟩
  cases b with
  | false => exact ⟨false, rfl, k false F2 M2 H2 rep2 (e1.trans e2) qb⟩
  | true =>
    rw [if_pos rfl] at qb ⊢
    exact ⟨F2, δ, M2, _, Ed, rep2, qb, fun d3 v3 F3 M3 H3 rep3 e3 s3 q3 =>
      hl' F3 δ M3 σ H3 v2 v3 d2 d3 _ _ rep3 (s2.mono e3) s3 q3 fun b' qb' => ⟨b', rfl, k b' F3 M3 H3 rep3 (e1.trans (e2.trans e3)) qb'⟩, x⟩
theorem t_chain {op op' : CmpOp} {r r' : R2} {f f' : FB} (ho : OpR X (compareOp op) r) (hl : CmpL G r f) (ho' : OpR X (compareOp op') r') (hl' : CmpL G r' f') (ha : PE X a (LO G W ta)) (hb : PE X b (LO G W tb)) (hc : PE X c (LO G W tc))
    (hm : lastMarks [op, op'] [b, c] = false := by with_unfolding_all rfl) : PT X (.Compare a [op, op'] [b, c] pos) (LT G W (dChain f f' ta tb tc)) :=
  pt_imp (pt_chain ho ho' ha hb hc hm) fun _ _ _ h => chain_t hl hl' h
/-! ### the comparisons by their names -/
def fCI (g : Int → Int → Bool) : FB := fun x y _ Q => ∃ i j, x = .int i ∧ y = .int j ∧ Q (g i j)
theorem cl_int {g : Int → Int → Bool} : CmpL G (rI0 fun i j => .bl (g i j)) (fCI g) := by
  intro F δ M σ H v u x y Q Qv rep hx hy h k
  obtain ⟨i, j, rfl, rfl, q⟩ := h
  exact ⟨i, j, opn_int hx, opn_int hy, k _ q⟩
def fLt : FB := fCI fun i j => decide (i < j)
def fLe : FB := fCI fun i j => decide (i ≤ j)
def fGt : FB := fCI fun i j => decide (j < i)
def fGe : FB := fCI fun i j => decide (j ≤ i)
theorem cl_lt : CmpL G (rI0 fun i j => .bl (decide (i < j))) fLt := cl_int
theorem cl_le : CmpL G (rI0 fun i j => .bl (decide (i ≤ j))) fLe := cl_int
theorem cl_gt : CmpL G (rI0 fun i j => .bl (decide (j < i))) fGt := cl_int
theorem cl_ge : CmpL G (rI0 fun i j => .bl (decide (j ≤ i))) fGe := cl_int
def fEq : FB := fun x y _ Q => x.Ok ∧ y.Ok ∧ Q (D.eq x y)
def fNe : FB := fun x y _ Q => x.Ok ∧ y.Ok ∧ Q (!D.eq x y)
theorem cl_eq : CmpL G (rEqD G.K) fEq := by
  intro F δ M σ H v u x y Q Qv rep hx hy ⟨h1, h2, h3⟩ k
  exact ⟨x.toP, y.toP, hx.dp rep h1.1, hy.dp rep h2.1, h1.shaped, h2.shaped, k _ h3⟩
theorem cl_ne : CmpL G (rNeD G.K) fNe := by
  intro F δ M σ H v u x y Q Qv rep hx hy ⟨h1, h2, h3⟩ k
  exact ⟨x.toP, y.toP, hx.dp rep h1.1, hy.dp rep h2.1, h1.shaped, h2.shaped, k _ h3⟩
/-- in -/
def flatD : D → Bool
  | .non => true
  | .bl _ => true
  | .int _ => true
  | .str _ => true
  | _ => false
theorem R.flat {K : PySem.W.Frag} {F : Hp} {v : V} {d : D} (h : R K F v d) (f : flatD d = true) : flatV v = true := by
  cases h with
  | non => rfl
  | bl b => rfl
  | int i => rfl
  | str x => rfl
  | tup _ _ => cases f
  | lst _ _ => cases f
  | ref a => cases f
  | lsk _ _ => cases f
theorem eqV_eq {K : PySem.W.Frag} {F : Hp} {v u : V} {x y : D} (h : R K F v x) (h' : R K F u y) (f : flatD x = true) (f' : flatD y = true) : eqV v u = D.eq x y := by
  cases x with
  | non => cases h; cases y with
    | non => cases h'; simp [eqV, D.eq, D.toP, PyData.eqv]
    | bl b => cases h'; simp [eqV, D.eq, D.toP, PyData.eqv]
    | int b => cases h'; simp [eqV, D.eq, D.toP, PyData.eqv]
    | str b => cases h'; simp [eqV, D.eq, D.toP, PyData.eqv]
    | tup b => cases f'
    | lst b => cases f'
    | ref b => cases f'
    | lsk b => cases f'
  | bl b0 => cases h; cases y with
    | non => cases h'; simp [eqV, D.eq, D.toP, PyData.eqv]
    | bl b => cases h'; simp [eqV, D.eq, D.toP, PyData.eqv]
    | int b => cases h'; simp [eqV, D.eq, D.toP, PyData.eqv]
    | str b => cases h'; simp [eqV, D.eq, D.toP, PyData.eqv]
    | tup b => cases f'
    | lst b => cases f'
    | ref b => cases f'
    | lsk b => cases f'
  | int b0 => cases h; cases y with
    | non => cases h'; simp [eqV, D.eq, D.toP, PyData.eqv]
    | bl b => cases h'; simp [eqV, D.eq, D.toP, PyData.eqv]
    | int b => cases h'; simp [eqV, D.eq, D.toP, PyData.eqv]
    | str b => cases h'; simp [eqV, D.eq, D.toP, PyData.eqv]
    | tup b => cases f'
    | lst b => cases f'
    | ref b => cases f'
    | lsk b => cases f'
  | str b0 => cases h; cases y with
    | non => cases h'; simp [eqV, D.eq, D.toP, PyData.eqv]
    | bl b => cases h'; simp [eqV, D.eq, D.toP, PyData.eqv]
    | int b => cases h'; simp [eqV, D.eq, D.toP, PyData.eqv]
    | str b => cases h'; simp [eqV, D.eq, D.toP, PyData.eqv]
    | tup b => cases f'
    | lst b => cases f'
    | ref b => cases f'
    | lsk b => cases f'
  | tup b0 => cases f
  | lst b0 => cases f
  | ref b0 => cases f
  | lsk b0 => cases f
theorem inV_eq {K : PySem.W.Frag} {F : Hp} {v : V} {x : D} (h : R K F v x) (f : flatD x = true) : ∀ {vs : List V} {ds : List D}, Rs K F vs ds → ds.all flatD = true → vs.all flatV = true ∧ inV v vs = ds.any fun y => D.eq y x
  | _, _, .nil, _ => ⟨rfl, rfl⟩
  | _, _, .cons (v := u) (d := y) (vs := us) (ds := ys) r1 r2, fa => by
    have fa' : flatD y = true ∧ ys.all flatD = true := by simpa using fa
    obtain ⟨q1, q2⟩ := inV_eq h f r2 fa'.2
    refine ⟨by simp [r1.flat fa'.1]; simpa using q1, ?_⟩
    have q2' : us.any (fun y => eqV y v) = ys.any fun y => D.eq y x := q2
    show (eqV u v || us.any fun y => eqV y v) = _
    rw [eqV_eq r1 h fa'.1 f, q2']
    rfl
def fInG (g : Bool → Bool) : FB := fun x y _ Q => match y with
  | .tup ys => flatD x = true ∧ ys.all flatD = true ∧ Q (g (ys.any fun z => D.eq z x))
  | .lst ys => (flatD x = true ∧ ys.all flatD = true ∨ x.Ok ∧ D.Ok (.lst ys)) ∧ Q (g (ys.any fun z => D.eq z x))
  | .str z => ∃ c, x = .str ⟨#[c]⟩ ∧ Q (g (decide (c ∈ z.cps.toList)))
  | _ => False
def fIn : FB := fInG id
def fNotIn : FB := fInG not
def rInU (K : PySem.W.Frag) : R2 := fun x y H Q => rIn K false x y H Q ∨ (rInD K x y H Q ∨ (∃ (c : Nat) (z : Str), x = .str ⟨#[c]⟩ ∧ y = .str z ∧ Q (.bl (decide (c ∈ z.cps.toList))) H))
def rNotInU (K : PySem.W.Frag) : R2 := fun x y H Q => rIn K true x y H Q ∨ (rNotInD K x y H Q ∨ (∃ (c : Nat) (z : Str), x = .str ⟨#[c]⟩ ∧ y = .str z ∧ Q (.bl (!decide (c ∈ z.cps.toList))) H))
theorem op_inU (hu : X.A.units + 65 < cLine) : OpR X (compareOp .In) (rInU X.K) := op_in_seq.or ((op_inD hu).or op_in_sign)
theorem op_notInU (hu : X.A.units + 65 < cLine) : OpR X (compareOp .NotIn) (rNotInU X.K) := op_notIn_seq.or ((op_notInD hu).or op_notIn_sign)
theorem any_toP (x : D) : ∀ ys : List D, ((D.toPs ys).any fun z => PyData.eqv z x.toP) = ys.any fun z => D.eq z x
  | [] => rfl
  | y :: ys => by
    show (PyData.eqv y.toP x.toP || _) = (D.eq y x || _)
    rw [any_toP x ys]
    rfl
theorem cl_in : CmpL G (rInU G.K) fIn := by
  intro F δ M σ H v u x y Q Qv rep hx hy h k
  unfold fIn fInG at h
  split at h
  · obtain ⟨f1, f2, q⟩ := h
    obtain ⟨a, us, rfl, h1, h2⟩ := hy.tup rep
    have hx' := hx.val (fun _ z => by rw [z] at f1; cases f1)
    obtain ⟨g1, g2⟩ := inV_eq hx' f1 h2 f2
    refine .inl ⟨a, us, rfl, .inr h1, hx'.flat f1, g1, ?_⟩
    rw [g2]
    exact k _ q
  · obtain ⟨⟨f1, f2⟩ | ⟨n1, n2⟩, q⟩ := h
    · obtain ⟨a, us, rfl, h1, h2⟩ := hy.lst rep
      have hx' := hx.val (fun _ z => by rw [z] at f1; cases f1)
      obtain ⟨g1, g2⟩ := inV_eq hx' f1 h2 f2
      refine .inl ⟨a, us, rfl, .inl (.inl (.inl h1)), hx'.flat f1, g1, ?_⟩
      rw [g2]
      exact k _ q
    · refine .inr (.inl ⟨x.toP, D.toPs _, hx.dp rep n1.1, hy.dp rep n2.1, n1.shaped, n2.shaped, ?_⟩)
      rw [any_toP]
      exact k _ q
  · obtain ⟨c, rfl, q⟩ := h
    exact .inr (.inr ⟨c, _, opn_str hx, opn_str hy, k _ q⟩)
  · exact h.elim
theorem cl_notIn : CmpL G (rNotInU G.K) fNotIn := by
  intro F δ M σ H v u x y Q Qv rep hx hy h k
  unfold fNotIn fInG at h
  split at h
  · obtain ⟨f1, f2, q⟩ := h
    obtain ⟨a, us, rfl, h1, h2⟩ := hy.tup rep
    have hx' := hx.val (fun _ z => by rw [z] at f1; cases f1)
    obtain ⟨g1, g2⟩ := inV_eq hx' f1 h2 f2
    refine .inl ⟨a, us, rfl, .inr h1, hx'.flat f1, g1, ?_⟩
    rw [g2]
    exact k _ q
  · obtain ⟨⟨f1, f2⟩ | ⟨n1, n2⟩, q⟩ := h
    · obtain ⟨a, us, rfl, h1, h2⟩ := hy.lst rep
      have hx' := hx.val (fun _ z => by rw [z] at f1; cases f1)
      obtain ⟨g1, g2⟩ := inV_eq hx' f1 h2 f2
      refine .inl ⟨a, us, rfl, .inl (.inl (.inl h1)), hx'.flat f1, g1, ?_⟩
      rw [g2]
      exact k _ q
    · refine .inr (.inl ⟨x.toP, D.toPs _, hx.dp rep n1.1, hy.dp rep n2.1, n1.shaped, n2.shaped, ?_⟩)
      rw [any_toP]
      exact k _ q
  · obtain ⟨c, rfl, q⟩ := h
    exact .inr (.inr ⟨c, _, opn_str hx, opn_str hy, k _ q⟩)
  · exact h.elim
/-- is None -/
def isNon : D → Bool
  | .non => true
  | _ => false
def fIs : FB := fun x y _ Q => y = .non ∧ Q (isNon x)
def fIsNot : FB := fun x y _ Q => y = .non ∧ Q (!isNon x)
theorem opn_isNon {F : Hp} {δ : DS} {σ : L2.St} {H : Hp} {M : MH} {v : V} {x : D} (rep : Rep G F δ M σ H) (h : Opn G F δ σ v x) : decide (v = .non) = isNon x := by
  rcases h with h | ⟨i, xs, h1, h2, h3⟩
  · cases h <;> simp [isNon]
  · subst h3
    obtain ⟨a, q, _⟩ := rep.own i xs h1
    rw [h2] at q
    cases q
    simp [isNon]
theorem cl_is : CmpL G (fun x y H Q => y = .non ∧ Q (.bl (decide (x = .non))) H) fIs := by
  intro F δ M σ H v u x y Q Qv rep hx hy h k
  obtain ⟨rfl, q⟩ := h
  refine ⟨opn_non hy, ?_⟩
  rw [opn_isNon rep hx]
  exact k _ q
theorem cl_isNot : CmpL G (fun x y H Q => y = .non ∧ Q (.bl (!decide (x = .non))) H) fIsNot := by
  intro F δ M σ H v u x y Q Qv rep hx hy h k
  obtain ⟨rfl, q⟩ := h
  refine ⟨opn_non hy, ?_⟩
  rw [opn_isNon rep hx]
  exact k _ q
/-! ### tests -/
theorem t_val {td : DE} (h : PE X e (LE G W td)) (he : ∀ whole, isTrue e X.env whole = (do let v ← whole; standAt e.pos; holding [v] (truthy v)) := by intro _; rfl) : PT X e (LT G W (dB td)) :=
  pt_imp (pt_val h he) fun σ H Q ⟨F, δ, M, Qd, Ed, rep, q, k, x⟩ => ⟨F, δ, M, _, Ed, rep, q, fun r v F' M' H' rep' e' s' ⟨b, hb, qb⟩ => by
    subst hb
    cases s'
    exact ⟨b, rfl, k b F' M' H' rep' e' qb⟩, x⟩
def tdAnd (t u : DT) : DT := fun δ M Q E => t δ M (fun c M1 => if c = true then u δ M1 Q E else Q false M1) E
def tdOr (t u : DT) : DT := fun δ M Q E => t δ M (fun c M1 => if c = true then Q true M1 else u δ M1 Q E) E
def tdNot (t : DT) : DT := fun δ M Q E => t δ M (fun c M1 => Q (!c) M1) E
theorem and_l {t u : DT} {σ : L2.St} {H : Hp} {Q : Bool → Hp → Prop} (h : LT G W (tdAnd t u) σ H Q) : tAnd (LT G W t) (LT G W u) σ H Q := by
  obtain ⟨F, δ, M, Qd, Ed, rep, q, k, x⟩ := h
  refine ⟨F, δ, M, _, Ed, rep, q, fun b F1 M1 H1 rep1 e1 q1 => ?_, x⟩
  cases b with
  | true => exact ⟨F1, δ, M1, _, Ed, rep1, q1, fun b F2 M2 H2 rep2 e2 q2 => k b F2 M2 H2 rep2 (e1.trans e2) q2, x⟩
  | false => exact k _ F1 M1 H1 rep1 e1 q1
theorem or_l {t u : DT} {σ : L2.St} {H : Hp} {Q : Bool → Hp → Prop} (h : LT G W (tdOr t u) σ H Q) : tOr (LT G W t) (LT G W u) σ H Q := by
  obtain ⟨F, δ, M, Qd, Ed, rep, q, k, x⟩ := h
  refine ⟨F, δ, M, _, Ed, rep, q, fun b F1 M1 H1 rep1 e1 q1 => ?_, x⟩
  cases b with
  | false => exact ⟨F1, δ, M1, _, Ed, rep1, q1, fun b F2 M2 H2 rep2 e2 q2 => k b F2 M2 H2 rep2 (e1.trans e2) q2, x⟩
  | true => exact k _ F1 M1 H1 rep1 e1 q1
theorem w_and1 {t : DT} (ha : PT X a (LT G W t)) : PW X (.BoolOp .And [a] pos) (LT G W t) := pw_and1 ha
theorem w_or1 {t : DT} (ha : PT X a (LT G W t)) : PW X (.BoolOp .Or [a] pos) (LT G W t) := pw_or1 ha
theorem w_and {t u : DT} {rest : List Expr} (ha : PT X a (LT G W t)) (hb : PW X (.BoolOp .And (b :: rest) pos) (LT G W u)) : PW X (.BoolOp .And (a :: b :: rest) pos) (LT G W (tdAnd t u)) := pw_imp (pw_and ha hb) fun _ _ _ h => and_l h
theorem w_or {t u : DT} {rest : List Expr} (ha : PT X a (LT G W t)) (hb : PW X (.BoolOp .Or (b :: rest) pos) (LT G W u)) : PW X (.BoolOp .Or (a :: b :: rest) pos) (LT G W (tdOr t u)) := pw_imp (pw_or ha hb) fun _ _ _ h => or_l h
theorem t_not {t : DT} (ha : PT X a (LT G W t)) : PT X (.UnaryOp .Not a pos) (LT G W (tdNot t)) :=
  pt_imp (pt_not ha) fun σ H Q ⟨F, δ, M, Qd, Ed, rep, q, k, x⟩ => ⟨F, δ, M, _, Ed, rep, q, fun b F1 M1 H1 rep1 e1 q1 => k _ F1 M1 H1 rep1 e1 q1, x⟩
/-! .. as values -/
def dAnd (t u : DE) : DE := fun δ M Q E => t δ M (fun r M1 => ∃ c, r = .d (.bl c) ∧ if c = true then u δ M1 Q E else Q (.d (.bl false)) M1) E
def dOr (t u : DE) : DE := fun δ M Q E => t δ M (fun r M1 => ∃ c, r = .d (.bl c) ∧ if c = true then Q (.d (.bl true)) M1 else u δ M1 Q E) E
def dNot (t : DE) : DE := fun δ M Q E => t δ M (fun r M1 => ∃ c, r = .d (.bl c) ∧ Q (.d (.bl (!c))) M1) E
theorem d_one {op} {t : DE} (h : PE X a (LE G W t)) : PE X (.BoolOp op [a] pos) (LE G W t) := pe_one h
theorem d_and {t u : DE} {rest : List Expr} (ha : PE X a (LE G W t)) (hb : PE X (.BoolOp .And (b :: rest) pos) (LE G W u)) : PE X (.BoolOp .And (a :: b :: rest) pos) (LE G W (dAnd t u)) :=
  pe_imp (pe_and ha hb) fun σ H Q ⟨F, δ, M, Qd, Ed, rep, q, k, x⟩ => ⟨F, δ, M, _, Ed, rep, q, fun r v F1 M1 H1 rep1 e1 s1 ⟨c, hc, q1⟩ => by
    subst hc
    cases s1
    refine ⟨c, rfl, ?_⟩
    cases c with
    | true => exact ⟨F1, δ, M1, _, Ed, rep1, q1, fun b v F2 M2 H2 rep2 e2 s2 q2 => k b v F2 M2 H2 rep2 (e1.trans e2) s2 q2, x⟩
    | false => exact k (.d (.bl false)) _ F1 M1 H1 rep1 e1 (R.bl _) q1, x⟩
theorem d_or {t u : DE} {rest : List Expr} (ha : PE X a (LE G W t)) (hb : PE X (.BoolOp .Or (b :: rest) pos) (LE G W u)) : PE X (.BoolOp .Or (a :: b :: rest) pos) (LE G W (dOr t u)) :=
  pe_imp (pe_or ha hb) fun σ H Q ⟨F, δ, M, Qd, Ed, rep, q, k, x⟩ => ⟨F, δ, M, _, Ed, rep, q, fun r v F1 M1 H1 rep1 e1 s1 ⟨c, hc, q1⟩ => by
    subst hc
    cases s1
    refine ⟨c, rfl, ?_⟩
    cases c with
    | false => exact ⟨F1, δ, M1, _, Ed, rep1, q1, fun b v F2 M2 H2 rep2 e2 s2 q2 => k b v F2 M2 H2 rep2 (e1.trans e2) s2 q2, x⟩
    | true => exact k (.d (.bl true)) _ F1 M1 H1 rep1 e1 (R.bl _) q1, x⟩
theorem d_not {t : DE} (ha : PE X a (LE G W t)) : PE X (.UnaryOp .Not a pos) (LE G W (dNot t)) :=
  pe_imp (pe_not ha) fun σ H Q ⟨F, δ, M, Qd, Ed, rep, q, k, x⟩ => ⟨F, δ, M, _, Ed, rep, q, fun r v F1 M1 H1 rep1 e1 s1 ⟨c, hc, q1⟩ => by
    subst hc
    cases s1
    exact ⟨c, rfl, k (.d (.bl (!c))) _ F1 M1 H1 rep1 e1 (R.bl _) q1⟩, x⟩
def dIf (t : DT) (u w : DE) : DE := fun δ M Q E => t δ M (fun c M1 => if c = true then u δ M1 Q E else w δ M1 Q E) E
theorem d_if {t : DT} {u w : DE} (hc : PT X c (LT G W t)) (ha : PE X a (LE G W u)) (hb : PE X b (LE G W w)) : PE X (.IfExp c a b pos) (LE G W (dIf t u w)) :=
  pe_imp (pe_ifExp hc ha hb) fun σ H Q ⟨F, δ, M, Qd, Ed, rep, q, k, x⟩ => ⟨F, δ, M, _, Ed, rep, q, fun b F1 M1 H1 rep1 e1 q1 => by
    cases b with
    | true => exact ⟨F1, δ, M1, _, Ed, rep1, q1, fun b v F2 M2 H2 rep2 e2 s2 q2 => k b v F2 M2 H2 rep2 (e1.trans e2) s2 q2, x⟩
    | false => exact ⟨F1, δ, M1, _, Ed, rep1, q1, fun b v F2 M2 H2 rep2 e2 s2 q2 => k b v F2 M2 H2 rep2 (e1.trans e2) s2 q2, x⟩, x⟩
end
end DL

set_option Elab.async false
set_option linter.all false
set_option maxRecDepth 100000
set_option maxHeartbeats 2000000
namespace DL
open PySem L2
section
variable {X : Cx} {G : Gd} {W : WX} {e a b c : Expr} {es : List Expr} {pos p : Pos} {ta tb tc : DX}
/-! ### calls of built-ins -/
abbrev FC := List D → MH → (Sl → MH → Prop) → Prop
def CallL (G : Gd) (r : List V → Hp → VK → Prop) (f : FC) : Prop := ∀ F δ M σ H vs ds Q Qv, Rep G F δ M σ H → Opns G F δ σ vs ds → f ds M Q →
  (∀ z w F' M' H', Rep G F' δ M' σ H' → Ex F F' → SvR G F' δ M' σ H' w z → Q z M' → Qv w H') → r vs H Qv
def dCB (f : FC) (t : DA) : DE := fun δ M Q E => t δ M (fun ds M1 => f ds M1 Q) E
theorem cb_l {r : List V → Hp → VK → Prop} {f : FC} {t : DA} (hl : CallL G r f) {σ : L2.St} {H : Hp} {Q : VK} (h : LE G W (dCB f t) σ H Q) : tCB r (LAO G W t) σ H Q := by
  obtain ⟨F, δ, M, Qd, Ed, rep, q, k, x⟩ := h
  exact ⟨F, δ, M, _, Ed, rep, q, fun ds vs F1 M1 H1 rep1 e1 s1 q1 => hl F1 δ M1 σ H1 vs ds Qd Q rep1 s1 q1 fun z w F' M' H' rep' e' s' q' => k z w F' M' H' rep' (e1.trans e') s' q', x⟩
theorem d_callB {x : Str} {id : String} {r : List V → Hp → VK → Prop} {f : FC} {t : DA} (hc : CallR X (.builtin id) r) (hl : CallL G r f) (hg : Gl X x) (hm : X.mg x = none) (hv : bootBuiltins x = some (.builtin id)) (ha : PA X (e :: es) (LAO G W t))
    (hn : x ≠ "__name__" := by decide) (hdb : (x == ("__debug__" : Str)) = false := by decide)
    (he : starEach (e :: es) X.env = (false, eval e X.env) :: starEach es X.env := by rfl) (hpl : (backTo pos (starEach es X.env)).any (·.1) = false := by rfl) : PE X (.Call (.Name x p) (e :: es) [] pos) (LE G W (dCB f t)) :=
  pe_imp (pe_callB hc hg hm hv ha hn hdb he hpl) fun _ _ _ h => cb_l hl h
theorem d_callTy {x : Str} {id : String} {r : List V → Hp → VK → Prop} {f : FC} {t : DA} (hc : CallR X (.type id) r) (hl : CallL G r f) (hg : Gl X x) (hm : X.mg x = none) (hv : bootBuiltins x = some (.type id)) (ha : PA X (e :: es) (LAO G W t))
    (hn : x ≠ "__name__" := by decide) (hdb : (x == ("__debug__" : Str)) = false := by decide)
    (he : starEach (e :: es) X.env = (false, eval e X.env) :: starEach es X.env := by rfl) (hpl : (backTo pos (starEach es X.env)).any (·.1) = false := by rfl) : PE X (.Call (.Name x p) (e :: es) [] pos) (LE G W (dCB f t)) :=
  pe_imp (pe_callTy hc hg hm hv ha hn hdb he hpl) fun _ _ _ h => cb_l hl h
theorem Opns.one {F : Hp} {δ : DS} {σ : L2.St} {vs : List V} {d : D} (h : Opns G F δ σ vs [d]) : ∃ v, vs = [v] ∧ Opn G F δ σ v d := by
  cases h with
  | cons h1 h2 => cases h2; exact ⟨_, rfl, h1⟩
theorem Opns.two {F : Hp} {δ : DS} {σ : L2.St} {vs : List V} {d d' : D} (h : Opns G F δ σ vs [d, d']) : ∃ v v', vs = [v, v'] ∧ Opn G F δ σ v d ∧ Opn G F δ σ v' d' := by
  cases h with
  | cons h1 h2 => cases h2 with
    | cons h3 h4 => cases h4; exact ⟨_, _, rfl, h1, h3⟩
/-- what a list-like operand holds -/
def seqOf (M : MH) : D → Option (List D)
  | .lst xs => some xs
  | .lsk xs => some xs
  | .ref a => match M a with
    | some (.lst xs) => some xs
    | _ => none
  | _ => none
theorem seqOf_at {F : Hp} {δ : DS} {M : MH} {σ : L2.St} {H : Hp} {v : V} {d : D} {xs : List D} (rep : Rep G F δ M σ H) (h : Opn G F δ σ v d) (q : seqOf M d = some xs) : ∃ a vs, v = .ref a ∧ SqL G.K H a vs ∧ Rs G.K F vs xs := by
  unfold seqOf at q
  split at q
  · cases q
    obtain ⟨a, vs, h0, h1, h2⟩ := h.lst rep
    exact ⟨a, vs, h0, .inl (.inl h1), h2⟩
  · cases q
    obtain ⟨a, vs, h0, h1, h2⟩ := (h.val (fun _ z => by cases z)).lsk_inv
    exact ⟨a, vs, h0, ex_l rep.fr.ex h1, h2⟩
  · split at q
    · rename_i e
      cases q
      have hv := (h.val (fun _ z => by cases z)).ref_inv
      obtain ⟨vs, h1, h2⟩ := (rep.fr.mem _ _ e).2
      exact ⟨_, vs, hv, .inl (.inl h1), h2⟩
    · cases q
  · cases q
def fLen : FC := fun ds M Q => ∃ d, ds = [d] ∧ match d with
  | .str s => s.length ≤ sizeLine ∧ Q (.d (.int s.length)) M
  | .tup xs => Q (.d (.int xs.length)) M
  | d => ∃ xs, seqOf M d = some xs ∧ Q (.d (.int xs.length)) M
theorem cl_len : CallL G (fun xs H Q => ∃ x n, xs = [x] ∧ LenV G.K x H n ∧ Q (.int n) H) fLen := by
  intro F δ M σ H vs ds Q Qv rep hs h k
  obtain ⟨d, rfl, h⟩ := h
  obtain ⟨v, rfl, o⟩ := hs.one
  split at h
  · obtain rfl := opn_str o
    exact ⟨_, _, rfl, ⟨h.1, rfl⟩, k (.d (.int _)) _ F M H rep (Ex.refl F) (R.int _) h.2⟩
  · obtain ⟨a, us, rfl, h1, h2⟩ := o.tup rep
    exact ⟨_, _, rfl, .inr ⟨us, h1, rfl⟩, k (.d (.int _)) _ F M H rep (Ex.refl F) (by rw [h2.length]; exact R.int _) h⟩
  · obtain ⟨xs, q, h⟩ := h
    obtain ⟨a, us, rfl, h1, h2⟩ := seqOf_at rep o q
    exact ⟨_, _, rfl, .inl ⟨us, h1, rfl⟩, k (.d (.int _)) _ F M H rep (Ex.refl F) (by rw [h2.length]; exact R.int _) h⟩
def fMin2 : FC := fun ds M Q => ∃ i j, ds = [.int i, .int j] ∧ Q (.d (.int (if j < i then j else i))) M
def fMax2 : FC := fun ds M Q => ∃ i j, ds = [.int i, .int j] ∧ Q (.d (.int (if j > i then j else i))) M
theorem cl_min2 : CallL G (fun xs H Q => ∃ i j, xs = [.int i, .int j] ∧ Q (.int (if j < i then j else i)) H) fMin2 := by
  intro F δ M σ H vs ds Q Qv rep hs h k
  obtain ⟨i, j, rfl, h⟩ := h
  obtain ⟨v, u, rfl, o1, o2⟩ := hs.two
  rw [opn_int o1, opn_int o2]
  exact ⟨i, j, rfl, k (.d (.int _)) _ F M H rep (Ex.refl F) (R.int _) h⟩
theorem cl_max2 : CallL G (fun xs H Q => ∃ i j, xs = [.int i, .int j] ∧ Q (.int (if j > i then j else i)) H) fMax2 := by
  intro F δ M σ H vs ds Q Qv rep hs h k
  obtain ⟨i, j, rfl, h⟩ := h
  obtain ⟨v, u, rfl, o1, o2⟩ := hs.two
  rw [opn_int o1, opn_int o2]
  exact ⟨i, j, rfl, k (.d (.int _)) _ F M H rep (Ex.refl F) (R.int _) h⟩
def fInt : FC := fun ds M Q => ∃ d, ds = [d] ∧ match d with
  | .int i => Q (.d (.int i)) M
  | .bl c => Q (.d (.int (if c = true then 1 else 0))) M
  | _ => False
theorem cl_int1 : CallL G (fun xs H Q => (∃ i, xs = [.int i] ∧ Q (.int i) H) ∨ ∃ k, xs = [.bl k] ∧ Q (.int (if k then 1 else 0)) H) fInt := by
  intro F δ M σ H vs ds Q Qv rep hs h k
  obtain ⟨d, rfl, h⟩ := h
  obtain ⟨v, rfl, o⟩ := hs.one
  split at h
  · obtain rfl := opn_int o
    exact .inl ⟨_, rfl, k (.d (.int _)) _ F M H rep (Ex.refl F) (R.int _) h⟩
  · obtain rfl := opn_bl o
    exact .inr ⟨_, rfl, k (.d (.int _)) _ F M H rep (Ex.refl F) (R.int _) h⟩
  · exact h.elim
def fStrI : FC := fun ds M Q => ∃ i, ds = [.int i] ∧ i.natAbs.log2 < 1920 ∧ Q (.d (.str (toString i))) M
theorem cl_strI : CallL G (fun xs H Q => ∃ i, xs = [.int i] ∧ i.natAbs.log2 < 1920 ∧ Q (.str (toString i)) H) fStrI := by
  intro F δ M σ H vs ds Q Qv rep hs h k
  obtain ⟨i, rfl, h1, h⟩ := h
  obtain ⟨v, rfl, o⟩ := hs.one
  obtain rfl := opn_int o
  exact ⟨_, rfl, h1, k (.d (.str _)) _ F M H rep (Ex.refl F) (R.str _) h⟩
/-- tuple(x), list(x) -/
def fTuple : FC := fun ds M Q => ∃ d, ds = [d] ∧ match d with
  | .tup xs => Q (.d (.tup xs)) M
  | d => ∃ xs, seqOf M d = some xs ∧ Q (.d (.tup xs)) M
theorem cl_tuple : CallL G (fun xs H Q => ∃ p ys, xs = [.ref p] ∧ ((SqL G.K H p ys ∧ ∀ l, H l = none → Q (.ref l) (upd H l (.tup ys))) ∨ (SqT G.K H p ys ∧ Q (.ref p) H))) fTuple := by
  intro F δ M σ H vs ds Q Qv rep hs h k
  obtain ⟨d, rfl, h⟩ := h
  obtain ⟨v, rfl, o⟩ := hs.one
  split at h
  · obtain ⟨a, us, rfl, h1, h2⟩ := (o.val (fun _ z => by cases z)).tup_inv
    exact ⟨a, us, rfl, .inr ⟨ex_t rep.fr.ex h1, k (.d (.tup _)) _ F M H rep (Ex.refl F) (R.tup h1 h2) h⟩⟩
  · obtain ⟨xs, q, h⟩ := h
    obtain ⟨a, us, rfl, h1, h2⟩ := seqOf_at rep o q
    exact ⟨a, us, rfl, .inl ⟨h1, fun l hl => k (.d (.tup _)) _ _ M _ (rep.addF hl (.tup us)) (Ex.new (rep.fr.f_none hl)) (R.tup (.inl (.inl upd_same)) (h2.mono (Ex.new (rep.fr.f_none hl)))) h⟩⟩
def fList : FC := fun ds M Q => ∃ d, ds = [d] ∧ match d with
  | .tup xs => Q (.own xs) M
  | d => ∃ xs, seqOf M d = some xs ∧ Q (.own xs) M
theorem cl_list : CallL G (fun xs H Q => ∃ p ys, xs = [.ref p] ∧ (SqL G.K H p ys ∨ SqT G.K H p ys) ∧ ∀ l, H l = none → Q (.ref l) (upd H l (.lst ys))) fList := by
  intro F δ M σ H vs ds Q Qv rep hs h k
  obtain ⟨d, rfl, h⟩ := h
  obtain ⟨v, rfl, o⟩ := hs.one
  split at h
  · obtain ⟨a, us, rfl, h1, h2⟩ := (o.val (fun _ z => by cases z)).tup_inv
    exact ⟨a, us, rfl, .inr (ex_t rep.fr.ex h1), fun l hl => k (.own _) _ F M _ (rep.addH hl (.lst us)) (Ex.refl F) (rep.addOwn hl h2) h⟩
  · obtain ⟨xs, q, h⟩ := h
    obtain ⟨a, us, rfl, h1, h2⟩ := seqOf_at rep o q
    exact ⟨a, us, rfl, .inl h1, fun l hl => k (.own _) _ F M _ (rep.addH hl (.lst us)) (Ex.refl F) (rep.addOwn hl h2) h⟩
/-- sum of a list of ints -/
def fSum : FC := fun ds M Q => ∃ (d : D) (ns : List Int), ds = [d] ∧ seqOf M d = some (ns.map D.int) ∧ Q (.d (.int ns.sum)) M
theorem cl_sum : CallL G (rSum G.K) fSum := by
  intro F δ M σ H vs ds Q Qv rep hs h k
  obtain ⟨d, ns, rfl, q, h⟩ := h
  obtain ⟨v, rfl, o⟩ := hs.one
  obtain ⟨a, us, rfl, h1, h2⟩ := seqOf_at rep o q
  obtain rfl := h2.ints
  exact ⟨a, ns, rfl, h1, k (.d (.int _)) _ F M H rep (Ex.refl F) (R.int _) h⟩
def fAll : FC := fun ds M Q => ∃ (d : D) (bs : List Bool), ds = [d] ∧ seqOf M d = some (bs.map D.bl) ∧ Q (.d (.bl (bs.all id))) M
theorem cl_all : CallL G (rAll G.K) fAll := by
  intro F δ M σ H vs ds Q Qv rep hs h k
  obtain ⟨d, ns, rfl, q, h⟩ := h
  obtain ⟨v, rfl, o⟩ := hs.one
  obtain ⟨a, us, rfl, h1, h2⟩ := seqOf_at rep o q
  obtain rfl := h2.bls
  exact ⟨a, ns, rfl, h1, k (.d (.bl _)) _ F M H rep (Ex.refl F) (R.bl _) h⟩
/-! ### subscripts -/
def fIx : F2 := fun x y M Q => ∃ i, y = .int i ∧ match x with
  | .tup xs => ∃ d, atI xs i = some d ∧ Q (.d d) M
  | .str z => z.length ≤ sizeLine ∧ ∃ c, atI z.cps.toList i = some c ∧ Q (.d (.str ⟨#[c]⟩)) M
  | d => ∃ xs d', seqOf M d = some xs ∧ atI xs i = some d' ∧ Q (.d d') M
theorem atI_rs {K : PySem.W.Frag} {F : Hp} {vs : List V} {ds : List D} {i : Int} {d : D} (r : Rs K F vs ds) (h : atI ds i = some d) : ∃ v, atI vs i = some v ∧ R K F v d := by
  unfold atI at h ⊢
  rw [r.length]
  cases e : ixN ds.length i with
  | none => rw [e] at h; cases h
  | some j =>
    rw [e] at h
    exact r.get h
theorem opl_ix : OpL G (rIx G.K) fIx := by
  intro F δ M σ H v u x y Q Qv rep hx hy h k
  obtain ⟨i, rfl, h⟩ := h
  obtain rfl := opn_int hy
  split at h
  · obtain ⟨d, q, h⟩ := h
    obtain ⟨a, us, rfl, h1, h2⟩ := hx.tup rep
    obtain ⟨w, q1, q2⟩ := atI_rs h2 q
    exact .inr (.inl ⟨a, us, i, w, rfl, rfl, h1, q1, k (.d d) w F M H rep (Ex.refl F) q2 h⟩)
  · obtain ⟨hz, d, q, h⟩ := h
    obtain rfl := opn_str hx
    exact .inr (.inr ⟨_, i, d, rfl, rfl, hz, q, k (.d (.str _)) _ F M H rep (Ex.refl F) (R.str _) h⟩)
  · obtain ⟨xs, d, q0, q, h⟩ := h
    obtain ⟨a, us, rfl, h1, h2⟩ := seqOf_at rep hx q0
    obtain ⟨w, q1, q2⟩ := atI_rs h2 q
    exact .inl ⟨a, us, i, w, rfl, rfl, h1, q1, k (.d d) w F M H rep (Ex.refl F) q2 h⟩
theorem d_ix (hk : X.K = G.K) (ha : PE X a (LO G W ta)) (hb : PE X b (LO G W tb)) (hs : PlainIx b := by intro _ _; rfl) : PE X (.Subscript a b pos) (LE G W (dBin fIx ta tb)) :=
  pe_imp (pe_ix ix_seq ha hb hs) fun _ _ _ h => by rw [hk]; exact bin_l opl_ix h
/-! ### slices -/
abbrev DO := DS → MH → (Option Int → MH → Prop) → XP → Prop
def LP (G : Gd) (W : WX) (td : DO) : TO := fun σ H Q => ∃ F δ M Qd Ed, Rep G F δ M σ H ∧ td δ M Qd Ed ∧
  (∀ o F' M' H', Rep G F' δ M' σ H' → Ex F F' → Qd o M' → Q o H') ∧ XOk G W δ σ Ed
def pNone : DO := fun _ M Q _ => Q none M
def pSome (t : DE) : DO := fun δ M Q E => t δ M (fun r M' => ∃ i, r = .d (.int i) ∧ Q (some i) M') E
theorem po_imp {o : Option Expr} {t t' : TO} (h : PO X o t) (k : ∀ σ H Q, t' σ H Q → t σ H Q) : PO X o t' := ⟨fun pins s σ H Q I z => h.run pins s σ H Q I (k σ H Q z)⟩
theorem p_none : PO X none (LP G W pNone) := po_imp po_none fun σ H Q ⟨F, δ, M, Qd, Ed, rep, q, k, x⟩ => k _ F M H rep (Ex.refl F) q
theorem p_some {t : DE} (h : PE X e (LE G W t)) : PO X (some e) (LP G W (pSome t)) := po_imp (po_some h) fun σ H Q ⟨F, δ, M, Qd, Ed, rep, q, k, x⟩ => ⟨F, δ, M, _, Ed, rep, q, fun r v F1 M1 H1 rep1 e1 s1 ⟨i, hi, q1⟩ => by
  subst hi
  cases s1
  exact ⟨i, rfl, k _ F1 M1 H1 rep1 e1 q1⟩, x⟩
abbrev FS := D → Option Int → Option Int → MH → (Sl → MH → Prop) → Prop
def cutD (xs : List D) (lo hi : Option Int) : List D := (xs.drop (HT.sIx xs.length 0 lo)).take (HT.sIx xs.length xs.length hi - HT.sIx xs.length 0 lo)
theorem rs_cut {K : PySem.W.Frag} {F : Hp} {vs : List V} {ds : List D} {lo hi : Option Int} (r : Rs K F vs ds) : Rs K F (cutV vs lo hi) (cutD ds lo hi) := by
  unfold cutV cutD
  rw [r.length]
  exact (r.drop _).take _
def fSl : FS := fun x lo hi M Q => match x with
  | .tup xs => Q (.d (.tup (cutD xs lo hi))) M
  | .str z => z.length ≤ sizeLine ∧ Q (.d (.str (cutS z lo hi))) M
  | d => ∃ xs, seqOf M d = some xs ∧ Q (.own (cutD xs lo hi)) M
def dSl (f : FS) (t : DX) (tl th : DO) : DE := fun δ M Q E => t δ M (fun x M1 => tl δ M1 (fun l M2 => th δ M2 (fun u M3 => f x l u M3 Q) E) E) E
def rSlU (K : PySem.W.Frag) : V → Option Int → Option Int → Hp → VK → Prop := fun x lo hi H Q => rSlL K x lo hi H Q ∨ (rSlA K x lo hi H Q ∨ rSlS x lo hi H Q)
theorem sl_u : SlR X (rSlU X.K) := sl_list.or (sl_tupA.or sl_str)
theorem cut_whole {vs : List V} {lo hi : Option Int} (h : HT.sIx vs.length 0 lo = 0 ∧ HT.sIx vs.length vs.length hi = vs.length) : cutV vs lo hi = vs := by
  unfold cutV
  rw [h.1, h.2]
  simp
theorem d_slice {tl th : DO} {lo hi : Option Expr} {p2 : Pos} (hk : X.K = G.K) (he : PE X e (LO G W ta)) (hl : PO X lo (LP G W tl)) (hu : PO X hi (LP G W th)) : PE X (.Subscript e (.Slice lo hi none p2) pos) (LE G W (dSl fSl ta tl th)) :=
  pe_imp (pe_slice sl_u he hl hu) fun σ H Q ⟨F, δ, M, Qd, Ed, rep, q, k, x⟩ => ⟨F, δ, M, _, Ed, rep, q, fun d v F1 M1 H1 rep1 e1 s1 q1 => ⟨F1, δ, M1, _, Ed, rep1, q1, fun o1 F2 M2 H2 rep2 e2 q2 => ⟨F2, δ, M2, _, Ed, rep2, q2, fun o2 F3 M3 H3 rep3 e3 q3 => by
    have s3 := s1.mono (e2.trans e3)
    have e0 := e1.trans (e2.trans e3)
    rw [hk]
    unfold fSl at q3
    split at q3
    · obtain ⟨a, us, rfl, h1, h2⟩ := (s3.val (fun _ z => by cases z)).tup_inv
      refine .inr (.inl ⟨a, us, rfl, ex_t rep3.fr.ex h1, fun w => ?_, fun w p hp => ?_⟩)
      · refine k (.d (.tup _)) _ F3 M3 H3 rep3 e0 (R.tup h1 ?_) q3
        have z := rs_cut (lo := o1) (hi := o2) h2
        rw [cut_whole w] at z
        exact z
      · exact k (.d (.tup _)) _ _ M3 _ (rep3.addF hp _) (e0.trans (Ex.new (rep3.fr.f_none hp))) (R.tup (.inl (.inl upd_same)) ((rs_cut h2).mono (Ex.new (rep3.fr.f_none hp)))) q3
    · obtain rfl := opn_str s3
      exact .inr (.inr ⟨_, rfl, q3.1, k (.d (.str _)) _ F3 M3 H3 rep3 e0 (R.str _) q3.2⟩)
    · obtain ⟨xs, q0, q3⟩ := q3
      obtain ⟨a, us, rfl, h1, h2⟩ := seqOf_at rep3 s3 q0
      exact .inl ⟨a, us, rfl, h1, fun p hp => k (.own _) _ F3 M3 _ (rep3.addH hp _) e0 (rep3.addOwn hp (rs_cut h2)) q3⟩, x⟩, x⟩, x⟩
/-! ### isinstance of a built-in type -/
inductive Ty where
  | int | bool | str | tuple | list | dict
def Ty.nm : Ty → String
  | .int => "int" | .bool => "bool" | .str => "str" | .tuple => "tuple" | .list => "list" | .dict => "dict"
def isi : Ty → D → Bool
  | .int, .int _ => true
  | .int, .bl _ => true
  | .bool, .bl _ => true
  | .str, .str _ => true
  | .tuple, .tup _ => true
  | .list, .lst _ => true
  | _, _ => false
def isiM : Ty → MO → Option Bool
  | .list, .lst _ => some true
  | _, .lst _ => some false
  | .dict, .dk _ => some true
  | _, .dk _ => some false
  | _, _ => none
def fIsi (t : Ty) (x : D) (M : MH) (Q : Bool → Prop) : Prop := match x with
  | .ref a => ∃ mo b, M a = some mo ∧ isiM t mo = some b ∧ Q b
  | .lsk _ => False
  | x => Q (isi t x)
def dIsi (t : Ty) (ta : DX) : DT := fun δ M Q E => ta δ M (fun x M1 => fIsi t x M1 fun b => Q b M1) E
theorem tyX_tup {K : PySem.W.Frag} {H : Hp} {a : Addr} {xs : List V} (h : SqT K H a xs) : TyX K H (.ref a) (.type "tuple") := by
  rcases h with (h | ⟨o, h⟩) | ⟨o, its, n, h, c, _⟩
  · exact .base (.tup h)
  · exact .fTuple h
  · exact .kTuple h c
theorem kitB_list (t : Ty) : kitB "list" t.nm = some (match t with | .list => true | _ => false) := by cases t <;> decide +kernel
theorem kitB_dict (t : Ty) : kitB "dict" t.nm = some (match t with | .dict => true | _ => false) := by cases t <;> decide +kernel
theorem kitB_tuple (t : Ty) : kitB "tuple" t.nm = some (match t with | .tuple => true | _ => false) := by cases t <;> decide +kernel
theorem kitB_str (t : Ty) : kitB "str" t.nm = some (match t with | .str => true | _ => false) := by cases t <;> decide +kernel
theorem kitB_int (t : Ty) : kitB "int" t.nm = some (match t with | .int => true | _ => false) := by cases t <;> decide +kernel
theorem kitB_bool (t : Ty) : kitB "bool" t.nm = some (match t with | .int => true | .bool => true | _ => false) := by cases t <;> decide +kernel
theorem kitB_non (t : Ty) : kitB "NoneType" t.nm = some false := by cases t <;> decide +kernel
theorem tyOf_d {F : Hp} {δ : DS} {M : MH} {σ : L2.St} {H : Hp} {v : V} {x : D} {t : Ty} {Q : Bool → Prop} (rep : Rep G F δ M σ H) (h : Opn G F δ σ v x) (q : fIsi t x M Q) : ∃ n b, TyX G.K H v (.type n) ∧ kitB n t.nm = some b ∧ Q b := by
  cases x with
  | non => obtain rfl := opn_non h; exact ⟨_, _, .base .non, kitB_non t, by cases t <;> exact q⟩
  | bl b => obtain rfl := opn_bl h; exact ⟨_, _, .base (.bl b), kitB_bool t, by cases t <;> exact q⟩
  | int i => obtain rfl := opn_int h; exact ⟨_, _, .base (.int i), kitB_int t, by cases t <;> exact q⟩
  | str s => obtain rfl := opn_str h; exact ⟨_, _, .base (.str s), kitB_str t, by cases t <;> exact q⟩
  | tup ds =>
    obtain ⟨a, us, rfl, h1, h2⟩ := h.tup rep
    exact ⟨_, _, tyX_tup h1, kitB_tuple t, by cases t <;> exact q⟩
  | lst ds =>
    obtain ⟨a, us, rfl, h1, h2⟩ := h.lst rep
    exact ⟨_, _, .base (.lst h1), kitB_list t, by cases t <;> exact q⟩
  | lsk a => exact q.elim
  | ref a =>
    obtain ⟨mo, b, e, e2, q⟩ := q
    obtain rfl := (h.val (fun _ z => by cases z)).ref_inv
    have m := (rep.fr.mem _ _ e).2
    cases mo with
    | lst xs =>
      obtain ⟨vs, h1, _⟩ := m
      refine ⟨_, _, .base (.lst h1), kitB_list t, ?_⟩
      cases t <;> (cases e2; exact q)
    | dk xs =>
      obtain ⟨vs, h1, _⟩ := m
      refine ⟨_, _, .base (.dK h1), kitB_dict t, ?_⟩
      cases t <;> (cases e2; exact q)
    | ins C fs => cases t <;> cases e2
    | exc C fs => cases t <;> cases e2
def tIsi (K : PySem.W.Frag) (t : Ty) (ta : TE) : TE := tCB (rIsi K) (tCons ta (tCons (tC (.ty t.nm)) tNil))
theorem isi_l {t : Ty} {σ : L2.St} {H : Hp} {Q : VK} (h : LE G W (dOfT (dIsi t ta)) σ H Q) : tIsi G.K t (LO G W ta) σ H Q := by
  obtain ⟨F, δ, M, Qd, Ed, rep, q, k, x⟩ := h
  refine ⟨F, δ, M, _, Ed, rep, q, fun d v F1 M1 H1 rep1 e1 s1 q1 => ?_, x⟩
  obtain ⟨n, b, h1, h2, h3⟩ := tyOf_d rep1 s1 q1
  exact ⟨v, _, .type n, _, b, rfl, .ty _, h1, kit_ty h2, k (.d (.bl b)) _ F1 M1 H1 rep1 e1 (R.bl b) h3⟩
/-- isinstance(x, T) as a value -/
theorem d_isi (t : Ty) {T : Str} {pT pI : Pos} (hk : X.K = G.K) (hg : Gl X "isinstance") (hm : X.mg "isinstance" = none) (hgT : Gl X T) (hmT : X.mg T = none) (hvT : bootBuiltins T = some (.type t.nm)) (ha : PE X a (LO G W ta))
    (hn : T ≠ "__name__" := by decide) (hdb : (T == ("__debug__" : Str)) = false := by decide)
    (he : starEach [a, .Name T pT] X.env = (false, eval a X.env) :: starEach [.Name T pT] X.env := by rfl) (he2 : starEach [.Name T pT] X.env = (false, eval (.Name T pT) X.env) :: starEach [] X.env := by rfl)
    (hpl : (backTo pos (starEach [.Name T pT] X.env)).any (·.1) = false := by rfl) :
    PE X (.Call (.Name "isinstance" pI) [a, .Name T pT] [] pos) (LE G W (dOfT (dIsi t ta))) :=
  pe_imp (pe_callB call_isi hg hm (by decide +kernel) (pa_cons ha (pa_cons (pe_bltn (v := .ty t.nm) hgT hmT hvT rfl hn hdb) pa_nil he2) he) (by decide) (by decide) he hpl) fun _ _ _ h => by rw [hk]; exact isi_l h
end
end DL

set_option Elab.async false
set_option linter.all false
set_option maxRecDepth 100000
set_option maxHeartbeats 2000000
namespace DL
open PySem L2
/-- a def's promise over data -/
abbrev SpD := List D → MH → (Sl → MH → Prop) → (Addr → List (Str × D) → MH → Prop) → Prop
def LSp (K : PySem.W.Frag) (sp : SpD) : Sp := fun vs H Q E => ∃ F M ds Qd Ed, Ex F H ∧ (∀ a mo, M a = some mo → F a = none ∧ MoR K F H a mo) ∧ Rs K F vs ds ∧ sp ds M Qd Ed ∧
  (∀ r v F' M' H', Fra ⟨K, H, F, M⟩ F' M' H' → RetR ⟨K, H, F, M⟩ F' M' H' v r → Qd r M' → Q v H') ∧
  (∀ C fs F' M' H' dx fv, Fra ⟨K, H, F, M⟩ F' M' H' → H' dx = some (.xd fv) → Fds K F' fv fs → H dx = none → Ed C fs M' → E (.ref C) (some dx) H')
section
variable {X : Cx} {G : Gd} {W : WX} {e a b c : Expr} {es : List Expr} {pos p : Pos} {ta tb tc : DX}
theorem Fra.call {F F' : Hp} {M M' : MH} {H H' : Hp} (r : Fra G F M H) (f : Fra ⟨G.K, H, F, M⟩ F' M' H') : Fra G F' M' H' where
  ex := f.ex
  ex0 := r.ex0.trans f.ex0
  keep := fun a o h m => f.keep a o (r.keep a o h m) (by
    cases e : M a with
    | none => exact e
    | some mo =>
      rcases r.newM a (by rw [e]; simp) with q | q
      · exact absurd m q
      · rw [q] at h; cases h)
  newF := fun a h => by
    rcases f.newF a h with q | q
    · exact r.newF a q
    · exact .inr (r.h0 q)
  newM := fun a h => by
    rcases f.newM a h with q | q
    · exact r.newM a q
    · exact .inr (r.h0 q)
  dom := fun a h => f.dom a (r.dom a h)
  domM := fun a h => f.domM a (r.domM a h)
  mem := f.mem
theorem Rep.call {F F' : Hp} {δ : DS} {M M' : MH} {σ : L2.St} {H H' : Hp} (r : Rep G F δ M σ H) (f : Fra ⟨G.K, H, F, M⟩ F' M' H') : Rep G F' δ M' σ H' where
  fr := r.fr.call f
  len := r.len
  val := fun i x h => by
    obtain ⟨v, h1, h2⟩ := r.val i x h
    exact ⟨v, h1, h2.mono f.ex0⟩
  own := fun i xs h => by
    obtain ⟨a, h1, vs, h2, h3, h4, h5, h6⟩ := r.own i xs h
    refine ⟨a, h1, vs, f.keep a _ h2 h5, h3.mono f.ex0, ?_, ?_, h6⟩
    · cases e : F' a with
      | none => rfl
      | some o =>
        rcases f.newF a (by rw [e]; simp) with q | q
        · exact absurd h4 q
        · have q' : H a = none := q
          rw [q'] at h2; cases h2
    · cases e : M' a with
      | none => rfl
      | some o =>
        rcases f.newM a (by rw [e]; simp) with q | q
        · exact absurd h5 q
        · have q' : H a = none := q
          rw [q'] at h2; cases h2
  inj := r.inj
theorem RetR.sv {F F' : Hp} {δ : DS} {M M' : MH} {σ : L2.St} {H H' : Hp} {v : V} {x : Sl} (r : Rep G F δ M σ H) (h : RetR ⟨G.K, H, F, M⟩ F' M' H' v x) : SvR G F' δ M' σ H' v x := by
  cases x with
  | d x => exact h
  | own xs =>
    obtain ⟨a, rfl, vs, h1, h2, h3, h4, h5⟩ := h
    have h5' : H a = none := h5
    refine ⟨a, rfl, ⟨vs, h1, h2, h3, h4, r.fr.h0 h5'⟩, fun i ys q z => ?_⟩
    obtain ⟨b, g1, us, g2, _⟩ := r.own i ys q
    rw [z] at g1
    cases g1
    rw [h5'] at g2; cases g2
def dCall (sp : SpD) (t : DA) : DE := fun δ M Q E => t δ M (fun ds M1 => sp ds M1 Q (fun C fs M2 => E C fs δ M2)) E
theorem call_l {sp : SpD} {t : DA} {σ : L2.St} {H : Hp} {Q : VK} (h : LE G W (dCall sp t) σ H Q) : tCallS (LSp G.K sp) (WE W) (LA G W t) σ H Q := by
  obtain ⟨F, δ, M, Qd, Ed, rep, q, k, x⟩ := h
  exact ⟨F, δ, M, _, Ed, rep, q, fun ds vs F1 M1 H1 rep1 e1 s1 q1 => ⟨F1, M1, ds, Qd, _, rep1.fr.ex, rep1.fr.mem, s1, q1,
    fun r v F' M' H' f ret q' => k r v F' M' H' (rep1.call f) (e1.trans f.ex0) (ret.sv rep1) q',
    fun C fs F' M' H' dx fv f hd hf h0 q' => x C fs F' M' H' dx fv (rep1.call f) hd hf (rep1.fr.h0 h0) q'⟩, x⟩
theorem d_call {n k : Nat} {f : Addr} {fd : FuncData} {ps : List Str} {sp : SpD} {x : Str} {t : DA} (F : FnOk X.prog X.w X.K X.mg X.base (L2.CX X.prog X.w) k f fd ps (LSp X.K sp)) (hK : X.K = G.K) (hr : Room k X.A) (hg : Gl X x) (hm : X.mg x = some (.ref f)) (hk : PySem.W.keepIn X.K (.ref f) = true)
    (hb : Binds X.K fd ps []) (tk : Takes X W) (ha : PA X (e :: es) (LA G W t)) (hdb : (x == ("__debug__" : Str)) = false := by decide)
    (he : starEach (e :: es) X.env = (false, eval e X.env) :: starEach es X.env := by rfl) (hpl : (backTo pos (starEach es X.env)).any (·.1) = false := by rfl) :
    PE X (.Call (.Name x p) (e :: es) [] pos) (LE G W (dCall sp t)) :=
  pe_imp (pe_callS F hr hg hm hk hb (fun σ => passAt tk σ) ha hdb he hpl) fun _ _ _ h => by rw [hK]; exact call_l h
end
/-! ### statements -/
section
variable {X : Cx} {G : Gd} {W : WX} {e a b c : Expr} {es : List Expr} {pos p : Pos} {ta tb tc : DX} {st : Stmt} {rest body orelse : List Stmt} {t u : DP}
theorem EndsOk.mono {F F' : Hp} {D : Ends} {E : DEnds} (ok : EndsOk G W F D E) (e : Ex F F') : EndsOk G W F' D E :=
  ⟨fun F2 δ M σ H r e2 q => ok.nx F2 δ M σ H r (e.trans e2) q, ok.rt, fun F2 δ M σ H r e2 q => ok.bk F2 δ M σ H r (e.trans e2) q, fun F2 δ M σ H r e2 q => ok.ct F2 δ M σ H r (e.trans e2) q, ok.ex⟩
def sNext : DP := fun E δ M => E.nx δ M
def sSeq (t u : DP) : DP := fun E δ M => t { E with nx := fun δ' M' => u E δ' M' } δ M
theorem ss_nil : PSs X [] (LS G W sNext) := pss_imp pss_nil fun D σ H ⟨F, δ, M, E, rep, q, ok⟩ => ok.nx F δ M σ H rep (Ex.refl F) q
theorem ss_cons (h1 : PS X st (LS G W t)) (h2 : PSs X rest (LS G W u)) : PSs X (st :: rest) (LS G W (sSeq t u)) :=
  pss_imp (pss_cons h1 h2) fun D σ H ⟨F, δ, M, E, rep, q, ok⟩ => ⟨F, δ, M, _, rep, q, fun F' δ' M' σ' H' r' e' q' => ⟨F', δ', M', E, r', q', ok.mono e'⟩, ok.rt, ok.bk, ok.ct, ok.ex⟩
theorem ss_one (h1 : PS X st (LS G W t)) : PSs X [st] (LS G W t) := pss_one h1
def sBreak : DP := fun E δ M => E.bk δ M
def sCont : DP := fun E δ M => E.ct δ M
theorem s_pass : PS X (.Pass pos) (LS G W sNext) := ps_imp ps_pass fun D σ H ⟨F, δ, M, E, rep, q, ok⟩ => ok.nx F δ M σ H rep (Ex.refl F) q
theorem s_doc {x j pos pos'} : PS X (.Expr (.Constant (.str x) j pos) pos') (LS G W sNext) := ps_imp ps_doc fun D σ H ⟨F, δ, M, E, rep, q, ok⟩ => ok.nx F δ M σ H rep (Ex.refl F) q
theorem s_break : PS X (.Break pos) (LS G W sBreak) := ps_imp ps_break fun D σ H ⟨F, δ, M, E, rep, q, ok⟩ => ok.bk F δ M σ H rep (Ex.refl F) q
theorem s_cont : PS X (.Continue pos) (LS G W sCont) := ps_imp ps_continue fun D σ H ⟨F, δ, M, E, rep, q, ok⟩ => ok.ct F δ M σ H rep (Ex.refl F) q
def sDrop (t : DE) : DP := fun E δ M => t δ M (fun _ M' => E.nx δ M') E.ex
theorem s_expr {t : DE} (he : PE X e (LE G W t)) (hs : swapsWith e none pos.line X.env = pure false := by rfl) : PS X (.Expr e pos) (LS G W (sDrop t)) :=
  ps_imp (ps_expr he hs) fun D σ H ⟨F, δ, M, E, rep, q, ok⟩ => ⟨F, δ, M, _, _, rep, q, fun r v F' M' H' r' e' s' q' => ok.nx F' δ M' σ H' r' e' q', ok.ex δ σ⟩
theorem SvR.ret {F : Hp} {δ : DS} {M : MH} {σ : L2.St} {H : Hp} {v : V} {x : Sl} (h : SvR G F δ M σ H v x) : RetR G F M H v x := by
  cases x with
  | d x => exact h
  | own xs => obtain ⟨a, h1, h2, _⟩ := h; exact ⟨a, h1, h2⟩
def sRet (t : DE) : DP := fun E δ M => t δ M (fun r M' => E.rt r M') E.ex
theorem s_ret {t : DE} (he : PE X e (LE G W t)) : PS X (.Return (some e) pos) (LS G W (sRet t)) :=
  ps_imp (ps_ret he) fun D σ H ⟨F, δ, M, E, rep, q, ok⟩ => ⟨F, δ, M, _, _, rep, q, fun r v F' M' H' r' e' s' q' => ok.rt r v F' M' H' r'.fr s'.ret q', ok.ex δ σ⟩
/-- return x, x a name: what it holds is handed over -/
def sRetV (i : Nat) : DP := fun E δ M => ∃ x, δ[i]? = some (some x) ∧ E.rt x M
theorem s_retV {i : Nat} (he : PE X e (tVar i)) : PS X (.Return (some e) pos) (LS G W (sRetV i)) :=
  ps_imp (ps_ret he) fun D σ H ⟨F, δ, M, E, rep, ⟨x, hx, q⟩, ok⟩ => by
    cases x with
    | d x =>
      obtain ⟨v, h1, h2⟩ := rep.val i x hx
      exact ⟨v, h1, ok.rt (.d x) v F M H rep.fr h2 q⟩
    | own xs =>
      obtain ⟨a, h1, h2⟩ := rep.own i xs hx
      exact ⟨_, h1, ok.rt (.own xs) _ F M H rep.fr ⟨a, rfl, h2⟩ q⟩
def sRetN : DP := fun E _ M => E.rt (.d .non) M
theorem s_retN : PS X (.Return none pos) (LS G W sRetN) := ps_imp ps_retN fun D σ H ⟨F, δ, M, E, rep, q, ok⟩ => ok.rt (.d .non) _ F M H rep.fr R.non q
def sIf (c : DT) (t u : DP) : DP := fun E δ M => c δ M (fun b M' => if b = true then t E δ M' else u E δ M') E.ex
theorem s_if {tc : DT} (hc : PT X c (LT G W tc)) (ha : PSs X body (LS G W t)) (hb : PSs X orelse (LS G W u)) : PS X (.If c body orelse pos) (LS G W (sIf tc t u)) :=
  ps_imp (ps_if hc ha hb) fun D σ H ⟨F, δ, M, E, rep, q, ok⟩ => ⟨F, δ, M, _, _, rep, q, fun b F' M' H' r' e' q' => by
    cases b with
    | true => exact ⟨F', δ, M', E, r', q', ok.mono e'⟩
    | false => exact ⟨F', δ, M', E, r', q', ok.mono e'⟩, ok.ex δ σ⟩
def sNever : DP := fun _ _ _ => False
theorem s_never : PS X st (LS G W sNever) := ps_imp ps_never fun D σ H ⟨F, δ, M, E, rep, q, ok⟩ => q
theorem ss_never : PSs X rest (LS G W sNever) := pss_imp pss_never fun D σ H ⟨F, δ, M, E, rep, q, ok⟩ => q
/-- x = e -/
def sAsg (t : DE) (i : Nat) : DP := fun E δ M => t δ M (fun r M' => E.nx (δ.set i (some r)) M') E.ex
theorem s_asg {i : Nat} {x : Str} {t : DE} {pos' : Pos} (hN : X.N.Nodup) (hi : X.N[i]? = some x) (hx : Loc X.env.scope x) (he : PE X e (LE G W t)) (hs : swapsWith e (some (.Name x pos')) pos.line X.env = pure false := by rfl)
    (hf : X.fn x = true ∨ X.env.scope.names.lookup x = some .local := by first | exact .inl rfl | exact .inr rfl | assumption) : PS X (.Assign [.Name x pos'] e pos) (LS G W (sAsg t i)) :=
  ps_imp (ps_set hN hi hx he hs hf) fun D σ H ⟨F, δ, M, E, rep, q, ok⟩ => ⟨F, δ, M, _, _, rep, q, fun r v F' M' H' r' e' s' q' => ok.nx F' _ M' _ H' (r'.setAny s') e' q', ok.ex δ σ⟩
/-! words for the proof alone -/
def frzS (i : Nat) (δ : DS) : DS := match δ[i]? with
  | some (some (.own xs)) => δ.set i (some (.d (.lst xs)))
  | _ => δ
theorem Rep.frzS {F : Hp} {δ : DS} {M : MH} {σ : L2.St} {H : Hp} (r : Rep G F δ M σ H) (i : Nat) : ∃ F', Rep G F' (DL.frzS i δ) M σ H ∧ Ex F F' := by
  unfold DL.frzS
  split
  · rename_i xs h
    exact r.frzSlot h
  · exact ⟨F, r, Ex.refl F⟩
/-- slot i is let go of as a value, ahead of t -/
def sFrz (i : Nat) (t : DP) : DP := fun E δ M => t E (frzS i δ) M
theorem ss_frz (i : Nat) (h : PSs X rest (LS G W t)) : PSs X rest (LS G W (sFrz i t)) := pss_imp h fun D σ H ⟨F, δ, M, E, rep, q, ok⟩ => by
  obtain ⟨F', r', e'⟩ := rep.frzS i
  exact ⟨F', _, M, E, r', q, ok.mono e'⟩
/-- slot i's own list is shared from here on -/
def sShare (i : Nat) (t : DP) : DP := fun E δ M => match δ[i]? with
  | some (some (.own xs)) => ∀ a, M a = none → t E (δ.set i (some (.d (.ref a)))) (mu M a (.lst xs))
  | _ => t E δ M
theorem ss_share (i : Nat) (h : PSs X rest (LS G W t)) : PSs X rest (LS G W (sShare i t)) := pss_imp h fun D σ H ⟨F, δ, M, E, rep, q, ok⟩ => by
  unfold sShare at q
  split at q
  · rename_i xs hi
    obtain ⟨a, h1, h2, r'⟩ := rep.shareSlot hi
    exact ⟨F, _, _, E, r', q a h1, ok⟩
  · exact ⟨F, δ, M, E, rep, q, ok⟩
/-- slot i's word is forgotten -/
def sForget (i : Nat) (t : DP) : DP := fun E δ M => t E (δ.set i none) M
theorem ss_forget (i : Nat) (h : PSs X rest (LS G W t)) : PSs X rest (LS G W (sForget i t)) := pss_imp h fun D σ H ⟨F, δ, M, E, rep, q, ok⟩ => ⟨F, _, M, E, rep.forget, q, ok⟩
/-- what follows is shown once, from Mid -/
def sCut (t u : DP) : DP := fun E δ M => ∃ Mid : DS → MH → Prop, t { E with nx := Mid } δ M ∧ ∀ δ' M', Mid δ' M' → u E δ' M'
theorem ss_cut (h1 : PS X st (LS G W t)) (h2 : PSs X rest (LS G W u)) : PSs X (st :: rest) (LS G W (sCut t u)) :=
  pss_imp (pss_cons h1 h2) fun D σ H ⟨F, δ, M, E, rep, ⟨Mid, q, qm⟩, ok⟩ => ⟨F, δ, M, _, rep, q, fun F' δ' M' σ' H' r' e' q' => ⟨F', δ', M', E, r', qm _ _ q', ok.mono e'⟩, ok.rt, ok.bk, ok.ct, ok.ex⟩
/-! ### targets -/
abbrev DG := D → DS → MH → (DS → MH → Prop) → Prop
abbrev DGs := List D → DS → MH → (DS → MH → Prop) → Prop
/-- slots outside js are as they were -/
structure Off (js : List Nat) (δ δ' : DS) (σ σ' : L2.St) : Prop where
  ld : δ'.length = δ.length
  ls : σ'.length = σ.length
  d : ∀ j, j ∉ js → δ'[j]? = δ[j]?
  s : ∀ j, j ∉ js → σ'[j]? = σ[j]?
theorem Off.refl {δ : DS} {σ : L2.St} {js : List Nat} : Off js δ δ σ σ := ⟨rfl, rfl, fun _ _ => rfl, fun _ _ => rfl⟩
theorem Off.trans {δ δ1 δ2 : DS} {σ σ1 σ2 : L2.St} {js : List Nat} (a : Off js δ δ1 σ σ1) (b : Off js δ1 δ2 σ1 σ2) : Off js δ δ2 σ σ2 :=
  ⟨b.ld.trans a.ld, b.ls.trans a.ls, fun j h => (b.d j h).trans (a.d j h), fun j h => (b.s j h).trans (a.s j h)⟩
theorem Off.mono {δ δ1 : DS} {σ σ1 : L2.St} {js ks : List Nat} (a : Off js δ δ1 σ σ1) (h : ∀ j ∈ js, j ∈ ks) : Off ks δ δ1 σ σ1 :=
  ⟨a.ld, a.ls, fun j z => a.d j fun q => z (h j q), fun j z => a.s j fun q => z (h j q)⟩
def LG (G : Gd) (js : List Nat) (tg : DG) : TG := fun v σ H Q => ∃ F δ M d Qd, Rep G F δ M σ H ∧ R G.K F v d ∧ tg d δ M Qd ∧
  ∀ F' δ' σ', Rep G F' δ' M σ' H → Ex F F' → Off js δ δ' σ σ' → Qd δ' M → Q σ' H
def LGs (G : Gd) (js : List Nat) (tg : DGs) : TGs := fun vs σ H Q => ∃ F δ M ds Qd, Rep G F δ M σ H ∧ Rs G.K F vs ds ∧ tg ds δ M Qd ∧
  ∀ F' δ' σ', Rep G F' δ' M σ' H → Ex F F' → Off js δ δ' σ σ' → Qd δ' M → Q σ' H
theorem pg_imp {t t' : TG} (h : PG X e t) (k : ∀ v σ H Q, t' v σ H Q → t v σ H Q) : PG X e t' := ⟨fun pins s σ H v u Q I r z => h.run pins s σ H v u Q I r (k v σ H Q z)⟩
theorem pgs_imp {t t' : TGs} (h : PGs X es t) (k : ∀ v σ H Q, t' v σ H Q → t v σ H Q) : PGs X es t' := ⟨fun pins s σ H v u Q I r z => h.run pins s σ H v u Q I r (k v σ H Q z)⟩
theorem pg_or {t t' : TG} (h : PG X e t) (h' : PG X e t') : PG X e (fun v σ H Q => t v σ H Q ∨ t' v σ H Q) := ⟨fun pins s σ H v u Q I r z => z.elim (h.run pins s σ H v u Q I r) (h'.run pins s σ H v u Q I r)⟩
def gN (i : Nat) : DG := fun d δ M Q => Q (δ.set i (some (.d d))) M
theorem off_set {δ : DS} {σ : L2.St} {i : Nat} {x : Option Sl} {v : Option V} : Off [i] δ (δ.set i x) σ (σ.set i v) :=
  ⟨List.length_set, List.length_set, fun j h => setNe (fun z => h (by rw [z]; exact List.mem_singleton.mpr rfl)), fun j h => setNe (fun z => h (by rw [z]; exact List.mem_singleton.mpr rfl))⟩
theorem g_name {i : Nat} {x : Str} (hN : X.N.Nodup) (hi : X.N[i]? = some x) (hx : Loc X.env.scope x) (hf : X.fn x = true ∨ X.env.scope.names.lookup x = some .local := by first | exact .inl rfl | exact .inr rfl | assumption) : PG X (.Name x pos) (LG G [i] (gN i)) :=
  pg_imp (pg_name hN hi hx hf) fun v σ H Q ⟨F, δ, M, d, Qd, rep, r, q, k⟩ => k F _ _ (rep.setD r) (Ex.refl F) off_set q
def gNilD : DGs := fun ds δ M Q => ds = [] ∧ Q δ M
def gConsD (t : DG) (u : DGs) : DGs := fun ds δ M Q => ∃ d r, ds = d :: r ∧ t d δ M fun δ' M' => u r δ' M' Q
theorem gs_nil : PGs X [] (LGs G [] gNilD) := pgs_imp pgs_nil fun vs σ H Q ⟨F, δ, M, ds, Qd, rep, r, ⟨h1, q⟩, k⟩ => by
  subst h1
  cases r
  exact ⟨rfl, k F δ σ rep (Ex.refl F) Off.refl q⟩
theorem gs_cons {t : DG} {u : DGs} {js ks : List Nat} (h1 : PG X e (LG G js t)) (h2 : PGs X es (LGs G ks u))
    (hs : (assignEach (e :: es) X.env).map (·.2) = assign e X.env :: (assignEach es X.env).map (·.2) := by rfl) : PGs X (e :: es) (LGs G (js ++ ks) (gConsD t u)) :=
  pgs_imp (pgs_cons h1 h2 hs) fun vs σ H Q ⟨F, δ, M, ds, Qd, rep, r, ⟨d, rs, h1, q⟩, k⟩ => by
    subst h1
    cases r with
    | cons r1 r2 =>
      exact ⟨_, _, rfl, F, δ, M, d, _, rep, r1, q, fun F1 δ1 σ1 rep1 e1 o1 q1 => ⟨F1, δ1, M, rs, Qd, rep1, r2.mono e1, q1, fun F2 δ2 σ2 rep2 e2 o2 q2 =>
        k F2 δ2 σ2 rep2 (e1.trans e2) ((o1.mono fun j h => List.mem_append_left _ h).trans (o2.mono fun j h => List.mem_append_right _ h)) q2⟩⟩
def gTupD (n : Nat) (t : DGs) : DG := fun d δ M Q => ∃ xs, (d = .tup xs ∨ d = .lst xs) ∧ xs.length = n ∧ t xs δ M Q
theorem g_tup {k : Nat} {t : DGs} {js : List Nat} {n : Nat} (hK : X.K = G.K) (hc : X.calm = true) (h : PGs X es (LGs G js t))
    (hn : (assignEach es X.env).length = n := by rfl) (hst : (assignEach es X.env).findIdx? (·.1) = none := by rfl) : PG X (.Tuple es k pos) (LG G js (gTupD n t)) :=
  pg_imp (pg_or (pg_tup hc h hn hst) (pg_lst hc h hn hst)) fun v σ H Q ⟨F, δ, M, d, Qd, rep, r, ⟨xs, hd, hl, q⟩, k⟩ => by
    rcases hd with rfl | rfl
    · obtain ⟨a, vs, rfl, h1, h2⟩ := r.tup_inv
      exact .inl ⟨a, vs, rfl, by rw [hK]; exact ex_t rep.fr.ex h1, h2.length.trans hl, F, δ, M, xs, Qd, rep, h2, q, k⟩
    · obtain ⟨a, vs, rfl, h1, h2⟩ := r.lst_inv
      exact .inr ⟨a, vs, rfl, by rw [hK]; exact .inl (.inl (rep.fr.ex _ _ h1)), h2.length.trans hl, F, δ, M, xs, Qd, rep, h2, q, k⟩
/-- a, b = e -/
def sAsgT (t : DX) (g : DG) : DP := fun E δ M => t δ M (fun d M' => g d δ M' E.nx) E.ex
theorem s_asgT {tg : Expr} {t : DX} {g : DG} {js : List Nat} (he : PE X e (LV G W t)) (hg : PG X tg (LG G js g)) (hs : swapsWithSole [tg] e pos.line X.env = pure false := by rfl) (hw : swappedStores [tg] e X.env = pure none := by rfl)
    (h1 : (assignEach [tg] X.env).map (·.2) = [assign tg X.env] := by rfl) : PS X (.Assign [tg] e pos) (LS G W (sAsgT t g)) :=
  ps_imp (ps_asg he hg hs hw h1) fun D σ H ⟨F, δ, M, E, rep, q, ok⟩ => ⟨F, δ, M, _, _, rep, q, fun d v F1 M1 H1 rep1 e1 r1 q1 => ⟨F1, δ, M1, d, E.nx, rep1, r1, q1, fun F2 δ2 σ2 rep2 e2 o2 q2 => ok.nx F2 δ2 M1 σ2 H1 rep2 (e1.trans e2) q2⟩, ok.ex δ σ⟩
end
end DL

set_option Elab.async false
set_option linter.all false
set_option maxRecDepth 100000
set_option maxHeartbeats 2000000
namespace L2
open PySem PySem.Spec PyProof.Rows
/-! ### enumerate of a tuple -/
def IteT (K : PySem.W.Frag) (a : Addr) : It :=
  ⟨fun i H => ∃ (xs : List V) (x : V), SqT K H a xs ∧ xs[i]? = some x, fun i H v H' => ∃ T x, v = .ref T ∧ H T = none ∧ H' = upd H T (.tup [.int (i : Nat), x]) ∧ ∀ xs, SqT K H a xs → xs[i]? = some x, fun i H => ∃ xs : List V, SqT K H a xs ∧ xs.length ≤ i⟩
theorem meets_enumerate_newT (l : Addr) (items : Array Value) (n : Nat) (dct : Option Addr) (sl : Array (Option Value)) :
    Meets (Builtin.«enumerate.__new__» ⟨[.type "enumerate", .ref l], []⟩) (fun _ R s => s.heap.get? l = some { cls := .type "tuple", dict := dct, data := .seq items n, slots := sl } ∧
      R (.ok (.ret (.ref (s.heap.push { cls := .type "tuple_iterator", data := .fields #[.ref l, .int 0 0] }).objs.size)))
        { s with heap := (s.heap.push { cls := .type "tuple_iterator", data := .fields #[.ref l, .int 0 0] }).push { cls := .type "enumerate", data := .fields #[.none, .bool false, .ref s.heap.objs.size, rawInt 0, .none, .none] } }) :=
  .of_wp fun prog w A R s h => by
    obtain ⟨hp, g, d, tk, os⟩ := s; obtain ⟨hl, h⟩ := h
    have hsub := sub_enumerate
    have hL : Heap.IsTuple (Shared.heap ⟨hp, g, d, tk, os⟩) l items := ⟨_, hl, rfl, n, rfl⟩
    wp_walk using PySem.AutoSeq1.wpAny_loadPart' hl
    refine wpAny_stack_any fun st => wpAny_pure ?_
    split
    · rename_i c _ _ _ _ _
      cases (c == Value.type "enumerate")
      · wp_walk using PySem.AutoSeq1.wpAny_loadPart' hl, wpAny_pyIter_tuple hL
        exact ⟨_, rfl, h⟩
      · wp_walk using PySem.AutoSeq1.wpAny_loadPart' hl, wpAny_pyIter_tuple hL
        exact ⟨_, rfl, h⟩
    · wp_walk using PySem.AutoSeq1.wpAny_loadPart' hl, wpAny_pyIter_tuple hL
      exact ⟨_, rfl, h⟩
theorem call_enumerate_tuple {prog : Program} {w : World} {A : Around} {E : Value → Shared → Prop} {s : Shared} {l : Addr} {items : Array Value} {Q : Value → Shared → Prop} (hL : s.heap.IsTuple l items)
    (h : ∀ h', IsEnum h' (s.heap.objs.size + 1) s.heap.objs.size 0 .none → h'.IsTupleIter s.heap.objs.size l 0 → h'.objs.size = s.heap.objs.size + 2 →
      (∀ b o, s.heap.get? b = some o → h'.get? b = some o) → Q (.ref (s.heap.objs.size + 1)) { s with heap := h' }) :
    wpAny (model prog w) A (call (.type "enumerate") [.ref l]) Q E s := by
  obtain ⟨⟨c, dct, dt, sl⟩, hl, hc, n, hd⟩ := hL
  replace hc : c = .type "tuple" := hc
  replace hd : dt = .seq items n := hd
  subst hc hd
  refine callType_new F.called_enumerate (by decide) (F.typeCall_enumerate_1 _) (F.newCall_enumerate_1 _) (fun obj => F.args_object_init_2 obj _) F.entry_enumerate_new
    (meets_enumerate_newT l items n dct sl) ⟨hl, ?_⟩
  have hz : (s.heap.push { cls := .type "tuple_iterator", data := .fields #[.ref l, .int 0 0] }).objs.size = s.heap.objs.size + 1 := Heap.size_push ..
  show _ ∧ _
  rw [hz]
  have he : IsEnum ((s.heap.push { cls := .type "tuple_iterator", data := .fields #[.ref l, .int 0 0] }).push
      { cls := .type "enumerate", data := .fields #[.none, .bool false, .ref s.heap.objs.size, rawInt 0, .none, .none] }) (s.heap.objs.size + 1) s.heap.objs.size 0 .none := by
    have := Heap.get?_push_size (s.heap.push { cls := .type "tuple_iterator", data := .fields #[.ref l, .int 0 0] })
      (o := { cls := .type "enumerate", data := .fields #[.none, .bool false, .ref s.heap.objs.size, rawInt 0, .none, .none] }) rfl
    rw [hz] at this; exact this
  refine ⟨⟨_, he, rfl⟩, h _ he ⟨_, Heap.get?_push_of_some _ (Heap.get?_push_size _ rfl), rfl, rfl⟩ (by rw [Heap.size_push, hz]) fun b o x => Heap.get?_push_of_some _ (Heap.get?_push_of_some _ x)⟩
theorem wpAny_pyNext_enum_tupEnd {prog : Program} {w : World} {A : Around} {E : Value → Shared → Prop} {s : Shared} {e it l : Addr} {i : Nat} {items : Array Value} {old : Value} {Q : Option Value → Shared → Prop} (hh : A.handled = none)
    (he : IsEnum s.heap e it i old) (hit : s.heap.IsTupleIter it l i) (hl : s.heap.IsTuple l items) (hx : items[i]? = none)
    (hQ : ∀ h', Heap.ExtBut it s.heap h' → Q none { s with heap := h' }) : wpAny (model prog w) A (pyNext (.ref e)) Q E s := by
  have hT : s.TypeIs (.ref e) "enumerate" := ⟨_, he, rfl⟩
  unfold pyNext
  refine wpAny_bind (wpAny_attempt (wpAny_callSpecial?_slot (name := Str.ofString "__next__") hT F.slot_enumerate_next
    (wpAny_call_entry F.slot_enumerate_next hT F.entry_enumerate_next ?_ (F.args_enumerate_next_1 _))))
  show wpAny _ _ (field (.ref e) 2 >>= _) _ _ _
  refine wpAny_bind (wpAny_field he rfl (x := .ref it) rfl ?_)
  refine wpAny_bind (wpAny_nextOf_tuple_end hh hit hl hx fun h' x he' hx' => ?_)
  obtain ⟨o, ho, hc⟩ := hx'
  refine wpAny_bind (wpAny_isInstance (T := "StopIteration") (b := true) ⟨o, ho, hc⟩ isSubtype_stop ?_)
  exact wpAny_pure (hQ _ he')
theorem turn_enumT {P : Program} {w : World} {K : PySem.W.Frag} {elts : List Expr} {kk : Nat} {tpos : Pos} (a e it : Addr) :
    Turn P w K (.Tuple elts kk tpos) (IteT K a) [e, it] e (fun i h => (∃ old, IsEnum h e it ((i : Nat) : Int) old) ∧ h.IsTupleIter it a i ∧ e ≠ it) where
  mem := by simp
  obj := fun i h st b hb => by
    obtain ⟨⟨old, he⟩, ⟨o, ho, hc, hd⟩, _⟩ := st
    have e' : b = e ∨ b = it := by simpa using hb
    rcases e' with z | z
    · rw [z]; exact ⟨_, he, fun v q => nomatch q⟩
    · rw [z]; exact ⟨o, ho, fun v q => by rw [hd] at q; cases q⟩
  keep := fun i h h' st k => let ⟨⟨old, he⟩, hi, hne⟩ := st; ⟨⟨old, k e (by simp) _ he⟩, hi.at fun o q => k it (by simp) o q, hne⟩
  item := by
    intro X hP hw hK hc i pins s σ H E I hf st hg
    subst hP hw hK
    obtain ⟨⟨old, he⟩, hit, hne⟩ := st
    obtain ⟨xs, x, hq, hx⟩ := hg
    obtain ⟨its, rv, p, hz⟩ := I.tuple hq
    obtain ⟨u, hu, ru⟩ := rv.get hx
    have hel : e < s.heap.objs.size := Heap.lt_size he
    have hil : it < s.heap.objs.size := by obtain ⟨_, q, _⟩ := hit; exact Heap.lt_size q
    obtain ⟨oa, hoa, hca, na, hda⟩ := id p
    have hea : e ≠ a := fun z => by
      rw [z] at he
      have he' : s.heap.get? a = some _ := he
      rw [hoa] at he'
      have z2 := Option.some.inj he'
      rw [z2] at hca
      simp at hca
    have hia : a ≠ it := fun z => by
      obtain ⟨o2, ho2, hc2, _⟩ := hit
      rw [← z, hoa] at ho2
      have z2 := Option.some.inj ho2
      rw [← z2, hca] at hc2
      simp at hc2
    have DD := Draws.tuple (prog := X.prog) (w := X.w) (A := X.A.in1) (I.ok.hd hc) it a hia its.toArray
    have hlt : i < its.toArray.size := by
      have := (List.getElem?_eq_some_iff.mp hu).1
      simpa using this
    refine wpAny_pyNext_enum_itemC DD he ⟨hit, ⟨oa, hoa, hca, na, hda⟩⟩ hlt hne (by simp [hne, hea]) fun y h' tk hy ho hit' hT hsz hk => ?_
    have hyu : y = u := by
      have z : its.toArray[i]? = some y := hy
      have z2 : its.toArray[i]? = some u := by simpa using hu
      rw [z] at z2
      exact Option.some.inj z2
    subst hyu
    refine ⟨_, rfl, wpAny_letOwnedTupleGo_enum (s := { s with heap := h', toks := tk + 1 }) ho fun h'' he' sb => ?_⟩
    have hT2 : h''.get? s.heap.objs.size = some { cls := .type "tuple", data := .seq #[.int i tk, y] } := (sb.2 _ (Nat.ne_of_gt hel)).trans hT
    have new : ObjOk X.prog X.w (upd H s.heap.objs.size (.tup [.int (i : Nat), x])) h'' s.heap.objs.size (.tup [.int (i : Nat), x]) :=
      ⟨by show 2 ≤ sizeLine; decide, [.int i tk, y], .cons ⟨_, rfl⟩ (.cons ru .nil), ⟨_, hT2, rfl, _, rfl⟩⟩
    have I1 : Inv X pins σ (upd H s.heap.objs.size (.tup [.int (i : Nat), x])) { s with heap := h'', toks := tk + 1 } :=
      I.turnedNew (ch := [e, it]) (fun b ob hb q => (sb.2 b (fun z => hb (by simp [z]))).trans (hk b ob (fun z => hb (by simp [z])) (fun z => hb (by simp [z])) q)) hf (Nat.le_refl _) new
    refine ⟨.ref s.heap.objs.size, _, I1, rfl, ⟨_, x, rfl, I.hok.fresh (Nat.le_refl _), rfl, fun ys hy => by rw [I.tuple_inj hy hq]; exact hx⟩, ⟨⟨y, ?_⟩, hit'.1.at fun o q => (sb.2 it (Ne.symm hne)).trans q, hne⟩, fun b hb => ?_⟩
    · have e1 : ((i + 1 : Nat) : Int) = (i : Int) + 1 := by omega
      rw [e1]; exact he'
    · have hb' : b < s.heap.objs.size := by
        have e' : b = e ∨ b = it := by simpa using hb
        rcases e' with z | z
        · rw [z]; exact hel
        · rw [z]; exact hil
      rw [upd_ne (Nat.ne_of_lt hb')]
      exact (hf b hb).1
  done := by
    intro X hP hw hK hc i pins s σ H E I hf st hg
    subst hP hw hK
    obtain ⟨⟨old, he⟩, hit, hne⟩ := st
    obtain ⟨xs, hq, hx⟩ := hg
    obtain ⟨its, rv, p, hz⟩ := I.tuple hq
    obtain ⟨f0, f1, f2, f3, f4, f5⟩ := hf it (by simp)
    have hl := rv.length
    obtain ⟨oa, hoa, hca, na, hda⟩ := id p
    refine wpAny_pyNext_enum_tupEnd (I.ok.hd hc) he hit ⟨oa, hoa, hca, na, hda⟩ (by simp; omega) fun h' eb => ⟨rfl, I.turned (t' := s.toks) (fun b o hb q => eb b o hb q) f0 f1 f3 f4 f5⟩
  self := fun A i s Q E st h => let ⟨⟨_, he⟩, _⟩ := st; wpAny_pyIter_enum he h

def iEnumA (K : PySem.W.Frag) (ta : TA) : TI := fun σ H R => ta σ H fun vs H1 => ∃ a xs, vs = [.ref a] ∧ ((SqL K H1 a xs ∧ R (Ite K a) H1) ∨ (SqT K H1 a xs ∧ R (IteT K a) H1))
theorem pi_enumA {X : Cx} {e : Expr} {ta : TA} {p pos tpos : Pos} {elts : List Expr} {kk : Nat} (hg : Gl X "enumerate") (hm : X.mg "enumerate" = none) (ha : PA X [e] ta) (hs : starEach [e] X.env = [(false, eval e X.env)] := by rfl) :
    PI X (.Tuple elts kk tpos) (.Call (.Name "enumerate" p) [e] [] pos) (iEnumA X.K ta) := by
  refine ⟨fun pins s σ H R I h => ?_⟩
  refine Call_ (ld_blt I hg hm boot_enumerate (PyProof.Rows.callWith_type1 (thn (ha.run pos pins s σ H _ I h) fun us s1 ⟨vs, H1, I1, r1, q1⟩ => ?_) hs rfl))
  obtain ⟨a, xs, ex, q⟩ := q1
  subst ex
  cases r1 with
  | cons r rr =>
    cases rr
    cases r
    have fin : ∀ b, (b = s1.heap.objs.size + 1 ∨ b = s1.heap.objs.size) → FpOk X pins H1 b := fun b e' => by
      have hle : s1.heap.objs.size ≤ b := by
        rcases e' with z | z
        · rw [z]; exact Nat.le_add_right _ _
        · rw [z]; exact Nat.le_refl _
      exact I1.fpOk hle (I1.hok.fresh hle)
    rcases q with ⟨hq, q⟩ | ⟨hq, q⟩
    · obtain ⟨its, rv, p', hz⟩ := I1.list hq
      refine call_enumerate_list p'.isList fun h' he hit hsz hk => wpAny_pyIter_enum he ?_
      have I2 : Inv X pins σ H1 { s1 with heap := h' } := I1.kept (t' := s1.toks) hk
      exact ⟨s1.heap.objs.size + 1, [s1.heap.objs.size + 1, s1.heap.objs.size], _, _, H1, rfl, I2, turn_enum a (s1.heap.objs.size + 1) s1.heap.objs.size, ⟨⟨.none, he⟩, hit, Nat.succ_ne_self _⟩, fun b hb => fin b (by simpa using hb), q⟩
    · obtain ⟨its, rv, p', hz⟩ := I1.tuple hq
      obtain ⟨oa, hoa, hca, na, hda⟩ := id p'
      refine call_enumerate_tuple (items := its.toArray) ⟨oa, hoa, hca, na, hda⟩ fun h' he hit hsz hk => wpAny_pyIter_enum he ?_
      have I2 : Inv X pins σ H1 { s1 with heap := h' } := I1.kept (t' := s1.toks) hk
      exact ⟨s1.heap.objs.size + 1, [s1.heap.objs.size + 1, s1.heap.objs.size], _, _, H1, rfl, I2, turn_enumT a (s1.heap.objs.size + 1) s1.heap.objs.size, ⟨⟨.none, he⟩, hit, Nat.succ_ne_self _⟩, fun b hb => fin b (by simpa using hb), q⟩
end L2

set_option Elab.async false
set_option linter.all false
set_option maxRecDepth 100000
set_option maxHeartbeats 2000000
namespace DL
open PySem L2
/-- J walks over the items xs; own slots of δ1 stay (P1), what is frozen in F1 stays -/
structure ItOk (K : PySem.W.Frag) (F1 : Hp) (δ1 : DS) (σ1 : L2.St) (J : It) (xs : List D) : Prop where
  go : ∀ (G : Gd) (F : Hp) (δ : DS) (M : MH) (σ : L2.St) (H : Hp) (i : Nat), G.K = K → Rep G F δ M σ H → Ex F1 F → (∀ (j : Nat) (ys : List D), δ1[j]? = some (some (Sl.own ys)) → δ[j]? = δ1[j]? ∧ σ[j]? = σ1[j]?) → i < xs.length → J.go i H
  stop : ∀ (G : Gd) (F : Hp) (δ : DS) (M : MH) (σ : L2.St) (H : Hp) (i : Nat), G.K = K → Rep G F δ M σ H → Ex F1 F → (∀ (j : Nat) (ys : List D), δ1[j]? = some (some (Sl.own ys)) → δ[j]? = δ1[j]? ∧ σ[j]? = σ1[j]?) → xs.length ≤ i → J.stop i H
  yld : ∀ (G : Gd) (F : Hp) (δ : DS) (M : MH) (σ : L2.St) (H : Hp) (i : Nat) (x : V) (H' : Hp), G.K = K → Rep G F δ M σ H → Ex F1 F → (∀ (j : Nat) (ys : List D), δ1[j]? = some (some (Sl.own ys)) → δ[j]? = δ1[j]? ∧ σ[j]? = σ1[j]?) → i < xs.length → J.yld i H x H' →
    ∃ F' d, xs[i]? = some d ∧ Rep G F' δ M σ H' ∧ Ex F F' ∧ R K F' x d
abbrev DIt := DS → MH → (List D → MH → Prop) → XP → Prop
/-- for a for: nothing leans on own slots -/
def LI (G : Gd) (W : WX) (td : DIt) : TI := fun σ H R => ∃ F δ M Qd Ed, Rep G F δ M σ H ∧ td δ M Qd Ed ∧
  (∀ xs J F' M' H', Rep G F' δ M' σ H' → Ex F F' → ItOk G.K F' [] [] J xs → Qd xs M' → R J H') ∧ XOk G W δ σ Ed
/-- for a comprehension -/
def LIP (G : Gd) (W : WX) (td : DIt) : TI := fun σ H R => ∃ F δ M Qd Ed, Rep G F δ M σ H ∧ td δ M Qd Ed ∧
  (∀ xs J F' M' H', Rep G F' δ M' σ H' → Ex F F' → ItOk G.K F' δ σ J xs → Qd xs M' → R J H') ∧ XOk G W δ σ Ed
theorem ItOk.weak {K : PySem.W.Frag} {F1 : Hp} {J : It} {xs : List D} {δ : DS} {σ : L2.St} (h : ItOk K F1 [] [] J xs) : ItOk K F1 δ σ J xs where
  go := fun G F δ M σ H i hk r e _ => h.go G F δ M σ H i hk r e fun j ys q => by simp at q
  stop := fun G F δ M σ H i hk r e _ => h.stop G F δ M σ H i hk r e fun j ys q => by simp at q
  yld := fun G F δ M σ H i x H' hk r e _ => h.yld G F δ M σ H i x H' hk r e fun j ys q => by simp at q
theorem pi_imp {X : Cx} {tg e : Expr} {t t' : TI} (h : PI X tg e t) (k : ∀ σ H Q, t' σ H Q → t σ H Q) : PI X tg e t' := ⟨fun pins s σ H Q I z => h.run pins s σ H Q I (k σ H Q z)⟩
theorem i_p {X : Cx} {G : Gd} {W : WX} {tg e : Expr} {t : DIt} (h : PI X tg e (LI G W t)) : PI X tg e (LIP G W t) :=
  pi_imp h fun σ H R ⟨F, δ, M, Qd, Ed, rep, q, k, x⟩ => ⟨F, δ, M, Qd, Ed, rep, q, fun xs J F' M' H' r' e' o' q' => k xs J F' M' H' r' e' o'.weak q', x⟩
section
variable {K : PySem.W.Frag} {F1 : Hp} {δ1 : DS} {σ1 : L2.St}
/-- a tuple, a list that stand in F1 -/
theorem ok_tup {a : Addr} {vs : List V} {xs : List D} (h : SqT K F1 a vs) (r : Rs K F1 vs xs) : ItOk K F1 [] [] (Itt K a) xs where
  go := fun G F δ M σ H i hk rep e _ hi => by
    obtain ⟨v, h1, _⟩ := r.get (List.getElem?_eq_getElem hi)
    exact ⟨vs, v, ex_t (e.trans rep.fr.ex) h, h1⟩
  stop := fun G F δ M σ H i hk rep e _ hi => ⟨vs, ex_t (e.trans rep.fr.ex) h, by rw [r.length]; exact hi⟩
  yld := fun G F δ M σ H i x H' hk rep e _ hi q => by
    obtain ⟨rfl, q⟩ := q
    obtain ⟨v, h1, h2⟩ := r.get (List.getElem?_eq_getElem hi)
    have z := q vs (ex_t (e.trans rep.fr.ex) h)
    rw [h1] at z
    cases z
    exact ⟨F, _, List.getElem?_eq_getElem hi, rep, Ex.refl F, h2.mono e⟩
theorem ok_lst {a : Addr} {vs : List V} {xs : List D} (h : F1 a = some (.lst vs)) (r : Rs K F1 vs xs) : ItOk K F1 [] [] (Itl K a) xs where
  go := fun G F δ M σ H i hk rep e _ hi => by
    obtain ⟨v, h1, _⟩ := r.get (List.getElem?_eq_getElem hi)
    exact ⟨vs, v, .inl (.inl (rep.fr.ex _ _ (e _ _ h))), h1⟩
  stop := fun G F δ M σ H i hk rep e _ hi => ⟨vs, .inl (.inl (rep.fr.ex _ _ (e _ _ h))), by rw [r.length]; exact hi⟩
  yld := fun G F δ M σ H i x H' hk rep e _ hi q => by
    obtain ⟨rfl, q⟩ := q
    obtain ⟨v, h1, h2⟩ := r.get (List.getElem?_eq_getElem hi)
    have z := q vs (.inl (.inl (rep.fr.ex _ _ (e _ _ h))))
    rw [h1] at z
    cases z
    exact ⟨F, _, List.getElem?_eq_getElem hi, rep, Ex.refl F, h2.mono e⟩
/-- an own slot's list -/
theorem own_at {G : Gd} {F : Hp} {δ : DS} {M : MH} {σ : L2.St} {H : Hp} {j : Nat} {xs : List D} {a : Addr} (hj : δ1[j]? = some (some (.own xs))) (hs : σ1[j]? = some (some (.ref a))) (rep : Rep G F δ M σ H)
    (p : ∀ (j : Nat) (ys : List D), δ1[j]? = some (some (Sl.own ys)) → δ[j]? = δ1[j]? ∧ σ[j]? = σ1[j]?) : ∃ vs, H a = some (.lst vs) ∧ Rs G.K F vs xs := by
  obtain ⟨p1, p2⟩ := p j xs hj
  rw [hj] at p1
  obtain ⟨b, q1, vs, q2, q3, _⟩ := rep.own j xs p1
  rw [p2, hs] at q1
  cases q1
  exact ⟨vs, q2, q3⟩
theorem ok_own {j : Nat} {a : Addr} {xs : List D} (hj : δ1[j]? = some (some (.own xs))) (hs : σ1[j]? = some (some (.ref a))) : ItOk K F1 δ1 σ1 (Itl K a) xs where
  go := fun G F δ M σ H i hk rep e p hi => by
    obtain ⟨vs, h, r⟩ := own_at hj hs rep p
    obtain ⟨v, h1, _⟩ := r.get (List.getElem?_eq_getElem hi)
    exact ⟨vs, v, .inl (.inl h), h1⟩
  stop := fun G F δ M σ H i hk rep e p hi => by
    obtain ⟨vs, h, r⟩ := own_at hj hs rep p
    exact ⟨vs, .inl (.inl h), by rw [r.length]; exact hi⟩
  yld := fun G F δ M σ H i x H' hk rep e p hi q => by
    subst hk
    obtain ⟨rfl, q⟩ := q
    obtain ⟨vs, h, r⟩ := own_at hj hs rep p
    obtain ⟨v, h1, h2⟩ := r.get (List.getElem?_eq_getElem hi)
    have z := q vs (.inl (.inl h))
    rw [h1] at z
    cases z
    exact ⟨F, _, List.getElem?_eq_getElem hi, rep, Ex.refl F, h2⟩
def rgD (lo : Int) (n : Nat) : List D := (List.range n).map fun i => D.int (lo + (i : Nat))
theorem rgD_len {lo : Int} {n : Nat} : (rgD lo n).length = n := by unfold rgD; rw [List.length_map, List.length_range]
theorem rgD_get {lo : Int} {n i : Nat} (h : i < n) : (rgD lo n)[i]? = some (.int (lo + (i : Nat))) := by
  unfold rgD
  rw [List.getElem?_map, List.getElem?_range h]
  rfl
theorem ok_rng {lo : Int} {n : Nat} : ItOk K F1 [] [] (Itr lo n) (rgD lo n) where
  go := fun G F δ M σ H i hk rep e _ hi => by rw [rgD_len] at hi; exact hi
  stop := fun G F δ M σ H i hk rep e _ hi => by rw [rgD_len] at hi; exact hi
  yld := fun G F δ M σ H i x H' hk rep e _ hi q => by
    obtain ⟨rfl, rfl⟩ := q
    rw [rgD_len] at hi
    exact ⟨F, _, rgD_get hi, rep, Ex.refl F, R.int _⟩
/-- (0, x), (1, y), .. -/
def enD (xs : List D) : List D := (List.range xs.length).map fun i => D.tup [.int (i : Nat), xs.getD i .non]
theorem enD_len {xs : List D} : (enD xs).length = xs.length := by unfold enD; rw [List.length_map, List.length_range]
theorem enD_get {xs : List D} {i : Nat} {d : D} (h : xs[i]? = some d) : (enD xs)[i]? = some (.tup [.int (i : Nat), d]) := by
  unfold enD
  rw [List.getElem?_map, List.getElem?_range (lt_of_get h)]
  rw [Option.map_some, List.getD_eq_getElem?_getD, h]
  rfl
theorem pair_new {G : Gd} {F : Hp} {δ : DS} {M : MH} {σ : L2.St} {H : Hp} {T : Addr} {v u : V} {x y : D} (rep : Rep G F δ M σ H) (hT : H T = none) (h1 : R G.K F v x) (h2 : R G.K F u y) :
    ∃ F', Rep G F' δ M σ (upd H T (.tup [v, u])) ∧ Ex F F' ∧ R G.K F' (.ref T) (.tup [x, y]) := by
  have e := Ex.new (o := HO.tup [v, u]) (rep.fr.f_none hT)
  exact ⟨_, rep.addF hT _, e, .tup (.inl (.inl upd_same)) (.cons (h1.mono e) (.cons (h2.mono e) .nil))⟩
theorem ok_enumT {a : Addr} {vs : List V} {xs : List D} (h : SqT K F1 a vs) (r : Rs K F1 vs xs) : ItOk K F1 [] [] (IteT K a) (enD xs) where
  go := fun G F δ M σ H i hk rep e _ hi => by
    rw [enD_len] at hi
    obtain ⟨v, h1, _⟩ := r.get (List.getElem?_eq_getElem hi)
    exact ⟨vs, v, ex_t (e.trans rep.fr.ex) h, h1⟩
  stop := fun G F δ M σ H i hk rep e _ hi => by rw [enD_len] at hi; exact ⟨vs, ex_t (e.trans rep.fr.ex) h, by rw [r.length]; exact hi⟩
  yld := fun G F δ M σ H i x H' hk rep e _ hi q => by
    subst hk
    rw [enD_len] at hi
    obtain ⟨T, y, rfl, hT, rfl, q⟩ := q
    obtain ⟨v, h1, h2⟩ := r.get (List.getElem?_eq_getElem hi)
    have z := q vs (ex_t (e.trans rep.fr.ex) h)
    rw [h1] at z
    cases z
    obtain ⟨F', g1, g2, g3⟩ := pair_new rep hT (.int ((i : Nat) : Int)) (h2.mono e)
    exact ⟨F', _, enD_get (List.getElem?_eq_getElem hi), g1, g2, g3⟩
theorem ok_enumL {a : Addr} {vs : List V} {xs : List D} (h : F1 a = some (.lst vs)) (r : Rs K F1 vs xs) : ItOk K F1 [] [] (Ite K a) (enD xs) where
  go := fun G F δ M σ H i hk rep e _ hi => by
    rw [enD_len] at hi
    obtain ⟨v, h1, _⟩ := r.get (List.getElem?_eq_getElem hi)
    exact ⟨vs, v, .inl (.inl (rep.fr.ex _ _ (e _ _ h))), h1⟩
  stop := fun G F δ M σ H i hk rep e _ hi => by rw [enD_len] at hi; exact ⟨vs, .inl (.inl (rep.fr.ex _ _ (e _ _ h))), by rw [r.length]; exact hi⟩
  yld := fun G F δ M σ H i x H' hk rep e _ hi q => by
    subst hk
    rw [enD_len] at hi
    obtain ⟨T, y, rfl, hT, rfl, q⟩ := q
    obtain ⟨v, h1, h2⟩ := r.get (List.getElem?_eq_getElem hi)
    have z := q vs (.inl (.inl (rep.fr.ex _ _ (e _ _ h))))
    rw [h1] at z
    cases z
    obtain ⟨F', g1, g2, g3⟩ := pair_new rep hT (.int ((i : Nat) : Int)) (h2.mono e)
    exact ⟨F', _, enD_get (List.getElem?_eq_getElem hi), g1, g2, g3⟩
/-- pairs of items -/
def zpD (xs ys : List D) : List D := (xs.zip ys).map fun p => D.tup [p.1, p.2]
theorem zpD_len {xs ys : List D} : (zpD xs ys).length = min xs.length ys.length := by unfold zpD; rw [List.length_map, List.length_zip]
theorem zpD_get {xs ys : List D} {i : Nat} {x y : D} (h1 : xs[i]? = some x) (h2 : ys[i]? = some y) : (zpD xs ys)[i]? = some (.tup [x, y]) := by
  unfold zpD
  rw [List.getElem?_map, List.getElem?_zip_eq_some (z := (x, y)) |>.mpr ⟨h1, h2⟩]
  rfl
theorem ok_zipT {a b : Addr} {vs us : List V} {xs ys : List D} (h : SqT K F1 a vs) (r : Rs K F1 vs xs) (h' : SqT K F1 b us) (r' : Rs K F1 us ys) : ItOk K F1 [] [] (RZ.ItzT K a b) (zpD xs ys) where
  go := fun G F δ M σ H i hk rep e _ hi => by
    rw [zpD_len] at hi
    obtain ⟨v, h1, _⟩ := r.get (List.getElem?_eq_getElem (show i < xs.length by omega))
    obtain ⟨u, h2, _⟩ := r'.get (List.getElem?_eq_getElem (show i < ys.length by omega))
    exact ⟨vs, us, v, u, ex_t (e.trans rep.fr.ex) h, ex_t (e.trans rep.fr.ex) h', h1, h2⟩
  stop := fun G F δ M σ H i hk rep e _ hi => by
    rw [zpD_len] at hi
    exact ⟨vs, us, ex_t (e.trans rep.fr.ex) h, ex_t (e.trans rep.fr.ex) h', by rw [r.length, r'.length]; omega⟩
  yld := fun G F δ M σ H i x H' hk rep e _ hi q => by
    subst hk
    rw [zpD_len] at hi
    obtain ⟨T, y, z, rfl, hT, rfl, q, q'⟩ := q
    obtain ⟨v, h1, h2⟩ := r.get (List.getElem?_eq_getElem (show i < xs.length by omega))
    obtain ⟨u, h3, h4⟩ := r'.get (List.getElem?_eq_getElem (show i < ys.length by omega))
    have z1 := q vs (ex_t (e.trans rep.fr.ex) h)
    rw [h1] at z1
    cases z1
    have z2 := q' us (ex_t (e.trans rep.fr.ex) h')
    rw [h3] at z2
    cases z2
    obtain ⟨F', g1, g2, g3⟩ := pair_new rep hT (h2.mono e) (h4.mono e)
    exact ⟨F', _, zpD_get (List.getElem?_eq_getElem (show i < xs.length by omega)) (List.getElem?_eq_getElem (show i < ys.length by omega)), g1, g2, g3⟩
theorem ok_zipL {a b : Addr} {vs us : List V} {xs ys : List D} (h : F1 a = some (.lst vs)) (r : Rs K F1 vs xs) (h' : F1 b = some (.lst us)) (r' : Rs K F1 us ys) : ItOk K F1 [] [] (Itz K a b) (zpD xs ys) where
  go := fun G F δ M σ H i hk rep e _ hi => by
    rw [zpD_len] at hi
    obtain ⟨v, h1, _⟩ := r.get (List.getElem?_eq_getElem (show i < xs.length by omega))
    obtain ⟨u, h2, _⟩ := r'.get (List.getElem?_eq_getElem (show i < ys.length by omega))
    exact ⟨vs, us, v, u, .inl (.inl (rep.fr.ex _ _ (e _ _ h))), .inl (.inl (rep.fr.ex _ _ (e _ _ h'))), h1, h2⟩
  stop := fun G F δ M σ H i hk rep e _ hi => by
    rw [zpD_len] at hi
    exact ⟨vs, us, .inl (.inl (rep.fr.ex _ _ (e _ _ h))), .inl (.inl (rep.fr.ex _ _ (e _ _ h'))), by rw [r.length, r'.length]; omega⟩
  yld := fun G F δ M σ H i x H' hk rep e _ hi q => by
    subst hk
    rw [zpD_len] at hi
    obtain ⟨T, y, z, rfl, hT, rfl, q, q'⟩ := q
    obtain ⟨v, h1, h2⟩ := r.get (List.getElem?_eq_getElem (show i < xs.length by omega))
    obtain ⟨u, h3, h4⟩ := r'.get (List.getElem?_eq_getElem (show i < ys.length by omega))
    have z1 := q vs (.inl (.inl (rep.fr.ex _ _ (e _ _ h))))
    rw [h1] at z1
    cases z1
    have z2 := q' us (.inl (.inl (rep.fr.ex _ _ (e _ _ h'))))
    rw [h3] at z2
    cases z2
    obtain ⟨F', g1, g2, g3⟩ := pair_new rep hT (h2.mono e) (h4.mono e)
    exact ⟨F', _, zpD_get (List.getElem?_eq_getElem (show i < xs.length by omega)) (List.getElem?_eq_getElem (show i < ys.length by omega)), g1, g2, g3⟩
/-- the signs of a text -/
def sgD (x : Str) : List D := x.cps.toList.map fun c => D.str ⟨#[c]⟩
theorem ok_str {x : Str} : ItOk K F1 [] [] (Its x) (sgD x) where
  go := fun G F δ M σ H i hk rep e _ hi => by unfold sgD at hi; rw [List.length_map] at hi; show i < x.cps.size; simpa using hi
  stop := fun G F δ M σ H i hk rep e _ hi => by unfold sgD at hi; rw [List.length_map] at hi; show x.cps.size ≤ i; simpa using hi
  yld := fun G F δ M σ H i y H' hk rep e _ hi q => by
    obtain ⟨rfl, c, hc, rfl⟩ := q
    refine ⟨F, .str ⟨#[c]⟩, ?_, rep, Ex.refl F, R.str _⟩
    unfold sgD
    rw [List.getElem?_map]
    have : x.cps.toList[i]? = some c := by simpa using hc
    rw [this]
    rfl
end
/-! ### what is walked -/
section
variable {X : Cx} {G : Gd} {W : WX} {tg e : Expr} {es : List Expr} {pos p : Pos} {t ta : DX}
def iSeq (t : DX) : DIt := fun δ M Q E => t δ M (fun d M' => ∃ xs, (d = .tup xs ∨ d = .lst xs) ∧ Q xs M') E
theorem i_or {wi wi' : TI} (h : PI X tg e wi) (h' : PI X tg e wi') : PI X tg e (fun σ H R => wi σ H R ∨ wi' σ H R) := ⟨fun pins s σ H Q I z => z.elim (h.run pins s σ H Q I) (h'.run pins s σ H Q I)⟩
/-- over a tuple | a list, as the proof says -/
def iTupD (t : DX) : DIt := fun δ M Q E => t δ M (fun d M' => ∃ xs, d = .tup xs ∧ Q xs M') E
def iLstD (t : DX) : DIt := fun δ M Q E => t δ M (fun d M' => ∃ xs, d = .lst xs ∧ Q xs M') E
theorem i_tup (hk : X.K = G.K) (h : PE X e (LV G W t)) : PI X tg e (LI G W (iTupD t)) :=
  pi_imp (pi_tup h) fun σ H R ⟨F, δ, M, Qd, Ed, rep, q, k, x⟩ => ⟨F, δ, M, _, Ed, rep, q, fun d v F1 M1 H1 r1 e1 s1 ⟨xs, hd, q1⟩ => by
    subst hd
    obtain ⟨a, vs, rfl, h1, h2⟩ := s1.tup_inv
    rw [hk]
    exact ⟨a, rfl, ⟨vs, ex_t r1.fr.ex h1⟩, k xs _ F1 M1 H1 r1 e1 (ok_tup h1 h2) q1⟩, x⟩
theorem i_lst (hk : X.K = G.K) (h : PE X e (LV G W t)) : PI X tg e (LI G W (iLstD t)) :=
  pi_imp (pi_list h) fun σ H R ⟨F, δ, M, Qd, Ed, rep, q, k, x⟩ => ⟨F, δ, M, _, Ed, rep, q, fun d v F1 M1 H1 r1 e1 s1 ⟨xs, hd, q1⟩ => by
    subst hd
    obtain ⟨a, vs, rfl, h1, h2⟩ := s1.lst_inv
    rw [hk]
    exact ⟨a, rfl, ⟨vs, .inl (.inl (r1.fr.ex _ _ h1))⟩, k xs _ F1 M1 H1 r1 e1 (ok_lst h1 h2) q1⟩, x⟩
/-- an own slot's list, for a comprehension -/
def iPeek (i : Nat) : DIt := fun δ M Q _ => ∃ xs, (δ[i]? = some (some (.own xs)) ∨ δ[i]? = some (some (.d (.lst xs)))) ∧ Q xs M
theorem i_peek {i : Nat} (hk : X.K = G.K) (h : PE X e (tVar i)) : PI X tg e (LIP G W (iPeek i)) :=
  pi_imp (pi_list h) fun σ H R ⟨F, δ, M, Qd, Ed, rep, ⟨xs, hx, q⟩, k, x⟩ => by
    rcases hx with hx | hx
    · obtain ⟨a, h1, vs, h2, h3, _⟩ := rep.own i xs hx
      refine ⟨.ref a, h1, a, rfl, ⟨vs, .inl (.inl h2)⟩, ?_⟩
      rw [hk]
      exact k xs _ F M H rep (Ex.refl F) (ok_own hx h1) q
    · obtain ⟨v, h1, h2⟩ := rep.val i _ hx
      obtain ⟨a, vs, rfl, h3, h4⟩ := h2.lst_inv
      refine ⟨.ref a, h1, a, rfl, ⟨vs, .inl (.inl (rep.fr.ex _ _ h3))⟩, ?_⟩
      rw [hk]
      exact k xs _ F M H rep (Ex.refl F) (ok_lst h3 h4).weak q
def iRange1 (t : DA) : DIt := fun δ M Q E => t δ M (fun ds M' => ∃ j : Int, ds = [.int j] ∧ -(2 ^ 62) ≤ j ∧ j < 2 ^ 62 ∧ Q (rgD 0 j.toNat) M') E
def iRange2 (t : DA) : DIt := fun δ M Q E => t δ M (fun ds M' => ∃ i j : Int, ds = [.int i, .int j] ∧ (-(2 ^ 62) ≤ i ∧ i < 2 ^ 62 ∧ -(2 ^ 62) ≤ j ∧ j < 2 ^ 62) ∧ Q (rgD i (j - i).toNat) M') E
theorem Rs.one {K : PySem.W.Frag} {F : Hp} {vs : List V} {d : D} (h : Rs K F vs [d]) : ∃ v, vs = [v] ∧ R K F v d := by
  cases h with
  | cons h1 h2 => cases h2; exact ⟨_, rfl, h1⟩
theorem Rs.two {K : PySem.W.Frag} {F : Hp} {vs : List V} {d d' : D} (h : Rs K F vs [d, d']) : ∃ v v', vs = [v, v'] ∧ R K F v d ∧ R K F v' d' := by
  cases h with
  | cons h1 h2 => cases h2 with
    | cons h3 h4 => cases h4; exact ⟨_, _, rfl, h1, h3⟩
theorem i_range1 {a : Expr} {t : DA} (hg : Gl X "range") (hm : X.mg "range" = none) (ha : PA X [a] (LA G W t)) (hs : starEach [a] X.env = [(false, eval a X.env)] := by rfl) : PI X tg (.Call (.Name "range" p) [a] [] pos) (LI G W (iRange1 t)) :=
  pi_imp (pi_range1 hg hm ha hs) fun σ H R ⟨F, δ, M, Qd, Ed, rep, q, k, x⟩ => ⟨F, δ, M, _, Ed, rep, q, fun ds vs F1 M1 H1 r1 e1 s1 ⟨j, hd, h1, h2, q1⟩ => by
    subst hd
    obtain ⟨v, rfl, s2⟩ := s1.one
    obtain rfl := s2.int_inv
    exact ⟨j, rfl, h1, h2, k _ _ F1 M1 H1 r1 e1 ok_rng q1⟩, x⟩
theorem i_range2 {a b : Expr} {t : DA} (hg : Gl X "range") (hm : X.mg "range" = none) (ha : PA X [a, b] (LA G W t)) (hs : starEach [a, b] X.env = [(false, eval a X.env), (false, eval b X.env)] := by rfl) (hs2 : starEach [b] X.env = [(false, eval b X.env)] := by rfl) :
    PI X tg (.Call (.Name "range" p) [a, b] [] pos) (LI G W (iRange2 t)) :=
  pi_imp (pi_range2 hg hm ha hs hs2) fun σ H R ⟨F, δ, M, Qd, Ed, rep, q, k, x⟩ => ⟨F, δ, M, _, Ed, rep, q, fun ds vs F1 M1 H1 r1 e1 s1 ⟨i, j, hd, h1, q1⟩ => by
    subst hd
    obtain ⟨v, u, rfl, s2, s3⟩ := s1.two
    obtain rfl := s2.int_inv
    obtain rfl := s3.int_inv
    exact ⟨i, j, rfl, h1, k _ _ F1 M1 H1 r1 e1 ok_rng q1⟩, x⟩
def iEnumD (t : DA) : DIt := fun δ M Q E => t δ M (fun ds M' => ∃ d xs, ds = [d] ∧ (d = .tup xs ∨ d = .lst xs) ∧ Q (enD xs) M') E
theorem i_enum {t : DA} {elts : List Expr} {kk : Nat} {tpos : Pos} (hk : X.K = G.K) (hg : Gl X "enumerate") (hm : X.mg "enumerate" = none) (ha : PA X [e] (LA G W t)) (hs : starEach [e] X.env = [(false, eval e X.env)] := by rfl) :
    PI X (.Tuple elts kk tpos) (.Call (.Name "enumerate" p) [e] [] pos) (LI G W (iEnumD t)) :=
  pi_imp (pi_enumA hg hm ha hs) fun σ H R ⟨F, δ, M, Qd, Ed, rep, q, k, x⟩ => ⟨F, δ, M, _, Ed, rep, q, fun ds vs F1 M1 H1 r1 e1 s1 ⟨d, xs, hd, hx, q1⟩ => by
    subst hd
    obtain ⟨v, rfl, s2⟩ := s1.one
    rw [hk]
    rcases hx with rfl | rfl
    · obtain ⟨a, us, rfl, h1, h2⟩ := s2.tup_inv
      exact ⟨a, us, rfl, .inr ⟨ex_t r1.fr.ex h1, k _ _ F1 M1 H1 r1 e1 (ok_enumT h1 h2) q1⟩⟩
    · obtain ⟨a, us, rfl, h1, h2⟩ := s2.lst_inv
      exact ⟨a, us, rfl, .inl ⟨.inl (.inl (r1.fr.ex _ _ h1)), k _ _ F1 M1 H1 r1 e1 (ok_enumL h1 h2) q1⟩⟩, x⟩
def iZipD (t : DA) : DIt := fun δ M Q E => t δ M (fun ds M' => ∃ d d' xs ys, ds = [d, d'] ∧ ((d = .tup xs ∧ d' = .tup ys) ∨ (d = .lst xs ∧ d' = .lst ys)) ∧ Q (zpD xs ys) M') E
theorem i_zip {e2 : Expr} {t : DA} {elts : List Expr} {kk : Nat} {tpos : Pos} (hk : X.K = G.K) (hg : Gl X "zip") (hm : X.mg "zip" = none) (ha : PA X [e, e2] (LA G W t))
    (hs : starEach [e, e2] X.env = (false, eval e X.env) :: starEach [e2] X.env := by rfl) (hpl : (backTo pos (starEach [e2] X.env)).any (·.1) = false := by rfl) :
    PI X (.Tuple elts kk tpos) (.Call (.Name "zip" p) [e, e2] [] pos) (LI G W (iZipD t)) :=
  pi_imp (RZ.pi_zipA hg hm ha hs hpl) fun σ H R ⟨F, δ, M, Qd, Ed, rep, q, k, x⟩ => ⟨F, δ, M, _, Ed, rep, q, fun ds vs F1 M1 H1 r1 e1 s1 ⟨d, d', xs, ys, hd, hx, q1⟩ => by
    subst hd
    obtain ⟨v, u, rfl, s2, s3⟩ := s1.two
    rw [hk]
    rcases hx with ⟨rfl, rfl⟩ | ⟨rfl, rfl⟩
    · obtain ⟨a, us, rfl, h1, h2⟩ := s2.tup_inv
      obtain ⟨b, ws, rfl, h3, h4⟩ := s3.tup_inv
      exact ⟨a, b, us, ws, rfl, .inr ⟨ex_t r1.fr.ex h1, ex_t r1.fr.ex h3, k _ _ F1 M1 H1 r1 e1 (ok_zipT h1 h2 h3 h4) q1⟩⟩
    · obtain ⟨a, us, rfl, h1, h2⟩ := s2.lst_inv
      obtain ⟨b, ws, rfl, h3, h4⟩ := s3.lst_inv
      exact ⟨a, b, us, ws, rfl, .inl ⟨.inl (.inl (r1.fr.ex _ _ h1)), .inl (.inl (r1.fr.ex _ _ h3)), k _ _ F1 M1 H1 r1 e1 (ok_zipL h1 h2 h3 h4) q1⟩⟩, x⟩
def iStrD (t : DX) : DIt := fun δ M Q E => t δ M (fun d M' => ∃ s, d = .str s ∧ Q (sgD s) M') E
theorem i_str (h : PE X e (LV G W t)) : PI X tg e (LI G W (iStrD t)) :=
  pi_imp (pi_str h) fun σ H R ⟨F, δ, M, Qd, Ed, rep, q, k, x⟩ => ⟨F, δ, M, _, Ed, rep, q, fun d v F1 M1 H1 r1 e1 s1 ⟨s, hd, q1⟩ => by
    subst hd
    obtain rfl := s1.str_inv
    exact ⟨s, rfl, k _ _ F1 M1 H1 r1 e1 ok_str q1⟩, x⟩
/-! ### for -/
def forD (g : DG) (b : DP) (E : DEnds) : List D → DS → MH → Prop
  | [], δ, M => E.nx δ M
  | x :: r, δ, M => g x δ M fun δ' M' => b { E with nx := forD g b E r, ct := forD g b E r, bk := E.nx } δ' M'
def sFor (it : DIt) (g : DG) (b : DP) : DP := fun E δ M => it δ M (fun xs M' => forD g b E xs δ M') E.ex
theorem forD_drop {g : DG} {b : DP} {E : DEnds} {xs : List D} {i : Nat} {d : D} {δ : DS} {M : MH} (h : xs[i]? = some d) (q : forD g b E (xs.drop i) δ M) :
    g d δ M fun δ' M' => b { E with nx := forD g b E (xs.drop (i + 1)), ct := forD g b E (xs.drop (i + 1)), bk := E.nx } δ' M' := by
  have hl := lt_of_get h
  have e : xs.drop i = d :: xs.drop (i + 1) := by
    rw [List.drop_eq_getElem_cons hl]
    have := (List.getElem?_eq_some_iff.mp h).2
    rw [this]
  rw [e] at q
  exact q
theorem s_for {iter : Expr} {body : List Stmt} {it : DIt} {g : DG} {js : List Nat} {b : DP} (hp : PassesOwn (model X.prog X.w) X.A X.env X.xe) (hc : X.calm = true) (hi : PI X tg iter (LI G W it)) (hg : PG X tg (LG G js g)) (hb : PSs X body (LS G W b))
    (hs : ∀ x, foldedSetIterable iter X.env x = pure x := by intro _; rfl) : PS X (.For tg iter body [] pos) (LS G W (sFor it g b)) := by
  refine ps_imp (ps_for hp hc hi hg hb hs) fun D σ H ⟨F, δ, M, E, rep, q, ok⟩ => ⟨F, δ, M, _, _, rep, q, fun xs J F1 M1 H1 r1 e1 o1 q1 => ?_, ok.ex δ σ⟩
  refine ⟨fun i m σ' H' => ∃ F' δ' M', Rep G F' δ' M' σ' H' ∧ Ex F1 F' ∧ forD g b E (xs.drop i) δ' M' ∧ m = xs.length - i, ⟨_, F1, δ, M1, r1, Ex.refl F1, q1, rfl⟩, ?_⟩
  rintro i m σ' H' ⟨F', δ', M', r', e', q', rfl⟩
  by_cases hl : i < xs.length
  · refine .inr ⟨o1.go G F' δ' M' σ' H' i rfl r' e' (fun j ys z => by simp at z) hl, fun σ2 H2 => ∃ F2 δ2 M2, Rep G F2 δ2 M2 σ2 H2 ∧ Ex F1 F2 ∧ forD g b E (xs.drop (i + 1)) δ2 M2, ?_, fun x H2 hy => ?_⟩
    · rintro σ2 H2 ⟨F2, δ2, M2, z1, z2, z3⟩
      exact ⟨xs.length - (i + 1), by omega, F2, δ2, M2, z1, z2, z3, rfl⟩
    · obtain ⟨F2, d, hd, r2, e2, s2⟩ := o1.yld G F' δ' M' σ' H' i x H2 rfl r' e' (fun j ys z => by simp at z) hl hy
      refine ⟨F2, δ', M', d, _, r2, s2, forD_drop hd q', fun F3 δ3 σ3 r3 e3 o3 q3 => ⟨F3, δ3, M', _, r3, q3, ?_⟩⟩
      have ee : Ex F1 F3 := e'.trans (e2.trans e3)
      exact ⟨fun F4 δ4 M4 σ4 H4 r4 e4 q4 => ⟨F4, δ4, M4, r4, ee.trans e4, q4⟩, ok.rt, fun F4 δ4 M4 σ4 H4 r4 e4 q4 => ok.nx F4 δ4 M4 σ4 H4 r4 (e1.trans (ee.trans e4)) q4, fun F4 δ4 M4 σ4 H4 r4 e4 q4 => ⟨F4, δ4, M4, r4, ee.trans e4, q4⟩, ok.ex⟩
  · refine .inl ⟨o1.stop G F' δ' M' σ' H' i rfl r' e' (fun j ys z => by simp at z) (by omega), ?_⟩
    rw [List.drop_eq_nil_of_le (by omega)] at q'
    exact ok.nx F' δ' M' σ' H' r' (e1.trans e') q'
end
end DL

set_option Elab.async false
set_option linter.all false
set_option maxRecDepth 100000
set_option maxHeartbeats 2000000
namespace DL
open PySem L2
/-! ### comprehensions -/
def wipeD (δ : DS) : List Nat → DS
  | [] => δ
  | v :: vs => (wipeD δ vs).set v none
def NoX : XP := fun _ _ _ _ => False
def W0 : WX := fun _ _ _ _ => False
def NoOwn (δ : DS) (vs : List Nat) : Prop := ∀ i ∈ vs, ∀ ys, δ[i]? ≠ some (some (.own ys))
def lcD (g : DG) (tt : DT) (te : DX) (vs : List Nat) (δ : DS) (Q : List D → MH → Prop) : List D → List D → MH → Prop
  | [], acc, M => Q acc M
  | x :: r, acc, M => g x (wipeD δ vs) M fun δ2 M2 => tt δ2 M2 (fun b M3 => if b = true then te δ2 M3 (fun y M4 => acc.length < sizeLine ∧ lcD g tt te vs δ Q r (acc ++ [y]) M4) NoX else lcD g tt te vs δ Q r acc M3) NoX
def dLc (it : DIt) (g : DG) (tt : DT) (te : DX) (vs : List Nat) : DE := fun δ M Q E => NoOwn δ vs ∧ it δ M (fun xs M1 => lcD g tt te vs δ (fun acc M2 => Q (.own acc) M2) xs [] M1) E
def tdYes : DT := fun _ M Q _ => Q true M
section
variable {X : Cx} {G : Gd} {W : WX} {F F' : Hp} {δ δ2 : DS} {M M' : MH} {σ σ2 : L2.St} {H H' : Hp} {vs : List Nat}
theorem ts_nil : PTs X [] (LT G W tdYes) := ⟨fun pins s σ H Q I ⟨F, δ, M, Qd, Ed, rep, q, k, x⟩ => pts_nil.run pins s σ H Q I (k true F M H rep (Ex.refl F) q)⟩
theorem ts_one {c : Expr} {t : DT} (h : PT X c (LT G W t)) : PTs X [c] (LT G W t) := pts_one h
theorem wipeD_length : ∀ vs : List Nat, (wipeD δ vs).length = δ.length
  | [] => rfl
  | v :: vs => by show ((wipeD δ vs).set v none).length = _; rw [List.length_set, wipeD_length vs]
theorem wipeD_out {i : Nat} : ∀ {vs : List Nat}, i ∉ vs → (wipeD δ vs)[i]? = δ[i]?
  | [], _ => rfl
  | v :: vs, h => by
    show ((wipeD δ vs).set v none)[i]? = _
    rw [setNe (fun z => h (by rw [z]; exact List.mem_cons_self))]
    exact wipeD_out fun z => h (List.mem_cons_of_mem _ z)
theorem wipe_in {i : Nat} : ∀ {vs : List Nat}, i ∈ vs → i < σ.length → (wipe σ vs)[i]? = some none
  | v :: vs, h, hl => by
    show ((wipe σ vs).set v none)[i]? = _
    by_cases e : i = v
    · subst e; exact setSame (by rw [wipe_length]; exact hl)
    · rw [setNe e]
      exact wipe_in ((List.mem_cons.mp h).resolve_left e) hl
theorem wipe_off {js : List Nat} (h : ∀ j ∈ js, j ∈ vs) (ls : σ2.length = (wipe σ vs).length) (s : ∀ j, j ∉ js → σ2[j]? = (wipe σ vs)[j]?) : wipe σ2 vs = wipe σ vs := by
  apply List.ext_getElem?
  intro i
  by_cases hi : i ∈ vs
  · by_cases hl : i < σ.length
    · rw [wipe_in hi (by rw [ls, wipe_length]; exact hl), wipe_in hi hl]
    · rw [List.getElem?_eq_none (by rw [wipe_length, ls, wipe_length]; omega), List.getElem?_eq_none (by rw [wipe_length]; omega)]
  · rw [wipe_out hi, s i (fun z => hi (h i z))]
theorem Rep.wipe (r : Rep G F δ M σ H) : ∀ vs : List Nat, Rep G F (wipeD δ vs) M (L2.wipe σ vs) H
  | [] => r
  | v :: vs => (Rep.wipe r vs).setNone
theorem Rep.unwipe (r : Rep G F δ M σ H) (r2 : Rep G F' δ2 M' σ2 H') (e : Ex F F') (no : NoOwn δ vs) (hd : ∀ j, j ∉ vs → δ2[j]? = δ[j]?) (hs : ∀ j, j ∉ vs → σ2[j]? = σ[j]?) : Rep G F' δ M' σ H' where
  fr := r2.fr
  len := r.len
  val := fun i x h => by
    obtain ⟨v, h1, h2⟩ := r.val i x h
    exact ⟨v, h1, h2.mono e⟩
  own := fun i xs h => by
    have hi : i ∉ vs := fun z => no i z xs h
    obtain ⟨a, h1, h2⟩ := r2.own i xs (by rw [hd i hi]; exact h)
    exact ⟨a, by rw [← hs i hi]; exact h1, h2⟩
  inj := r.inj
/-- the ground with the list that is being made -/
def Gd.with (G : Gd) (D : Addr) (o : HO) : Gd := ⟨G.K, upd G.H0 D o, G.F0, G.M0⟩
theorem Rep.withL {D : Addr} {o : HO} (r : Rep G F δ M σ H) (h : H D = some o) (h0 : G.H0 D = none) (f : F D = none) (m : M D = none) (no : ∀ (i : Nat) (ys : List DL.D), δ[i]? = some (some (Sl.own ys)) → σ[i]? ≠ some (some (V.ref D))) : Rep (G.with D o) F δ M σ H where
  fr := {
    ex := r.fr.ex
    ex0 := r.fr.ex0
    keep := fun a u e z => by
      by_cases ha : a = D
      · subst ha
        have e' : upd G.H0 a o a = some u := e
        rw [upd_same] at e'
        rw [h]; exact e'
      · have e' : upd G.H0 D o a = some u := e
        rw [upd_ne ha] at e'
        exact r.fr.keep a u e' z
    newF := fun a z => by
      have ha : a ≠ D := fun q => z (by rw [q]; exact f)
      rcases r.fr.newF a z with q | q
      · exact .inl q
      · exact .inr (by show upd G.H0 D o a = none; rw [upd_ne ha]; exact q)
    newM := fun a z => by
      have ha : a ≠ D := fun q => z (by rw [q]; exact m)
      rcases r.fr.newM a z with q | q
      · exact .inl q
      · exact .inr (by show upd G.H0 D o a = none; rw [upd_ne ha]; exact q)
    dom := fun a z => by
      by_cases ha : a = D
      · rw [ha, h]; simp
      · refine r.fr.dom a ?_
        have z' : upd G.H0 D o a ≠ none := z
        rw [upd_ne ha] at z'
        exact z'
    domM := r.fr.domM
    mem := r.fr.mem }
  len := r.len
  val := r.val
  own := fun i xs e => by
    obtain ⟨a, h1, vs, h2, h3, h4, h5, h6⟩ := r.own i xs e
    have ha : a ≠ D := fun q => no i xs e (by rw [h1, q])
    exact ⟨a, h1, vs, h2, h3, h4, h5, by show upd G.H0 D o a = none; rw [upd_ne ha]; exact h6⟩
  inj := r.inj
theorem Rep.offL {D : Addr} {o : HO} (r : Rep (G.with D o) F δ M σ H) (h0 : G.H0 D = none) (f0 : G.F0 D = none) (m0 : G.M0 D = none) : Rep G F δ M σ H ∧ H D = some o ∧ F D = none ∧ M D = none := by
  have hD : H D = some o := r.fr.keep D o (by show upd G.H0 D o D = some o; exact upd_same) m0
  have z0 : ∀ {a : Addr}, (G.with D o).H0 a = none → G.H0 a = none := fun {a} q => by
    have q' : upd G.H0 D o a = none := q
    by_cases ha : a = D
    · rw [ha, upd_same] at q'; cases q'
    · rw [upd_ne ha] at q'; exact q'
  have zD : (G.with D o).H0 D ≠ none := by show upd G.H0 D o D ≠ none; rw [upd_same]; simp
  refine ⟨⟨⟨r.fr.ex, r.fr.ex0, fun a u e z => ?_, fun a z => (r.fr.newF a z).imp id z0, fun a z => (r.fr.newM a z).imp id z0, fun a z => ?_, r.fr.domM, r.fr.mem⟩, r.len, r.val, fun i xs e => ?_, r.inj⟩, hD, ?_, ?_⟩
  · have ha : a ≠ D := fun q => by rw [q, h0] at e; cases e
    exact r.fr.keep a u (by show upd G.H0 D o a = some u; rw [upd_ne ha]; exact e) z
  · have ha : a ≠ D := fun q => z (by rw [q]; exact h0)
    exact r.fr.dom a (by show upd G.H0 D o a ≠ none; rw [upd_ne ha]; exact z)
  · obtain ⟨a, h1, vs, h2, h3, h4, h5, h6⟩ := r.own i xs e
    exact ⟨a, h1, vs, h2, h3, h4, h5, z0 h6⟩
  · cases e : F D with
    | none => rfl
    | some u =>
      rcases r.fr.newF D (by rw [e]; simp) with q | q
      · exact absurd f0 q
      · exact absurd q zD
  · cases e : M D with
    | none => rfl
    | some u =>
      rcases r.fr.newM D (by rw [e]; simp) with q | q
      · exact absurd m0 q
      · exact absurd q zD
/-- an object that is nobody's is changed -/
theorem Rep.chgX {D : Addr} {o u : HO} (r : Rep G F δ M σ H) (h : H D = some u) (hx : ∀ fv, u ≠ .xd fv) (h0 : G.H0 D = none) (f : F D = none) (m : M D = none) (no : ∀ (i : Nat) (ys : List DL.D), δ[i]? = some (some (Sl.own ys)) → σ[i]? ≠ some (some (V.ref D))) : Rep G F δ M σ (upd H D o) := by
  have hx' : ∀ c fv, H c = some (.xd fv) → c ≠ D := fun c fv z y => by rw [y, h] at z; cases z; exact hx fv rfl
  refine ⟨⟨r.fr.ex.updR f _, r.fr.ex0, fun b v e z => ?_, r.fr.newF, r.fr.newM, fun b e => ?_, r.fr.domM, fun b mo e => ?_⟩, r.len, r.val, fun i xs e => ?_, r.inj⟩
  · have hb : b ≠ D := fun q => by rw [q, h0] at e; cases e
    rw [upd_ne hb]; exact r.fr.keep b v e z
  · by_cases hb : b = D
    · subst hb; rw [upd_same]; simp
    · rw [upd_ne hb]; exact r.fr.dom b e
  · have hb : b ≠ D := fun z => by rw [z, m] at e; cases e
    obtain ⟨q1, q2⟩ := r.fr.mem b mo e
    exact ⟨q1, q2.mono (Ex.refl F) (upd_ne hb) fun c fv z => upd_ne (hx' c fv z)⟩
  · obtain ⟨b, g1, g2⟩ := r.own i xs e
    have hb : b ≠ D := fun z => no i xs e (by rw [g1, z])
    obtain ⟨ws, g3, g4, g5, g6, g7⟩ := id g2
    exact ⟨b, g1, g2.mono (Ex.refl F) (upd_ne hb) g5 g6⟩
theorem xok0 : XOk G W0 δ σ NoX := fun _ _ _ _ _ _ _ _ _ _ _ h => h
def tgX (K : PySem.W.Frag) (js : List Nat) (g : DG) : TG := fun v σ H Q => ∃ G : Gd, G.K = K ∧ LG G js g v σ H Q
def ttX (K : PySem.W.Frag) (t : DT) : TT := fun σ H Q => ∃ G : Gd, G.K = K ∧ LT G W0 t σ H Q
def teX (K : PySem.W.Frag) (t : DX) : TE := fun σ H Q => ∃ G : Gd, G.K = K ∧ LV G W0 t σ H Q
theorem lcD_drop {g : DG} {tt : DT} {te : DX} {Q : List D → MH → Prop} {xs acc : List D} {i : Nat} {d : D} (h : xs[i]? = some d) (q : lcD g tt te vs δ Q (xs.drop i) acc M) :
    g d (wipeD δ vs) M fun δ2 M2 => tt δ2 M2 (fun b M3 => if b = true then te δ2 M3 (fun y M4 => acc.length < sizeLine ∧ lcD g tt te vs δ Q (xs.drop (i + 1)) (acc ++ [y]) M4) NoX else lcD g tt te vs δ Q (xs.drop (i + 1)) acc M3) NoX := by
  have hl := lt_of_get h
  have e : xs.drop i = d :: xs.drop (i + 1) := by
    rw [List.drop_eq_getElem_cons hl, (List.getElem?_eq_some_iff.mp h).2]
  rw [e] at q
  exact q
theorem lc_l {it : DIt} {g : DG} {js : List Nat} {tt : DT} {te : DX} {Q : VK} (hj : ∀ j ∈ js, j ∈ vs) (h : LE G W (dLc it g tt te vs) σ H Q) : tLc (LIP G W it) (tgX G.K js g) (ttX G.K tt) (teX G.K te) vs σ H Q := by
  obtain ⟨F, δ, M, Qd, Ed, rep, ⟨no, q⟩, k, x⟩ := h
  refine ⟨F, δ, M, _, _, rep, q, fun xs J F1 M1 H1 r1 e1 o1 q1 => ?_, x⟩
  intro D hD
  have f1 := r1.fr.f_none hD
  have m1 := r1.fr.m_none hD
  have h0 := r1.fr.h0 hD
  have f0 : G.F0 D = none := by
    cases e : G.F0 D with
    | none => rfl
    | some o => rw [r1.fr.ex0 _ _ e] at f1; cases f1
  have m0 : G.M0 D = none := by
    cases e : G.M0 D with
    | none => rfl
    | some o => exact absurd m1 (r1.fr.domM D (by rw [e]; simp))
  have hno : ∀ (i : Nat) (ys : List DL.D), δ[i]? = some (some (Sl.own ys)) → σ[i]? ≠ some (some (V.ref D)) := fun i ys z w => by
    obtain ⟨a, g1, us, g2, _⟩ := r1.own i ys z
    rw [w] at g1
    cases g1
    rw [hD] at g2; cases g2
  refine ⟨fun i m H' => ∃ F' M' accV acc, Rep G F' δ M' σ H' ∧ Ex F1 F' ∧ H' D = some (.lst accV) ∧ Rs G.K F' accV acc ∧ F' D = none ∧ M' D = none ∧ lcD g tt te vs δ (fun acc M2 => Qd (.own acc) M2) (xs.drop i) acc M' ∧ m = xs.length - i,
    ⟨_, F1, M1, [], [], r1.addH hD _, Ex.refl F1, upd_same, .nil, f1, m1, q1, rfl⟩, ?_⟩
  rintro i m H' ⟨F', M', accV, acc, r', e', hd', rs', f', m', q', rfl⟩
  have stay : ∀ (j : Nat) (ys : List DL.D), δ[j]? = some (some (Sl.own ys)) → δ[j]? = δ[j]? ∧ σ[j]? = σ[j]? := fun _ _ _ => ⟨rfl, rfl⟩
  by_cases hl : i < xs.length
  · refine .inr ⟨o1.go G F' δ M' σ H' i rfl r' e' stay hl, fun H2 => ∃ F2 M2 accV2 acc2, Rep G F2 δ M2 σ H2 ∧ Ex F1 F2 ∧ H2 D = some (.lst accV2) ∧ Rs G.K F2 accV2 acc2 ∧ F2 D = none ∧ M2 D = none ∧ lcD g tt te vs δ (fun acc M2 => Qd (.own acc) M2) (xs.drop (i + 1)) acc2 M2, ?_, fun x H2 hy => ?_⟩
    · rintro H2 ⟨F2, M2, accV2, acc2, z1, z2, z3, z4, z5, z6, z7⟩
      exact ⟨xs.length - (i + 1), by omega, F2, M2, accV2, acc2, z1, z2, z3, z4, z5, z6, z7, rfl⟩
    · have rG := r'.withL hd' h0 f' m' hno
      obtain ⟨F2, d, hd, r2, e2, s2⟩ := o1.yld _ F' δ M' σ H' i x H2 (by rfl) rG e' stay hl hy
      refine ⟨G.with D (.lst accV), rfl, F2, wipeD δ vs, M', d, _, r2.wipe vs, s2, lcD_drop hd q', fun F3 δ3 σ3 r3 e3 o3 q3 => ⟨wipe_off hj o3.ls o3.s, ?_⟩⟩
      have e13 : Ex F1 F3 := e'.trans (e2.trans e3)
      have off : ∀ {F4 : Hp} {M4 : MH} {H4 : Hp}, Rep (G.with D (.lst accV)) F4 δ3 M4 σ3 H4 → Ex F3 F4 → Rep G F4 δ M4 σ H4 ∧ H4 D = some (.lst accV) ∧ F4 D = none ∧ M4 D = none := fun {F4 M4 H4} r4 e4 => by
        have z := rG.unwipe (vs := vs) r4 (e2.trans (e3.trans e4)) no (fun j hjv => by rw [o3.d j (fun w => hjv (hj j w)), wipeD_out hjv]) (fun j hjv => by rw [o3.s j (fun w => hjv (hj j w)), wipe_out hjv])
        exact z.offL h0 f0 m0
      refine ⟨G.with D (.lst accV), rfl, F3, δ3, M', _, NoX, r3, q3, fun b F4 M4 H4 r4 e4 q4 => ?_, xok0⟩
      cases b with
      | false =>
        obtain ⟨z1, z2, z3, z4⟩ := off r4 e4
        exact ⟨F4, M4, accV, acc, z1, e13.trans e4, z2, rs'.mono (e2.trans (e3.trans e4)), z3, z4, q4⟩
      | true =>
        rw [if_pos rfl] at q4 ⊢
        refine ⟨G.with D (.lst accV), rfl, F4, δ3, M4, _, NoX, r4, q4, fun y v F5 M5 H5 r5 e5 s5 ⟨hz, q5⟩ => ?_, xok0⟩
        obtain ⟨z1, z2, z3, z4⟩ := off r5 (e4.trans e5)
        have rs5 := rs'.mono (e2.trans (e3.trans (e4.trans e5)))
        exact ⟨accV, z2, by rw [rs'.length]; exact hz, F5, M5, _, _, z1.chgX z2 (fun fv z => by cases z) h0 z3 z4 hno, e13.trans (e4.trans e5), upd_same, rs5.append (.cons s5 .nil), z3, z4, q5⟩
  · refine .inl ⟨o1.stop G F' δ M' σ H' i rfl r' e' stay (by omega), ?_⟩
    rw [List.drop_eq_nil_of_le (by omega)] at q'
    exact k (.own acc) (.ref D) F' M' H' r' (e1.trans e') ⟨D, rfl, ⟨accV, hd', rs', f', m', h0⟩, hno⟩ q'
theorem pg_x {Y : Cx} {e : Expr} {g : DG} {js : List Nat} {K : PySem.W.Frag} (h : ∀ G : Gd, G.K = K → PG Y e (LG G js g)) : PG Y e (tgX K js g) := ⟨fun pins s σ H v u Q I r ⟨G, hk, z⟩ => (h G hk).run pins s σ H v u Q I r z⟩
theorem pts_x {Y : Cx} {ifs : List Expr} {t : DT} {K : PySem.W.Frag} (h : ∀ G : Gd, G.K = K → PTs Y ifs (LT G W0 t)) : PTs Y ifs (ttX K t) := ⟨fun pins s σ H Q I ⟨G, hk, z⟩ => (h G hk).run pins s σ H Q I z⟩
theorem pe_x {Y : Cx} {e : Expr} {t : DX} {K : PySem.W.Frag} (h : ∀ G : Gd, G.K = K → PE Y e (LV G W0 t)) : PE Y e (teX K t) := ⟨fun pins s σ H Q I ⟨G, hk, z⟩ => (h G hk).run pins s σ H Q I z⟩
theorem d_lc {elt tg iter : Expr} {ifs : List Expr} {scope : Scope} {own : List (Str × Nat)} {pos : Pos} {it : DIt} {g : DG} {js : List Nat} {tt : DT} {te : DX} (hc : X.calm = true) (hN : X.N.Nodup) (hi : PI X tg iter (LIP G W it)) (ok : BlkOk X.N X.env.scope scope own)
    (hj : ∀ j ∈ js, j ∈ own.map (·.2))
    (hg : ∀ G' : Gd, G'.K = G.K → ∀ (s : Shared) (H : Hp) (C : Addr) (cl : List (Str × Addr)) (fp : List Addr), PG (X.blk s H scope (compEnvC scope cl C X.env) fp) tg (LG G' js g))
    (ht : ∀ G' : Gd, G'.K = G.K → ∀ (s : Shared) (H : Hp) (C : Addr) (cl : List (Str × Addr)) (fp : List Addr), PTs (X.blk s H scope (compEnvC scope cl C X.env) fp) ifs (LT G' W0 tt))
    (he : ∀ G' : Gd, G'.K = G.K → ∀ (s : Shared) (H : Hp) (C : Addr) (cl : List (Str × Addr)) (fp : List Addr), PE (X.blk s H scope (compEnvC scope cl C X.env) fp) elt (LV G' W0 te)) (hs : ∀ x, foldedSetIterable iter X.env x = pure x := by intro _; rfl) :
    PE X (.ListComp elt [⟨tg, iter, ifs, 0⟩] scope pos) (LE G W (dLc it g tt te (own.map (·.2)))) :=
  pe_imp (pe_lc hc hN hi ok (fun s H C cl fp => pg_x fun G' hk => hg G' hk s H C cl fp) (fun s H C cl fp => pts_x fun G' hk => ht G' hk s H C cl fp) (fun s H C cl fp => pe_x fun G' hk => he G' hk s H C cl fp) hs) fun _ _ _ h => lc_l hj h
/-- y = [..] -/
theorem s_setLc {i : Nat} {y : Str} {py : Pos} {elt tg iter : Expr} {ifs : List Expr} {scope : Scope} {own : List (Str × Nat)} {pos spos : Pos} {it : DIt} {g : DG} {js : List Nat} {tt : DT} {te : DX} (hc : X.calm = true) (hN : X.N.Nodup) (hy : X.N[i]? = some y) (hyl : X.env.scope.names.lookup y = some .local)
    (hsw : swapsWith (.ListComp elt [⟨tg, iter, ifs, 0⟩] scope pos) (some (.Name y py)) spos.line X.env = pure true) (hi : PI X tg iter (LIP G W it)) (ok : BlkOk X.N X.env.scope scope own)
    (hj : ∀ j ∈ js, j ∈ own.map (·.2))
    (hg : ∀ G' : Gd, G'.K = G.K → ∀ (s : Shared) (H : Hp) (C : Addr) (cl : List (Str × Addr)) (fp : List Addr), PG (X.blk s H scope (compEnvC scope cl C X.env) fp) tg (LG G' js g))
    (ht : ∀ G' : Gd, G'.K = G.K → ∀ (s : Shared) (H : Hp) (C : Addr) (cl : List (Str × Addr)) (fp : List Addr), PTs (X.blk s H scope (compEnvC scope cl C X.env) fp) ifs (LT G' W0 tt))
    (he : ∀ G' : Gd, G'.K = G.K → ∀ (s : Shared) (H : Hp) (C : Addr) (cl : List (Str × Addr)) (fp : List Addr), PE (X.blk s H scope (compEnvC scope cl C X.env) fp) elt (LV G' W0 te)) (hs : ∀ x, foldedSetIterable iter X.env x = pure x := by intro _; rfl) :
    PS X (.Assign [.Name y py] (.ListComp elt [⟨tg, iter, ifs, 0⟩] scope pos) spos) (LS G W (sAsg (dLc it g tt te (own.map (·.2))) i)) :=
  ps_imp (ps_setLc hc hN hy hyl hsw hi ok (fun s H C cl fp => pg_x fun G' hk => hg G' hk s H C cl fp) (fun s H C cl fp => pts_x fun G' hk => ht G' hk s H C cl fp) (fun s H C cl fp => pe_x fun G' hk => he G' hk s H C cl fp) hs) fun D σ H ⟨F, δ, M, E, rep, q, ok⟩ =>
    lc_l (W := W) hj ⟨F, δ, M, _, _, rep, q, fun r v F' M' H' r' e' s' q' => ok.nx F' _ M' _ H' (r'.setAny s') e' q', ok.ex δ σ⟩
end
/-! ### a list is changed -/
section
variable {X : Cx} {G : Gd} {W : WX} {e o i : Expr} {es : List Expr} {pos apos cpos : Pos} {t ta tb : DX}
/-- xs.append(e), xs an own slot -/
def sApp (j : Nat) (t : DX) : DP := fun E δ M => t δ M (fun d M' => ∃ xs, δ[j]? = some (some (.own xs)) ∧ xs.length < sizeLine ∧ E.nx (δ.set j (some (.own (xs ++ [d])))) M') E.ex
theorem app_l {j : Nat} {t : DX} {D : Ends} {σ : L2.St} {H : Hp} {F : Hp} {δ : DS} {M : MH} {E : DEnds} {xs0 : List DL.D} (rep : Rep G F δ M σ H) (hj : δ[j]? = some (some (.own xs0))) (q : sApp j t E δ M) (ok : EndsOk G W F D E) :
    tDrop (tBM G.K "list" rAppend (tVar j) (tCons (LV G W t) tNil)) D σ H := by
  obtain ⟨a, h1, vs, h2, h3, _⟩ := rep.own j xs0 hj
  refine ⟨.ref a, h1, .inl ⟨rfl, vs, .inl (.inl h2)⟩, F, δ, M, _, _, rep, q, fun d v F' M' H' r' e' s' ⟨xs, hx, hl, q'⟩ => ?_, ok.ex δ σ⟩
  obtain ⟨b, g1, us, g2, g3, _⟩ := r'.own j xs hx
  rw [h1] at g1
  cases g1
  exact ⟨a, us, v, rfl, rfl, g2, by rw [g3.length]; exact hl, ok.nx F' _ M' σ _ (r'.chgOwn hx h1 (g3.append (.cons s' .nil))) e' q'⟩
def sAppOwn (j : Nat) (t : DX) : DP := fun E δ M => (∃ xs, δ[j]? = some (some (.own xs))) ∧ sApp j t E δ M
theorem s_app {j : Nat} (hK : X.K = G.K) (ho : PE X o (tVar j)) (he : PE X e (LV G W t)) (hbase : attributeBase o "append" X.env (eval o X.env) = eval o X.env := by rfl)
    (hfew : ((backTo cpos (starEach (e :: []) X.env)).all (fun x => !x.1) && (backToKw cpos (keywordEach [] X.env)).all (fun x => x.1.isSome)
      && decide ((e :: []).length + ([] : List Keyword).length + (if ([] : List Keyword).isEmpty then 0 else 1) < 30)) = true := by rfl)
    (hline : (apos.endLine == cpos.line) = true := by rfl) (hs : starEach (e :: []) X.env = (false, eval e X.env) :: starEach [] X.env := by rfl) (hplain : (backTo cpos (starEach [] X.env)).any (·.1) = false := by rfl)
    (hsw : swapsWith (.Call (.Attribute o "append" apos) [e] [] cpos) none pos.line X.env = pure false := by rfl) :
    PS X (.Expr (.Call (.Attribute o "append" apos) [e] [] cpos) pos) (LS G W (sAppOwn j t)) :=
  ps_imp (ps_expr (pe_bm PySem.F.plainAttrs_list PySem.F.slot_list_append PySem.F.type_list_append mt_append ho (pa_cons he pa_nil hs) hbase hfew hline hs hplain) hsw) fun D σ H ⟨F, δ, M, E, rep, ⟨⟨xs, hx⟩, q⟩, ok⟩ => by
    rw [hK]
    exact app_l rep hx q ok
/-- xs[i] = e, xs an own slot | a shared list -/
def sSet (te : DX) (j : Nat) (ti : DX) : DP := fun E δ M => te δ M (fun d M1 => ti δ M1 (fun x M2 => ∃ xs k n, δ[j]? = some (some (.own xs)) ∧ x = .int k ∧ ixN xs.length k = some n ∧ E.nx (δ.set j (some (.own (xs.set n d)))) M2) E.ex) E.ex
theorem s_set {te ti : DX} {j : Nat} {tpos : Pos} {v : Expr} (hv : PE X v (LV G W te)) (ho : PE X o (tVar j)) (hi : PE X i (LV G W ti))
    (ha : ∀ v, assign (.Subscript o i tpos) X.env v = (do
      let ov ← holding [v] (eval o X.env)
      let iv ← holding [v, ov] (eval i X.env)
      standAt tpos
      holding [v, ov, iv] (setItem ov iv v)
      release [v, ov, iv] []) := by intro _; rfl)
    (hs : swapsWithSole [.Subscript o i tpos] v pos.line X.env = pure false := by rfl) (hw : swappedStores [.Subscript o i tpos] v X.env = pure none := by rfl)
    (h1 : (assignEach [.Subscript o i tpos] X.env).map (·.2) = [assign (.Subscript o i tpos) X.env] := by rfl)
    (hown : True) : PS X (.Assign [.Subscript o i tpos] v pos) (LS G W (fun E δ M => (∃ xs, δ[j]? = some (some (.own xs))) ∧ sSet te j ti E δ M)) :=
  ps_imp (ps_asg hv (pg_sub ho hi set_list ha) hs hw h1) fun D σ H ⟨F, δ, M, E, rep, ⟨⟨xs0, hx0⟩, q⟩, ok⟩ => ⟨F, δ, M, _, _, rep, q, fun d w F1 M1 H1 r1 e1 s1 q1 => by
    obtain ⟨a, h1, vs, h2, h3, _⟩ := r1.own j xs0 hx0
    exact ⟨.ref a, h1, F1, δ, M1, _, _, r1, q1, fun x u F2 M2 H2 r2 e2 s2 ⟨xs, k, n, hx, hk, hn, q2⟩ => by
      subst hk
      obtain rfl := s2.int_inv
      obtain ⟨b, g1, us, g2, g3, _⟩ := r2.own j xs hx
      rw [h1] at g1
      cases g1
      exact ⟨a, us, k, n, rfl, rfl, g2, by rw [g3.length]; exact hn, ok.nx F2 _ M2 σ _ (r2.chgOwn hx h1 ((s1.mono e2 : R G.K F2 w d) |> fun z => g3.set z n)) (e1.trans e2) q2⟩, ok.ex δ σ⟩, ok.ex δ σ⟩
/-- xs[i] = e, xs a shared list -/
def sSetM (te to ti : DX) : DP := fun E δ M => te δ M (fun d M1 => to δ M1 (fun y M2 => ti δ M2 (fun x M3 => ∃ a xs k n, y = .ref a ∧ M3 a = some (.lst xs) ∧ x = .int k ∧ ixN xs.length k = some n ∧ E.nx δ (mu M3 a (.lst (xs.set n d)))) E.ex) E.ex) E.ex
theorem s_setM {te to ti : DX} {tpos : Pos} {v : Expr} (hv : PE X v (LV G W te)) (ho : PE X o (LV G W to)) (hi : PE X i (LV G W ti))
    (ha : ∀ v, assign (.Subscript o i tpos) X.env v = (do
      let ov ← holding [v] (eval o X.env)
      let iv ← holding [v, ov] (eval i X.env)
      standAt tpos
      holding [v, ov, iv] (setItem ov iv v)
      release [v, ov, iv] []) := by intro _; rfl)
    (hs : swapsWithSole [.Subscript o i tpos] v pos.line X.env = pure false := by rfl) (hw : swappedStores [.Subscript o i tpos] v X.env = pure none := by rfl)
    (h1 : (assignEach [.Subscript o i tpos] X.env).map (·.2) = [assign (.Subscript o i tpos) X.env] := by rfl) : PS X (.Assign [.Subscript o i tpos] v pos) (LS G W (sSetM te to ti)) :=
  ps_imp (ps_asg hv (pg_sub ho hi set_list ha) hs hw h1) fun D σ H ⟨F, δ, M, E, rep, q, ok⟩ => ⟨F, δ, M, _, _, rep, q, fun d w F1 M1 H1 r1 e1 s1 q1 =>
    ⟨F1, δ, M1, _, _, r1, q1, fun y u F2 M2 H2 r2 e2 s2 q2 => ⟨F2, δ, M2, _, _, r2, q2, fun x z F3 M3 H3 r3 e3 s3 ⟨a, xs, k, n, hy, hm, hk, hn, q3⟩ => by
      subst hk
      subst hy
      obtain rfl := s3.int_inv
      obtain rfl := s2.ref_inv
      obtain ⟨f, us, g2, g3⟩ := r3.fr.mem a _ hm
      exact ⟨a, us, k, n, rfl, rfl, g2, by rw [g3.length]; exact hn, ok.nx F3 _ _ σ _ (r3.chgM (mo' := .lst (xs.set n d)) hm (fun fv z => by rw [g2] at z; cases z) ⟨_, upd_same, g3.set (s1.mono (e2.trans e3)) n⟩) (e1.trans (e2.trans e3)) q3⟩, ok.ex δ σ⟩, ok.ex δ σ⟩, ok.ex δ σ⟩
end
end DL

set_option Elab.async false
set_option linter.all false
set_option maxRecDepth 100000
set_option maxHeartbeats 2000000
namespace L2
open PySem PySem.Spec PyProof.Rows
/-! ### B.__init__(self, ..) of an own class B over ValueError without __init__ -/
structure SeC (K : PySem.W.Frag) (B : Addr) : Prop where
  rd : PySem.W.readsIn K B (.type "type") = true
  ga : PySem.W.specialIn K (.ref B) "__getattribute__" = some (some (.builtin "type.__getattribute__"))
  at_ : PySem.W.findCls K (.ref B) (.type "type") "__init__" = some (.val (.builtin "ValueError.__init__"))
theorem pe_seinit {X : Cx} {B : Addr} {x : Str} {e : Expr} {es : List Expr} {ta : TA} {p1 p2 pos : Pos} {pl : Sem Bool} (hg : Gl X x) (hm : X.mg x = some (.ref B)) (S : SeC X.K B) (ha : PA X (e :: es) ta) (hdb : (x == ("__debug__" : Str)) = false := by decide)
    (hc : eval (.Call (.Attribute (.Name x p1) "__init__" p2) (e :: es) [] pos) X.env = (do
      let ov ← eval (.Name x p1) X.env
      standAt p2.atName
      let (f, first) ← holding [ov] (getMethod ov "__init__" pl)
      callWith pos f first (backTo pos (starEach (e :: es) X.env)) (backToKw pos (keywordEach [] X.env))) := by rfl)
    (he : starEach (e :: es) X.env = (false, eval e X.env) :: starEach es X.env := by rfl) (hpl : (backTo pos (starEach es X.env)).any (·.1) = false := by rfl) :
    PE X (.Call (.Attribute (.Name x p1) "__init__" p2) (e :: es) [] pos) (tVeI X.K ta) := by
  refine ⟨fun pins s σ H Q I h => ?_⟩
  refine PySem.W.methodCall_KW (ld_glob I hg hm ?_ hdb) hc
  refine PySem.W.method_cls I.kIn S.ga (PySem.W.cls_value I.kIn S.rd S.at_ rfl ?_)
  show wpAny _ _ (callWith pos (Value.builtin "ValueError.__init__") [] (backTo pos (starEach (e :: es) X.env)) []) _ _ _
  refine PyProof.Rows.callWith_method1 (thn (ha.run pos pins _ σ H _ (I.tok _) h) fun us s1 ⟨vs, H1, I1, r1, a, C, ws, ev, hl, T, ea, q⟩ => ?_) he hpl
  subst ev
  cases r1 with
  | @cons _ u0 _ ur ra rw' =>
    obtain rfl : u0 = Value.ref a := ra
    have hlen : ur.length ≤ sizeLine := by
      rw [← Paired.length rw', sizeLine_eq]
      omega
    exact oinit_ok T I1 ea hlen fun s' J => ⟨.non, H1, J, rfl, q⟩
/-- what an __init__ of the form B.__init__(self, ..); self.f = y promises -/
def spXI (K : PySem.W.Frag) (C : Addr) (f : Str) (P : V → Prop) : Sp := fun vs H Q _ => ∃ (a : Addr) (y : V), vs = [.ref a, y] ∧ H a = some (exo a C none) ∧ P y ∧
  ∀ dx, H dx = none → dx ≠ a → Q .non (upd (upd H dx (exd dx [(f, y)])) a (exo a C (some dx)))
/-! ### an exception that is kept -/
def xo (a : Addr) (cls : Value) (d : Option Addr) : HO := .ext fun h => ∃ (oe : Obj) (vs : Array Value), h.get? a = some oe ∧ Zc cls d oe ∧ oe.data = .fields vs
theorem xo_ok {P : Program} {w : World} {H : Hp} {h : Heap} {a : Addr} {cls : Value} {d : Option Addr} {oe : Obj} {vs : Array Value} (e : h.get? a = some oe) (z : Zc cls d oe) (dd : oe.data = .fields vs) : ObjOk P w H h a (xo a cls d) :=
  ⟨⟨oe, vs, e, z, dd⟩, ⟨_, e⟩, fun h1 h2 q k => by
    obtain ⟨o, us, q1, q2, q3⟩ := q
    exact ⟨o, us, k _ q1, q2, q3⟩⟩
theorem xo_at {P : Program} {w : World} {H : Hp} {h : Heap} {a : Addr} {cls : Value} {d : Option Addr} (hok : HOk P w H h) (he : H a = some (xo a cls d)) : ∃ (oe : Obj) (vs : Array Value), h.get? a = some oe ∧ Zc cls d oe ∧ oe.data = .fields vs := by
  have x : ObjOk P w H h a (.ext fun h => ∃ (oe : Obj) (vs : Array Value), h.get? a = some oe ∧ Zc cls d oe ∧ oe.data = .fields vs) := hok a _ he
  exact x.1
theorem Inv.adopt {X : Cx} {pins : List (Addr × Obj)} {σ : St} {H : Hp} {s : Shared} {a : Addr} {cls : Value} {d : Option Addr} {oe : Obj} {vs : Array Value} (I : Inv X pins σ H s) (e : s.heap.get? a = some oe) (z : Zc cls d oe) (dd : oe.data = .fields vs) (na : H a = none)
    (n0 : X.s_0.heap.get? a = none) (nL : a ≠ X.env.locals) (np : ∀ p ∈ X.pn ++ pins, p.1 ≠ a) : Inv X pins σ (upd H a (xo a cls d)) s where
  ok := I.ok
  os := I.os
  bare := I.bare
  base := {
    keep := I.base.keep
    slot := I.base.slot
    free := fun b o q n hx => by
      have hb : b ≠ a := fun w => by rw [w, n0] at q; cases q
      rw [upd_ne hb]; exact I.base.free b o q n hx
    there := I.base.there
    tups := fun b xs q => by rw [upd_ne (ne_of_none (I.base.tups b xs q) na)]; exact I.base.tups b xs q
    frzs := fun b o u q => by rw [upd_ne (ne_of_none (I.base.frzs b o u q) na)]; exact I.base.frzs b o u q
    tbls := fun b ps q => by
      obtain ⟨m, hm⟩ := I.base.tbls b ps q
      exact ⟨m, by rw [upd_ne (ne_of_none hm na)]; exact hm⟩ }
  loc := I.loc
  cell := I.cell
  free := by rw [upd_ne (Ne.symm nL)]; exact I.free
  freeC := fun x c h => by
    have hc : c ≠ a := fun w => by
      obtain ⟨v, o, q1, q2⟩ := I.cell x c h
      rw [w, e] at q1
      cases q1
      rw [dd] at q2
      cases q2
    rw [upd_ne hc]; exact I.freeC x c h
  pin := fun p hp => by
    obtain ⟨q1, q2, q3, q4, q5⟩ := I.pin p hp
    exact ⟨q1, by rw [upd_ne (np p hp)]; exact q2, q3, q4, q5⟩
  hok := fun b o q => by
    by_cases hb : b = a
    · subst hb
      rw [upd_same] at q
      cases q
      exact xo_ok e z dd
    · rw [upd_ne hb] at q
      exact (I.hok b o q).stay (fun _ _ _ k => k) (fun c hc => by rw [upd_ne (ne_of_none hc na)]; exact hc) fun c xs hc => by rw [upd_ne (ne_of_none hc na)]; exact hc
  len := I.len
/-! ### try: body; except x as n: suite: what the body raises is always taken, and kept behind the suite -/
def wKp (K : PySem.W.Frag) (c : Value) (i : Nat) (ts : Addr → Value → Option Addr → TS) (D : Ends) : WX := fun cls d σ H => PySem.W.exmOne K cls c = some true ∧ ∀ a, H a = none →
  ts a cls d { nx := fun τ J => J a = none → D.nx (τ.set i none) (upd J a (xo a cls d)), rt := D.rt, bk := fun τ J => D.bk (τ.set i none) J, ct := fun τ J => D.ct (τ.set i none) J } (σ.set i (some (.ref a))) H
section
variable {X : Cx} {x n : Str} {c : Value} {i : Nat} {body suite : List Stmt} {s0 : Stmt} {np pos pos' : Pos} {tb : WX → TS} {ts : Addr → Value → Option Addr → TS}
/-- where a caught exception lies: outside of all that is known -/
structure KpAt (X : Cx) (pins : List (Addr × Obj)) (a : Addr) : Prop where
  loc : a ≠ X.env.locals
  fs : a ∉ X.fs
  old : X.s_0.heap.get? a = none
  pin : ∀ p ∈ X.pn ++ pins, p.1 ≠ a
theorem kp_at {pins : List (Addr × Obj)} {σ : St} {H : Hp} {sI : Shared} {B h : Heap} {a : Addr} {Z : Obj → Prop} (hs : X.stack = X.env :: X.outer) (hf : X.env.frame = some X.env.locals) (hex : X.ex = []) (J : Inv X pins σ H sI)
    (nb : ∀ b o, sI.heap.get? b = some o → b ∉ frs X.stack → B.get? b = some o) (fl : HandSPX.FlyingZ B (X.env :: X.outer) a Z h) : KpAt X pins a := by
  obtain ⟨oe, vs, h1, _, h2⟩ := fl.there
  have off : a ∉ frs (X.env :: X.outer) := by
    intro hm
    obtain ⟨_, o', h3, h4⟩ := fl.2.2.1.mem hm
    rw [h1] at h3
    cases h3
    exact h4 _ h2
  have away : sI.heap.get? a = none := by
    cases q : sI.heap.get? a with
    | none => rfl
    | some o =>
      have z := nb a o q (by rw [hs]; exact off)
      rw [fl.2.1] at z
      cases z
  refine ⟨fun z => off ?_, fun z => off ?_, ?_, fun p hp z => ?_⟩
  · rw [z]; exact List.mem_filterMap.mpr ⟨X.env, List.mem_cons_self, hf⟩
  · obtain ⟨env, he, q⟩ := List.mem_filterMap.mp z
    exact List.mem_filterMap.mpr ⟨env, List.mem_cons_of_mem _ he, q⟩
  · cases q : X.s_0.heap.get? a with
    | none => rfl
    | some o =>
      obtain ⟨o', z⟩ := J.base.there a o q (by rw [hex]; simp)
      rw [away] at z
      cases z
  · have q := (J.pin p hp).1
    rw [z, away] at q
    cases q
/-- the suite, then its name goes -/
theorem kp_suite {pins : List (Addr × Obj)} {σ : St} {H : Hp} {s : Shared} {a : Addr} {oe : Obj} {cls : Value} {d : Option Addr} {D : Ends} (hN : X.N.Nodup) (hi : X.N[i]? = some n) (hln : X.env.kindOf n = some .local) (ok : X.Ok)
    (A : KpAt X pins a) (z : Zc cls d oe) (hd : ∃ vs, oe.data = .fields vs)
    (hsu : PSs (X.suite a ((a, oe) :: (X.pn ++ pins))) (s0 :: suite) (ts a cls d)) (I : Inv (X.suite a ((a, oe) :: (X.pn ++ pins))) [] σ H s)
    (h : ts a cls d { nx := fun τ J => J a = none → D.nx (τ.set i none) (upd J a (xo a cls d)), rt := D.rt, bk := fun τ J => D.bk (τ.set i none) J, ct := fun τ J => D.ct (τ.set i none) J } σ H) :
    wpAny (model X.prog X.w) (X.A.mark (some (.ref a))) (execs (s0 :: suite) X.env) (fun f s6 => wpAny (model X.prog X.w) X.A (do bindName X.env n .none; unbindBehindTheSuite X.env n pos') (fun _ s7 => SP X pins D f s7) X.xe s6) (fun _ _ => False) s := by
  obtain ⟨vs, hd⟩ := hd
  refine wpAny_mono (hsu.run [] s σ H _ I h) (fun f s6 q => ?_) fun _ _ z => z
  have gone : ∀ {τ : St} {J : Hp} {R : Shared → Prop}, Inv (X.suite a ((a, oe) :: (X.pn ++ pins))) [] τ J s6 → (J a = none → ∀ s7, Inv X pins (τ.set i none) J s7 → s7.heap.get? a = some oe → R s7) →
      wpAny (model X.prog X.w) X.A (do bindName X.env n .none; unbindBehindTheSuite X.env n pos') (fun _ s7 => R s7) X.xe s6 := by
    intro τ J R S k
    have here : (a, oe) ∈ (X.suite a ((a, oe) :: (X.pn ++ pins))).pn ++ [] := List.mem_append_left _ List.mem_cons_self
    exact gone_ok (X := X.suite a ((a, oe) :: (X.pn ++ pins))) S hN hi hln fun s7 S7 => k (S.pin _ here).2.1 s7 (S7.unsuite ok) (S7.pin _ here).1
  cases f with
  | next =>
    obtain ⟨τ, J, S, k⟩ := q
    exact gone S fun ja s7 I7 e7 => ⟨_, _, I7.adopt e7 z hd ja A.old A.loc A.pin, k ja⟩
  | brk =>
    obtain ⟨τ, J, S, k⟩ := q
    exact gone S fun _ s7 I7 _ => ⟨_, _, I7, k⟩
  | cont =>
    obtain ⟨τ, J, S, k⟩ := q
    exact gone S fun _ s7 I7 _ => ⟨_, _, I7, k⟩
  | ret u =>
    obtain ⟨v, τ, J, S, r, k⟩ := q
    exact gone S fun _ s7 I7 _ => ⟨_, _, _, I7, r, k⟩
theorem ps_try_kp (hs : X.stack = X.env :: X.outer) (hf : X.env.frame = some X.env.locals) (hex : X.ex = []) (hN : X.N.Nodup) (hi : X.N[i]? = some n) (hln : X.env.kindOf n = some .local) (hc : Names X x c)
    (hb : ∀ (W : WX) (pn : List (Addr × Obj)) (xe : Value → Shared → Prop), Takes (X.tr pn xe) W → PassesOwn (model X.prog X.w) X.A X.env xe → PSs (X.tr pn xe) body (tb W))
    (hsu : ∀ (a : Addr) (oe : Obj) (cls : Value) (d : Option Addr) (pn : List (Addr × Obj)), Zc cls d oe → (∃ vs, oe.data = .fields vs) → PSs (X.suite a ((a, oe) :: pn)) (s0 :: suite) (ts a cls d)) :
    PS X (.Try body [.ExceptHandler (some (.Name x np)) (some n) (s0 :: suite) pos'] [] [] pos) (fun D σ H => tb (wKp X.K c i ts D) D σ H) := by
  refine ⟨fun pins s σ H D I h => wpAny_Try_except ?_⟩
  have run := (hb (wKp X.K c i ts D) (X.pn ++ pins) (fun e t => wpAny (model X.prog X.w) X.A (noteFrame e X.env) (fun _ t2 => wpAny (model X.prog X.w) X.A (setFlight e none) (fun _ t3 =>
    wpAny (model X.prog X.w) X.A (handleBy e X.env [.ExceptHandler (some (.Name x np)) (some n) (s0 :: suite) pos']) (SP X pins D) X.xe t3) X.xe t2) X.xe t) ?tk PassesOwn.looking).run [] s σ H D (I.toTry _) h
  case tk =>
    rintro u s' ⟨a, B, sI, pins', τ, J, cls, d, rfl, J', nb, up, sky, na, os, ag, hm, hyes⟩
    have I' : Inv X pins τ J sI := J'.ofTry I.ok
    have fr : X.A.frames = some (X.env :: X.outer) := by rw [I.ok.frames, hs]
    refine Sky.land Zc.steady fr hf (show Sky B (X.env :: X.outer) a (Zc cls d) X.env.locals s'.heap by rw [← hs]; exact sky) fun h3 fl3 up3 => ?_
    have A := kp_at hs hf hex I' nb fl3
    have I3 : Inv X pins τ J { s' with heap := h3 } := I'.landed nb fl3.1 (up.trans up3) os ag
    obtain ⟨o3, v3, e3, z3, d3⟩ := fl3.there
    have S3 := I3.suite e3 d3 na A.loc A.fs
    refine wpAny_handleBy_cons (codeAny_handlers_test ?_) (by intro q; cases q)
    have look := PySem.W.exm_one (M := model X.prog X.w) I3.kIn (fun A' Q' E' t k q => wpAny_typeOf_ref (k _ _ e3) (by rw [z3.1]; exact q)) hm
    have clause : ∀ {Q : Value → Shared → Prop} {E : Value → Shared → Prop}, Q c { s' with heap := h3 } → wpAny (model X.prog X.w) (X.A.mark (some (.ref a))) (eval (.Name x np) X.env) Q E { s' with heap := h3 } := by
      intro Q E q
      obtain ⟨hg, hdbg, hmg | ⟨hmg, hv, hnn⟩⟩ := hc
      · exact ld_glob (X := X.suite a ((a, o3) :: (X.pn ++ pins))) S3 hg hmg q hdbg
      · exact ld_blt (X := X.suite a ((a, o3) :: (X.pn ++ pins))) S3 hg hmg hv q hnn hdbg
    refine clause (look.here (codeAny_handlers_suite_as (HandSPX.lands_againZ fl3 fun h4 fl4 up4 => ?_)))
    have I4 : Inv X pins τ J { s' with heap := h4 } := I'.landed nb fl4.1 ((up.trans up3).trans up4) os ag
    obtain ⟨o4, v4, e4, z4, d4⟩ := fl4.there
    refine store_ok (X := X.suite a ((a, o4) :: (X.pn ++ pins))) (v := .ref a) (I4.suite e4 d4 na A.loc A.fs) hN hi (.inl hln) rfl (fun s5 S5 => ?_) (.inr hln)
    exact wpAny_mono (kp_suite hN hi hln I.ok A z4 ⟨_, d4⟩ (hsu a o4 cls d (X.pn ++ pins) z4 ⟨_, d4⟩) S5 (hyes a na)) (fun f s6 q => q) fun _ _ z => z.elim
  refine wpAny_mono run (fun f s1 q => ?_) fun e s1 he => he
  cases f with
  | next =>
    obtain ⟨τ, J, S, k⟩ := q
    exact wpAny_execs_nil ⟨τ, J, S.ofTry I.ok, k⟩
  | brk =>
    obtain ⟨τ, J, S, k⟩ := q
    exact ⟨τ, J, S.ofTry I.ok, k⟩
  | cont =>
    obtain ⟨τ, J, S, k⟩ := q
    exact ⟨τ, J, S.ofTry I.ok, k⟩
  | ret u =>
    obtain ⟨v, τ, J, S, r, k⟩ := q
    exact ⟨v, τ, J, S.ofTry I.ok, r, k⟩
end
/-! ### what is asked of a kept exception -/
theorem xo_inst {X : Cx} {pins : List (Addr × Obj)} {σ : St} {H : Hp} {s : Shared} {a C dx : Addr} {fs : List (Str × V)} (I : Inv X pins σ H s) (h : H a = some (xo a (.ref C) (some dx))) (hd : H dx = some (.xd fs)) :
    ∃ (oe od : Obj) (mA : Str → Option Value), PySem.W.InstAt s.heap a oe C (some od) ∧ (∀ name, PySem.W.lookIn name od = some (mA name)) ∧ ∀ f, RelO (fs.lookup f) (mA f) := by
  obtain ⟨oe, vs, h1, h2, h3⟩ := xo_at I.hok h
  have hx : ObjOk X.prog X.w H s.heap dx (.xd fs) := I.hok dx _ hd
  obtain ⟨mA, hns, hr⟩ := hx
  obtain ⟨od, ho, hl⟩ := lookIn_ns hns
  exact ⟨oe, od, mA, ⟨h1, h2.1, by unfold PySem.W.notCls; rw [h3] <;> rfl, by rw [h2.2]; exact ho⟩, hl, hr⟩
/-- e.f -/
def tXk (K : PySem.W.Frag) (f : Str) (te : TE) : TE := fun σ H Q => te σ H fun x H1 => ∃ (a C dx : Addr) (fs : List (Str × V)) (v : V), x = .ref a ∧ H1 a = some (xo a (.ref C) (some dx)) ∧ H1 dx = some (.xd fs) ∧ XfC K C ∧ PySem.W.findIn K (.ref C) f = some none ∧ fs.lookup f = some v ∧ Q v H1
theorem pe_xk {X : Cx} {e : Expr} {te : TE} {pos : Pos} {f : Str} (he : PE X e te) (hb : attributeBase e f X.env (eval e X.env) = eval e X.env := by rfl) : PE X (.Attribute e f pos) (tXk X.K f te) := by
  refine ⟨fun pins s σ H Q I h => attr_of hb (thn (he.run pins s σ H _ I h) fun u s1 hh => ?_)⟩
  obtain ⟨x, H1, I1, rx, a, C, dx, fs, v, rfl, ea, ed, T, hno, hv, q⟩ := hh
  obtain rfl : u = Value.ref a := rx
  obtain ⟨oe, od, mA, J, hl, hr⟩ := xo_inst I1 ea ed
  obtain ⟨w, hw, rw'⟩ := RelO.some_of (v := v) (o := mA f) (by rw [← hv]; exact hr f)
  exact HandSPX.exc_get I1.kIn J T.ga T.gg T.exC (PySem.W.findObj_own T.hdC hno rfl (by rw [hl, hw])) (handed_of rw') ⟨v, H1, I1.tok _, rw', q⟩
/-- isinstance(e, c) -/
def rIsK (K : PySem.W.Frag) : List V → Hp → VK → Prop := fun xs H Q => ∃ (a C dx : Addr) (fs : List (Str × V)) (c : V) (cv : Value) (b : Bool), xs = [.ref a, c] ∧ ClsV c cv ∧ H a = some (xo a (.ref C) (some dx)) ∧ H dx = some (.xd fs) ∧ ExcC K C ∧ PySem.W.kitOne K (.ref C) cv = some b ∧ Q (.bl b) H
theorem call_isK {X : Cx} : CallR X (.builtin "isinstance") (rIsK X.K) := by
  intro pins s σ H xs us Q I r h
  obtain ⟨a, C, dx, fs, c, cv, b, rfl, hc, ea, ed, T, e, q⟩ := h
  obtain ⟨u1, u2, rfl, r1, r2⟩ := vals2 r
  obtain rfl : u1 = Value.ref a := r1
  obtain rfl := hc.eq r2
  obtain ⟨oe, od, mA, J, _, _⟩ := xo_inst I ea ed
  obtain ⟨cd, hcd, _⟩ := PySem.W.any_some T.hd
  have kx : PySem.W.KitX X.K (.ref a) (.ref C) (fun h => PySem.W.InstAt h a oe C (some od)) := PySem.W.kitx_exc (by rw [hcd]; rfl) T.hg T.hk T.hs T.ha T.hn T.ht T.hm
  exact PySem.W.kia_one kx I.kIn J e (fun z => nomatch z) fun tk => ⟨.bl b, H, I.tok tk, rfl, q⟩
end L2

set_option Elab.async false
set_option linter.all false
set_option maxRecDepth 100000
set_option maxHeartbeats 2000000
namespace DL
open PySem PySem.Spec PyProof.Rows L2
/-! ### a def keeps its promise over data -/
def startD (N : List Str) (ds : List D) : DS := ds.map (fun d => some (.d d)) ++ List.replicate (N.length - ds.length) none
theorem startD_get {N : List Str} {ds : List D} {i : Nat} {x : Sl} (h : (startD N ds)[i]? = some (some x)) : ∃ d, x = .d d ∧ ds[i]? = some d := by
  unfold startD at h
  by_cases hi : i < ds.length
  · rw [List.getElem?_append_left (by rw [List.length_map]; exact hi), List.getElem?_map] at h
    cases e : ds[i]? with
    | none => rw [e] at h; cases h
    | some d => rw [e] at h; cases h; exact ⟨d, rfl, rfl⟩
  · rw [List.getElem?_append_right (by rw [List.length_map]; omega)] at h
    have := List.mem_of_getElem? h
    rw [List.mem_replicate] at this
    cases this.2
theorem start_get {N : List Str} {vs : List V} {i : Nat} {v : V} (h : vs[i]? = some v) : (L2.start N vs)[i]? = some (some v) := by
  unfold L2.start
  rw [List.getElem?_append_left (by rw [List.length_map]; exact lt_of_get h), List.getElem?_map, h]
  rfl
theorem rep_start {K : PySem.W.Frag} {H F : Hp} {M : MH} {N : List Str} {vs : List V} {ds : List D} (e : Ex F H) (m : ∀ a mo, M a = some mo → F a = none ∧ MoR K F H a mo) (r : Rs K F vs ds) :
    Rep ⟨K, H, F, M⟩ F (startD N ds) M (L2.start N vs) H where
  fr := ⟨e, Ex.refl F, fun a o h _ => h, fun a h => .inl h, fun a h => .inl h, fun a h => h, fun a h => h, m⟩
  len := by unfold startD L2.start; rw [List.length_append, List.length_append, List.length_map, List.length_map, List.length_replicate, List.length_replicate, r.length]
  val := fun i x h => by
    obtain ⟨d, h1, h2⟩ := startD_get h
    cases h1
    obtain ⟨v, h3, h4⟩ := r.get h2
    exact ⟨v, start_get h3, h4⟩
  own := fun i xs h => by
    obtain ⟨d, h1, _⟩ := startD_get h
    cases h1
  inj := fun i j xs ys a h => by
    obtain ⟨d, h1, _⟩ := startD_get h
    cases h1
/-- what a def's body is to reach -/
def endsD (Q : Sl → MH → Prop) (E : Addr → List (Str × D) → MH → Prop) : DEnds :=
  ⟨fun _ M => Q (.d .non) M, Q, fun _ _ => False, fun _ _ => False, fun C fs _ M => E C fs M⟩
section
variable {P : Program} {w : World} {K : PySem.W.Frag} {mg : Str → Option Value} {base : Heap}
theorem Fun.okD {x qual : Str} {st : Stmt} {f : Addr} {fd : FuncData} {N ps : List Str} {k : Nat} {sp : SpD} (F : Fun K x qual st f fd) (S : FnScope N ps (defScope st)) (td : DP)
    (len : ∀ ds M Q E, sp ds M Q E → ds.length = ps.length)
    (hbody : ∀ (cdv : Value) (A : Around) (outer : List Env) (s : Shared) (H : Hp) (E : XK) (G : Gd), G.K = K → Room k (A.deeper (envOfC qual (defScope st) s.heap.objs.size f cdv)) →
      PSs (cxOf (L2.CX P w) P w K mg base N qual (defScope st) f cdv A outer s H E) (defBody st) (LS G (fun cls d _ H => E cls d H) td))
    (hread : ∀ ds M Q E, sp ds M Q E → td (endsD Q E) (startD N ds) M) : FnOk P w K mg base (L2.CX P w) (k + 1) f fd ps (LSp K sp) :=
  F.okX S (fun vs H Q E ⟨F, M, ds, Qd, Ed, e, m, r, h, _⟩ => r.length.trans (len ds M Qd Ed h)) fun cdv A outer s H vs Q E hr ⟨F, M, ds, Qd, Ed, e, m, r, h, k, x⟩ =>
    ⟨_, hbody cdv A outer s H E ⟨K, H, F, M⟩ rfl hr, F, _, M, _, rep_start e m r, hread ds M Qd Ed h,
      fun F' δ' M' σ' H' r' e' q' => k (.d .non) .non F' M' H' r'.fr R.non q', fun z v F' M' H' f' r' q' => k z v F' M' H' f' r' q', fun _ _ _ _ _ _ _ z => z.elim, fun _ _ _ _ _ _ _ z => z.elim,
      fun δ σ C fs F' M' H' dx fv r' hd hf h0 q' => x C fs F' M' H' dx fv r'.fr hd hf h0 q'⟩
end
/-! ### raise C(e), C an own class with a field -/
structure XcC (K : PySem.W.Frag) (mg : Str → Option Value) (x : Str) (C fI : Addr) : Prop where
  mg : mg x = some (.ref C)
  ox : OexC K C
  iC : PySem.W.findIn K (.ref C) "__init__" = some (some (.ref fI))
  tI : PySem.W.typeIn K (.ref fI) = some (.type "function")
section
variable {X : Cx} {G : Gd} {W : WX} {e : Expr} {es : List Expr} {pos p : Pos} {t : DX}
def sRaise (C : Addr) (f : Str) (Pr : D → Prop) (t : DX) : DP := fun E δ M => t δ M (fun d M' => Pr d ∧ E.ex C [(f, d)] δ M') E.ex
theorem s_raise {x f : Str} {C fI : Addr} {k : Nat} {fd : FuncData} {ps : List Str} {Pv : V → Prop} {Pr : D → Prop} (T : XcC X.K X.mg x C fI) (FI : FnOk X.prog X.w X.K X.mg X.base CX0 k fI fd ps (spXI X.K C f Pv)) (hr : Room (k + 1) X.A)
    (hb : Binds X.K fd ps []) (hP : ∀ K F v d, R K F v d → Pr d → Pv v) (hc : X.calm = true) (tk : Takes X W) (hg : Gl X x) (he : PE X e (LV G W t)) (hdb : (x == ("__debug__" : Str)) = false := by decide)
    (hs : starEach (e :: []) X.env = (false, eval e X.env) :: starEach [] X.env := by rfl) (hpl : (backTo p (starEach [] X.env)).any (·.1) = false := by rfl) {p1 : Pos} :
    PS X (.Raise (some (.Call (.Name x p1) [e] [] p)) none pos) (LS G W (sRaise C f Pr t)) :=
  ps_imp (ps_raise hc tk (pmk_oex T.ox T.iC T.tI FI hr hb .nil (fun _ _ _ _ _ _ _ z => z.elim) hg T.mg (pa_cons he pa_nil hs) hdb hs hpl)) fun D σ H ⟨F, δ, M, E, rep, q, ok⟩ =>
    ⟨F, δ, M, _, _, rep, q, fun d v F1 M1 H1 r1 e1 s1 ⟨hp, q1⟩ => by
      refine ⟨by show 1 ≤ 1000; decide, fun a ha => ⟨a, v, rfl, upd_same, hP _ _ _ _ s1 hp, fun dx hdx hne => ?_⟩⟩
      rw [upd_ne hne] at hdx
      refine ⟨rfl, dx, [(f, v)], upd_same, by rw [upd_ne hne, upd_same], hdx, ?_⟩
      have eq : upd (del (upd (upd (upd H1 a (exo a C none)) dx (exd dx [(f, v)])) a (exo a C (some dx))) a) dx (.xd [(f, v)]) = upd H1 dx (.xd [(f, v)]) := by
        funext b
        by_cases hb : b = dx
        · subst hb; rw [upd_same, upd_same]
        · rw [upd_ne hb, upd_ne hb]
          by_cases hba : b = a
          · subst hba; rw [del_same, ha]
          · rw [del_ne hba, upd_ne hba, upd_ne hb, upd_ne hba]
      rw [eq]
      exact ok.ex δ σ C [(f, d)] F1 M1 _ dx [(f, v)] (r1.addH hdx _) upd_same (.cons s1 .nil) (r1.fr.h0 hdx) q1, ok.ex δ σ⟩
/-! ### try -/
/-- a thing of H that nobody changes is known to be frozen -/
theorem Rep.intoF {F : Hp} {δ : DS} {M : MH} {σ : L2.St} {H : Hp} {a : Addr} {fv : List (Str × V)} (r : Rep G F δ M σ H) (h : H a = some (.xd fv)) (h0 : G.H0 a = none) : ∃ F', Rep G F' δ M σ H ∧ Ex F F' ∧ F' a = some (.xd fv) := by
  have ma : M a = none := by
    cases q : M a with
    | none => rfl
    | some mo =>
      have z := (r.fr.mem a mo q).2
      cases mo with
      | lst xs => obtain ⟨vs, z1, _⟩ := z; rw [h] at z1; cases z1
      | ins C fs => obtain ⟨vs, _, z1, _⟩ := z; rw [h] at z1; cases z1
      | exc C fs =>
        obtain ⟨dx, fv2, z1, _⟩ := z
        rw [h] at z1
        have z2 := Option.some.inj z1
        have z3 : HO.xd fv = HO.ext _ := z2
        cases z3
      | dk kvs => obtain ⟨vs, z1, _⟩ := z; rw [h] at z1; cases z1
  have noOwn : ∀ (i : Nat) (ys : List D), δ[i]? = some (some (Sl.own ys)) → ∀ b, σ[i]? = some (some (V.ref b)) → b ≠ a := fun i ys z b hb q => by
    obtain ⟨c, g1, us, g2, _⟩ := r.own i ys z
    rw [hb] at g1
    cases g1
    rw [q, h] at g2
    cases g2
  by_cases hf : F a = none
  · have e : Ex F (upd F a (.xd fv)) := Ex.new hf
    refine ⟨upd F a (.xd fv), ⟨⟨fun b u z => ?_, r.fr.ex0.trans e, r.fr.keep, fun b z => ?_, r.fr.newM, r.fr.dom, r.fr.domM, fun b mo z => ?_⟩, r.len, fun i x z => ?_, fun i xs z => ?_, r.inj⟩, e, upd_same⟩
    · by_cases hb : b = a
      · subst hb; rw [upd_same] at z; rw [h]; exact z
      · rw [upd_ne hb] at z; exact r.fr.ex b u z
    · by_cases hb : b = a
      · subst hb; exact .inr h0
      · rw [upd_ne hb] at z; exact r.fr.newF b z
    · have hb : b ≠ a := fun q => by rw [q, ma] at z; cases z
      obtain ⟨q1, q2⟩ := r.fr.mem b mo z
      exact ⟨by rw [upd_ne hb]; exact q1, q2.mono e rfl fun _ _ _ => rfl⟩
    · obtain ⟨v, q1, q2⟩ := r.val i x z
      exact ⟨v, q1, q2.mono e⟩
    · obtain ⟨b, q1, q2⟩ := r.own i xs z
      have hb := noOwn i xs z b q1
      obtain ⟨vs, g1, g2, g3, g4, g5⟩ := id q2
      exact ⟨b, q1, q2.mono e rfl (by rw [upd_ne hb]; exact g3) g4⟩
  · cases q : F a with
    | none => exact absurd q hf
    | some o =>
      have := r.fr.ex a o q
      rw [h] at this
      cases this
      exact ⟨F, r, Ex.refl F, q⟩
/-- the ground with what is frozen by now -/
theorem Fra.reF {F : Hp} {M : MH} {H : Hp} (r : Fra G F M H) : Fra ⟨G.K, G.H0, F, G.M0⟩ F M H :=
  ⟨r.ex, Ex.refl F, r.keep, fun _ h => .inl h, r.newM, r.dom, r.domM, r.mem⟩
theorem Fra.offF {F F' : Hp} {M M' : MH} {H H' : Hp} (r : Fra G F M H) (q : Fra ⟨G.K, G.H0, F, G.M0⟩ F' M' H') : Fra G F' M' H' ∧ Ex F F' :=
  ⟨⟨q.ex, r.ex0.trans q.ex0, q.keep, fun a h => by
    rcases q.newF a h with z | z
    · exact r.newF a z
    · exact .inr z, q.newM, q.dom, q.domM, q.mem⟩, q.ex0⟩
theorem Rep.reF {F : Hp} {δ : DS} {M : MH} {σ : L2.St} {H : Hp} (r : Rep G F δ M σ H) : Rep ⟨G.K, G.H0, F, G.M0⟩ F δ M σ H := ⟨r.fr.reF, r.len, r.val, r.own, r.inj⟩
theorem Fra.offR {F F' : Hp} {δ' : DS} {M M' : MH} {σ' : L2.St} {H H' : Hp} (r : Fra G F M H) (q : Rep ⟨G.K, G.H0, F, G.M0⟩ F' δ' M' σ' H') : Rep G F' δ' M' σ' H' ∧ Ex F F' :=
  ⟨⟨(r.offF q.fr).1, q.len, q.val, q.own, q.inj⟩, (r.offF q.fr).2⟩
theorem RetR.off {F F' : Hp} {M' : MH} {H' : Hp} {v : V} {x : Sl} (h : RetR ⟨G.K, G.H0, F, G.M0⟩ F' M' H' v x) : RetR G F' M' H' v x := by
  cases x with
  | d x => exact h
  | own xs => exact h
/-- try: body; except B as n: suite (n in slot i); whatever is raised is a B -/
def tryX (Sub : Addr → Prop) (i : Nat) (u : DP) (E : DEnds) : XP := fun C fs δ' M' => Sub C ∧ ∀ a, M' a = none →
  u (DEnds.mk (fun δ2 M2 => M2 a = none → E.nx (δ2.set i none) (mu M2 a (.exc C fs))) (fun _ _ => False) (fun _ _ => False) (fun _ _ => False) NoX) (δ'.set i (some (.d (.ref a)))) M'
def sTry (Sub : Addr → Prop) (i : Nat) (t u : DP) : DP := fun E δ M => t { E with ex := tryX Sub i u E } δ M
def tTryX (K : PySem.W.Frag) (W' : WX) (t : DP) : TS := fun D σ H => ∃ G : Gd, G.K = K ∧ LS G W' t D σ H
theorem s_try {x n : Str} {c : Value} {i : Nat} {body suite : List Stmt} {s0 : Stmt} {np pos' : Pos} {t u : DP} (hs : X.stack = X.env :: X.outer) (hf : X.env.frame = some X.env.locals) (hex : X.ex = []) (hN : X.N.Nodup) (hi : X.N[i]? = some n) (hln : X.env.kindOf n = some .local) (hc : Names X x c)
    (hb : ∀ (G' : Gd), G'.K = G.K → ∀ (W' : WX) (pn : List (Addr × Obj)) (xe : Value → Shared → Prop), Takes (X.tr pn xe) W' → PassesOwn (model X.prog X.w) X.A X.env xe → PSs (X.tr pn xe) body (LS G' W' t))
    (hsu : ∀ (a : Addr) (oe : Obj) (pn : List (Addr × Obj)), PSs (X.suite a ((a, oe) :: pn)) (s0 :: suite) (LS G W0 u)) :
    PS X (.Try body [.ExceptHandler (some (.Name x np)) (some n) (s0 :: suite) pos'] [] [] pos) (LS G W (sTry (fun C => PySem.W.exmOne X.K (.ref C) c = some true) i t u)) :=
  ps_imp (ps_try_kp (ts := fun a cls d => LS G W0 u) (tb := fun W' => tTryX G.K W' t) hs hf hex hN hi hln hc (fun W' pn xe tk po => ⟨fun pins s σ H D I ⟨G', hk, z⟩ => (hb G' hk W' pn xe tk po).run pins s σ H D I z⟩) fun a oe cls d pn _ _ => hsu a oe pn) fun D σ H ⟨F, δ, M, E, rep, q, ok⟩ =>
    ⟨⟨G.K, G.H0, F, G.M0⟩, rfl, F, δ, M, _, rep.reF, q,
      fun F' δ' M' σ' H' r' e' q' => ok.nx F' δ' M' σ' H' (rep.fr.offR r').1 e' q',
      fun z v F' M' H' f' r' q' => ok.rt z v F' M' H' (rep.fr.offF f').1 r'.off q',
      fun F' δ' M' σ' H' r' e' q' => ok.bk F' δ' M' σ' H' (rep.fr.offR r').1 e' q',
      fun F' δ' M' σ' H' r' e' q' => ok.ct F' δ' M' σ' H' (rep.fr.offR r').1 e' q',
      fun δ' σ' C fs F' M' H' dx fv r0 hd hfd h0 ⟨hsub, hq⟩ => ⟨hsub, fun a ha => by
        obtain ⟨r', e'⟩ := rep.fr.offR r0
        obtain ⟨F2, r2, e2, hfx⟩ := r'.intoF hd h0
        refine ⟨F2, _, M', _, r2.setD (R.ref a), hq a (r'.fr.m_none ha), fun F3 δ3 M3 σ3 H3 r3 e3 q3 ja => ?_, fun _ _ _ _ _ _ _ z => z.elim, fun _ _ _ _ _ _ _ z => z.elim, fun _ _ _ _ _ _ _ z => z.elim, fun _ _ => xok0⟩
        have m3 := r3.fr.m_none ja
        have r4 := (r3.setNone (i := i) (y := none)).addM (o := xo a (.ref C) (some dx)) ja (mo := .exc C fs) ⟨dx, fv, upd_same, e3 _ _ hfx, hfd.mono (e2.trans e3)⟩
        exact ok.nx F3 _ _ _ _ r4 (e'.trans (e2.trans e3)) (q3 m3)⟩⟩
/-! ### kept exceptions asked -/
def dXk (f : Str) (P : Addr → Prop) (t : DX) : DE := fun δ M Q E => t δ M (fun x M1 => ∃ a C fs d, x = .ref a ∧ M1 a = some (.exc C fs) ∧ P C ∧ fs.lookup f = some d ∧ Q (.d d) M1) E
theorem Fds.get {K : PySem.W.Frag} {F : Hp} {f : Str} : ∀ {fv : List (Str × V)} {fs : List (Str × D)} {d : D}, Fds K F fv fs → fs.lookup f = some d → ∃ v, fv.lookup f = some v ∧ R K F v d
  | _, _, _, .nil, h => by cases h
  | (g, v) :: fv, (_, d) :: fs, d', .cons r rs, h => by
    by_cases e : f = g
    · subst e
      rw [lookup_put, if_pos rfl]
      have h' : List.lookup f ((f, d) :: fs) = some d' := h
      simp [List.lookup] at h'
      subst h'
      exact ⟨v, rfl, r⟩
    · have h' : List.lookup f ((g, d) :: fs) = some d' := h
      have e' : (f == g) = false := by simpa using e
      simp [List.lookup, e'] at h'
      rw [lookup_put, if_neg e]
      exact Fds.get rs h'
/-- the class's facts for e.f -/
def XkC (K : PySem.W.Frag) (f : Str) (C : Addr) : Prop := XfC K C ∧ PySem.W.findIn K (.ref C) f = some none
theorem d_xk {f : Str} {t : DX} (hK : X.K = G.K) (he : PE X e (LO G W t)) (hb : attributeBase e f X.env (eval e X.env) = eval e X.env := by rfl) : PE X (.Attribute e f pos) (LE G W (dXk f (XkC G.K f) t)) :=
  pe_imp (pe_xk he hb) fun σ H Q ⟨F, δ, M, Qd, Ed, rep, q, k, x⟩ => ⟨F, δ, M, _, Ed, rep, q, fun y v F1 M1 H1 r1 e1 s1 ⟨a, C, fs, d, hy, hm, hP, hl, q1⟩ => by
    subst hy
    obtain rfl := (s1.val (fun _ z => by cases z)).ref_inv
    obtain ⟨dx, fv, z1, z2, z3⟩ := (r1.fr.mem a _ hm).2
    obtain ⟨u, g1, g2⟩ := z3.get hl
    rw [hK]
    exact ⟨a, C, dx, fv, u, rfl, z1, r1.fr.ex _ _ z2, hP.1, hP.2, g1, k (.d d) u F1 M1 H1 r1 e1 g2 q1⟩, x⟩
/-- isinstance(e, C) of a kept exception -/
def dIsX (P : Addr → Bool → Prop) (t : DX) : DT := fun δ M Q E => t δ M (fun x M1 => ∃ a C fs b, x = .ref a ∧ M1 a = some (.exc C fs) ∧ P C b ∧ Q b M1) E
def IsxC (K : PySem.W.Frag) (cv : Value) (C : Addr) (b : Bool) : Prop := ExcC K C ∧ PySem.W.kitOne K (.ref C) cv = some b
theorem d_isX {T : Str} {pT pI : Pos} {t : DX} {c : V} {cv : Value} {a : Expr} (hk : X.K = G.K) (hg : Gl X "isinstance") (hm : X.mg "isinstance" = none) (hT : PE X (.Name T pT) (tC c)) (hcv : ClsV c cv) (ha : PE X a (LO G W t))
    (he : starEach [a, .Name T pT] X.env = (false, eval a X.env) :: starEach [.Name T pT] X.env := by rfl) (he2 : starEach [.Name T pT] X.env = (false, eval (.Name T pT) X.env) :: starEach [] X.env := by rfl)
    (hpl : (backTo pos (starEach [.Name T pT] X.env)).any (·.1) = false := by rfl) :
    PE X (.Call (.Name "isinstance" pI) [a, .Name T pT] [] pos) (LE G W (dOfT (dIsX (IsxC G.K cv) t))) :=
  pe_imp (pe_callB call_isK hg hm (by decide +kernel) (pa_cons ha (pa_cons hT pa_nil he2) he) (by decide) (by decide) he hpl) fun σ H Q ⟨F, δ, M, Qd, Ed, rep, q, k, x⟩ => ⟨F, δ, M, _, Ed, rep, q, fun y v F1 M1 H1 r1 e1 s1 ⟨a, C, fs, b, hy, hm, hP, q1⟩ => by
    subst hy
    obtain rfl := (s1.val (fun _ z => by cases z)).ref_inv
    obtain ⟨dx, fv, z1, z2, z3⟩ := (r1.fr.mem a _ hm).2
    rw [hk]
    exact ⟨a, C, dx, fv, c, cv, b, rfl, hcv, z1, r1.fr.ex _ _ z2, hP.1, hP.2, k (.d (.bl b)) _ F1 M1 H1 r1 e1 (R.bl b) q1⟩, x⟩
end
end DL

set_option Elab.async false
set_option linter.all false
set_option maxRecDepth 100000
set_option maxHeartbeats 2000000
namespace DL
open PySem PySem.Spec PyProof.Rows L2
section
variable {X : Cx} {G : Gd} {W : WX} {e a b c : Expr} {es : List Expr} {pos p : Pos} {ta tb tc : DX}
/-! ### the rules by their names -/
def vVar (i : Nat) : DX := fun δ M Q _ => ∃ x, δ[i]? = some (some (.d x)) ∧ Q x M
def vC (d : D) : DX := fun _ M Q _ => Q d M
theorem v_var {i : Nat} (h : PE X e (tVar i)) : PE X e (LV G W (vVar i)) :=
  pe_imp h fun σ H Q ⟨F, δ, M, Qd, Ed, rep, ⟨x, hx, q⟩, k, _⟩ => by
    obtain ⟨v, h1, h2⟩ := rep.val i x hx
    exact ⟨v, h1, k x v F M H rep (Ex.refl F) h2 q⟩
theorem v_con {v : V} {d : D} (h : PE X e (tC v)) (r : ∀ K F, R K F v d) : PE X e (LV G W (vC d)) :=
  pe_imp h fun σ H Q ⟨F, δ, M, Qd, Ed, rep, q, k, x⟩ => k d v F M H rep (Ex.refl F) (r _ _) q
theorem v_int {i : Int} {j pos} : PE X (.Constant (.int i) j pos) (LV G W (vC (.int i))) := v_con pe_int fun _ _ => .int i
theorem v_bl {i : Bool} {j pos} : PE X (.Constant (.bool i) j pos) (LV G W (vC (.bl i))) := v_con pe_bl fun _ _ => .bl i
theorem v_str {i : Str} {j pos} : PE X (.Constant (.str i) j pos) (LV G W (vC (.str i))) := v_con pe_str fun _ _ => .str i
theorem v_non {j pos} : PE X (.Constant .none j pos) (LV G W (vC .non)) := v_con pe_non fun _ _ => .non
/-- a constant of the module: a text, an int -/
theorem v_glob {x : Str} {v : V} {u : Value} {d : D} (hg : Gl X x) (hm : X.mg x = some u) (r : RelV v u) (rd : ∀ K F, R K F v d) (hd : (x == ("__debug__" : Str)) = false := by decide) : PE X (.Name x pos) (LV G W (vC d)) := v_con (pe_glob hg hm r hd) rd
theorem t_eq (hK : X.K = G.K) (hu : X.A.units + 65 < cLine) (ha : PE X a (LO G W ta)) (hb : PE X b (LO G W tb)) : PT X (.Compare a [.Eq] [b] pos) (LT G W (dCmp fEq ta tb)) := t_cmp (op_eqD (by omega)) (by rw [hK]; exact cl_eq) ha hb (nomark _)
theorem t_ne (hK : X.K = G.K) (hu : X.A.units + 65 < cLine) (ha : PE X a (LO G W ta)) (hb : PE X b (LO G W tb)) : PT X (.Compare a [.NotEq] [b] pos) (LT G W (dCmp fNe ta tb)) := t_cmp (op_neD (by omega)) (by rw [hK]; exact cl_ne) ha hb (nomark _)
theorem t_lt (ha : PE X a (LO G W ta)) (hb : PE X b (LO G W tb)) : PT X (.Compare a [.Lt] [b] pos) (LT G W (dCmp fLt ta tb)) := t_cmp op_lt cl_lt ha hb (nomark _)
theorem t_le (ha : PE X a (LO G W ta)) (hb : PE X b (LO G W tb)) : PT X (.Compare a [.LtE] [b] pos) (LT G W (dCmp fLe ta tb)) := t_cmp op_le cl_le ha hb (nomark _)
theorem t_gt (ha : PE X a (LO G W ta)) (hb : PE X b (LO G W tb)) : PT X (.Compare a [.Gt] [b] pos) (LT G W (dCmp fGt ta tb)) := t_cmp op_gt cl_gt ha hb (nomark _)
theorem t_ge (ha : PE X a (LO G W ta)) (hb : PE X b (LO G W tb)) : PT X (.Compare a [.GtE] [b] pos) (LT G W (dCmp fGe ta tb)) := t_cmp op_ge cl_ge ha hb (nomark _)
theorem t_in (hK : X.K = G.K) (hu : X.A.units + 65 < cLine) (ha : PE X a (LO G W ta)) (hb : PE X b (LO G W tb)) (hm : behindInMarks .In b = false := by rfl) : PT X (.Compare a [.In] [b] pos) (LT G W (dCmp fIn ta tb)) := t_cmp (op_inU hu) (by rw [hK]; exact cl_in) ha hb hm
theorem t_notIn (hK : X.K = G.K) (hu : X.A.units + 65 < cLine) (ha : PE X a (LO G W ta)) (hb : PE X b (LO G W tb)) (hm : behindInMarks .NotIn b = false := by rfl) : PT X (.Compare a [.NotIn] [b] pos) (LT G W (dCmp fNotIn ta tb)) := t_cmp (op_notInU hu) (by rw [hK]; exact cl_notIn) ha hb hm
theorem t_is (ha : PE X a (LO G W ta)) (hb : PE X b (LO G W tb)) : PT X (.Compare a [.Is] [b] pos) (LT G W (dCmp fIs ta tb)) := t_cmp op_isN cl_is ha hb (nomark _)
theorem t_isNot (ha : PE X a (LO G W ta)) (hb : PE X b (LO G W tb)) : PT X (.Compare a [.IsNot] [b] pos) (LT G W (dCmp fIsNot ta tb)) := t_cmp op_notN cl_isNot ha hb (nomark _)
theorem d_eq (hK : X.K = G.K) (hu : X.A.units + 65 < cLine) (ha : PE X a (LO G W ta)) (hb : PE X b (LO G W tb)) : PE X (.Compare a [.Eq] [b] pos) (LE G W (dOfT (dCmp fEq ta tb))) := d_cmp (op_eqD (by omega)) (by rw [hK]; exact cl_eq) ha hb (nomark _)
theorem d_ne (hK : X.K = G.K) (hu : X.A.units + 65 < cLine) (ha : PE X a (LO G W ta)) (hb : PE X b (LO G W tb)) : PE X (.Compare a [.NotEq] [b] pos) (LE G W (dOfT (dCmp fNe ta tb))) := d_cmp (op_neD (by omega)) (by rw [hK]; exact cl_ne) ha hb (nomark _)
theorem d_lt (ha : PE X a (LO G W ta)) (hb : PE X b (LO G W tb)) : PE X (.Compare a [.Lt] [b] pos) (LE G W (dOfT (dCmp fLt ta tb))) := d_cmp op_lt cl_lt ha hb (nomark _)
theorem d_le (ha : PE X a (LO G W ta)) (hb : PE X b (LO G W tb)) : PE X (.Compare a [.LtE] [b] pos) (LE G W (dOfT (dCmp fLe ta tb))) := d_cmp op_le cl_le ha hb (nomark _)
theorem d_gt (ha : PE X a (LO G W ta)) (hb : PE X b (LO G W tb)) : PE X (.Compare a [.Gt] [b] pos) (LE G W (dOfT (dCmp fGt ta tb))) := d_cmp op_gt cl_gt ha hb (nomark _)
theorem d_ge (ha : PE X a (LO G W ta)) (hb : PE X b (LO G W tb)) : PE X (.Compare a [.GtE] [b] pos) (LE G W (dOfT (dCmp fGe ta tb))) := d_cmp op_ge cl_ge ha hb (nomark _)
theorem d_in (hK : X.K = G.K) (hu : X.A.units + 65 < cLine) (ha : PE X a (LO G W ta)) (hb : PE X b (LO G W tb)) (hm : behindInMarks .In b = false := by rfl) : PE X (.Compare a [.In] [b] pos) (LE G W (dOfT (dCmp fIn ta tb))) := d_cmp (op_inU hu) (by rw [hK]; exact cl_in) ha hb hm
theorem d_notIn (hK : X.K = G.K) (hu : X.A.units + 65 < cLine) (ha : PE X a (LO G W ta)) (hb : PE X b (LO G W tb)) (hm : behindInMarks .NotIn b = false := by rfl) : PE X (.Compare a [.NotIn] [b] pos) (LE G W (dOfT (dCmp fNotIn ta tb))) := d_cmp (op_notInU hu) (by rw [hK]; exact cl_notIn) ha hb hm
theorem d_is (ha : PE X a (LO G W ta)) (hb : PE X b (LO G W tb)) : PE X (.Compare a [.Is] [b] pos) (LE G W (dOfT (dCmp fIs ta tb))) := d_cmp op_isN cl_is ha hb (nomark _)
theorem d_isNot (ha : PE X a (LO G W ta)) (hb : PE X b (LO G W tb)) : PE X (.Compare a [.IsNot] [b] pos) (LE G W (dOfT (dCmp fIsNot ta tb))) := d_cmp op_notN cl_isNot ha hb (nomark _)
/-! built-ins -/
theorem d_len {t : DA} (hK : X.K = G.K) (hg : Gl X "len") (hm : X.mg "len" = none) (ha : PA X [a] (LAO G W t)) (he : starEach [a] X.env = (false, eval a X.env) :: starEach [] X.env := by rfl) : PE X (.Call (.Name "len" p) [a] [] pos) (LE G W (dCB fLen t)) :=
  d_callB call_len (by rw [hK]; exact cl_len) hg hm (by decide +kernel) ha (by decide) (by decide) he rfl
theorem d_min2 {t : DA} (hc : X.calm = true) (hg : Gl X "min") (hm : X.mg "min" = none) (ha : PA X [a, b] (LAO G W t)) (he : starEach [a, b] X.env = (false, eval a X.env) :: starEach [b] X.env := by rfl) (hpl : (backTo pos (starEach [b] X.env)).any (·.1) = false := by rfl) : PE X (.Call (.Name "min" p) [a, b] [] pos) (LE G W (dCB fMin2 t)) :=
  d_callB (call_min2 hc) cl_min2 hg hm (by decide +kernel) ha (by decide) (by decide) he hpl
theorem d_max2 {t : DA} (hc : X.calm = true) (hg : Gl X "max") (hm : X.mg "max" = none) (ha : PA X [a, b] (LAO G W t)) (he : starEach [a, b] X.env = (false, eval a X.env) :: starEach [b] X.env := by rfl) (hpl : (backTo pos (starEach [b] X.env)).any (·.1) = false := by rfl) : PE X (.Call (.Name "max" p) [a, b] [] pos) (LE G W (dCB fMax2 t)) :=
  d_callB (call_max2 hc) cl_max2 hg hm (by decide +kernel) ha (by decide) (by decide) he hpl
theorem d_intOf {t : DA} (hg : Gl X "int") (hm : X.mg "int" = none) (ha : PA X [a] (LAO G W t)) (he : starEach [a] X.env = (false, eval a X.env) :: starEach [] X.env := by rfl) : PE X (.Call (.Name "int" p) [a] [] pos) (LE G W (dCB fInt t)) :=
  d_callTy call_int1 cl_int1 hg hm (by decide +kernel) ha (by decide) (by decide) he rfl
theorem d_tupleOf {t : DA} (hK : X.K = G.K) (hg : Gl X "tuple") (hm : X.mg "tuple" = none) (ha : PA X [a] (LAO G W t)) (he : starEach [a] X.env = (false, eval a X.env) :: starEach [] X.env := by rfl) : PE X (.Call (.Name "tuple" p) [a] [] pos) (LE G W (dCB fTuple t)) :=
  d_callTy call_tuple_of (by rw [hK]; exact cl_tuple) hg hm (by decide +kernel) ha (by decide) (by decide) he rfl
theorem d_listOf {t : DA} (hK : X.K = G.K) (hg : Gl X "list") (hm : X.mg "list" = none) (ha : PA X [a] (LAO G W t)) (he : starEach [a] X.env = (false, eval a X.env) :: starEach [] X.env := by rfl) : PE X (.Call (.Name "list" p) [a] [] pos) (LE G W (dCB fList t)) :=
  d_callTy call_list_of (by rw [hK]; exact cl_list) hg hm (by decide +kernel) ha (by decide) (by decide) he rfl
theorem d_sum {t : DA} (hK : X.K = G.K) (hc : X.calm = true) (hg : Gl X "sum") (hm : X.mg "sum" = none) (ha : PA X [a] (LAO G W t)) (he : starEach [a] X.env = (false, eval a X.env) :: starEach [] X.env := by rfl) : PE X (.Call (.Name "sum" p) [a] [] pos) (LE G W (dCB fSum t)) :=
  d_callB (cr_sum hc) (by rw [hK]; exact cl_sum) hg hm (by decide +kernel) ha (by decide) (by decide) he rfl
theorem d_all {t : DA} (hK : X.K = G.K) (hc : X.calm = true) (hg : Gl X "all") (hm : X.mg "all" = none) (ha : PA X [a] (LAO G W t)) (he : starEach [a] X.env = (false, eval a X.env) :: starEach [] X.env := by rfl) : PE X (.Call (.Name "all" p) [a] [] pos) (LE G W (dCB fAll t)) :=
  d_callB (cr_all hc) (by rw [hK]; exact cl_all) hg hm (by decide +kernel) ha (by decide) (by decide) he rfl
/-! ### a def that may be called -/
structure Cal (P : Program) (w : World) (K : PySem.W.Frag) (mg : Str → Option Value) (base : Heap) (k : Nat) (x : Str) (ps : List Str) (sp : SpD) : Prop where
  ex : ∃ (f : Addr) (fd : FuncData), FnOk P w K mg base (L2.CX P w) k f fd ps (LSp K sp) ∧ mg x = some (.ref f) ∧ PySem.W.keepIn K (.ref f) = true ∧ Binds K fd ps []
theorem d_cal {k : Nat} {ps : List Str} {sp : SpD} {x : Str} {t : DA} (Y : Cal X.prog X.w X.K X.mg X.base k x ps sp) (hK : X.K = G.K) (hr : Room k X.A) (hg : Gl X x) (tk : Takes X W) (ha : PA X (e :: es) (LA G W t)) (hdb : (x == ("__debug__" : Str)) = false := by decide)
    (he : starEach (e :: es) X.env = (false, eval e X.env) :: starEach es X.env := by rfl) (hpl : (backTo pos (starEach es X.env)).any (·.1) = false := by rfl) :
    PE X (.Call (.Name x p) (e :: es) [] pos) (LE G W (dCall sp t)) := by
  obtain ⟨f, fd, F, hm, hk, hb⟩ := Y.ex
  exact d_call (n := 0) F hK hr hg hm hk hb tk ha hdb he hpl
theorem Cal.imp {P : Program} {w : World} {K : PySem.W.Frag} {mg : Str → Option Value} {base : Heap} {k : Nat} {x : Str} {ps : List Str} {sp sp' : SpD} (Y : Cal P w K mg base k x ps sp) (h : ∀ ds M Q E, sp' ds M Q E → sp ds M Q E) : Cal P w K mg base k x ps sp' := by
  obtain ⟨f, fd, F, r⟩ := Y.ex
  exact ⟨f, fd, F.imp fun vs H Q E ⟨F, M, ds, Qd, Ed, e, m, r, z, y⟩ => ⟨F, M, ds, Qd, Ed, e, m, r, h _ _ _ _ z, y⟩, r⟩
/-! ### while -/
def whD (c : DT) (b : DP) (E : DEnds) : Nat → DS → MH → Prop
  | 0, _, _ => False
  | n + 1, δ, M => c δ M (fun v M1 => if v = true then b { E with nx := whD c b E n, ct := whD c b E n, bk := E.nx } δ M1 else E.nx δ M1) E.ex
def sWhile (c : DT) (b : DP) : DP := fun E δ M => ∃ n, whD c b E n δ M
theorem s_while {body : List Stmt} {t : DT} {u : DP} (hp : PassesOwn (model X.prog X.w) X.A X.env X.xe) (hc : PT X c (LT G W t)) (hb : PSs X body (LS G W u)) : PS X (.While c body [] pos) (LS G W (sWhile t u)) := by
  refine ps_imp (ps_while hp hc hb) fun D σ H ⟨F, δ, M, E, rep, ⟨n, q⟩, ok⟩ => ?_
  refine ⟨fun m σ' H' => ∃ F' δ' M', Rep G F' δ' M' σ' H' ∧ Ex F F' ∧ whD t u E m δ' M', ⟨n, F, δ, M, rep, Ex.refl F, q⟩, ?_⟩
  rintro m σ' H' ⟨F', δ', M', r', e', q'⟩
  cases m with
  | zero => exact q'.elim
  | succ m =>
    refine ⟨F', δ', M', _, _, r', q', fun b F1 M1 H1 r1 e1 q1 => ?_, ok.ex δ' σ'⟩
    cases b with
    | false => exact ok.nx F1 δ' M1 σ' H1 r1 (e'.trans e1) q1
    | true =>
      rw [if_pos rfl] at q1 ⊢
      refine ⟨fun σ2 H2 => ∃ F2 δ2 M2, Rep G F2 δ2 M2 σ2 H2 ∧ Ex F F2 ∧ whD t u E m δ2 M2, fun σ2 H2 z => ⟨m, Nat.lt_succ_self m, z⟩, F1, δ', M1, _, r1, q1, ?_⟩
      exact ⟨fun F4 δ4 M4 σ4 H4 r4 e4 q4 => ⟨F4, δ4, M4, r4, e'.trans (e1.trans e4), q4⟩, ok.rt, fun F4 δ4 M4 σ4 H4 r4 e4 q4 => ok.nx F4 δ4 M4 σ4 H4 r4 (e'.trans (e1.trans e4)) q4, fun F4 δ4 M4 σ4 H4 r4 e4 q4 => ⟨F4, δ4, M4, r4, e'.trans (e1.trans e4), q4⟩, ok.ex⟩
/-- x += e, x -= e of ints -/
def sAug (i : Nat) (f : Int → Int → Int) (t : DX) : DP := fun E δ M => ∃ n, δ[i]? = some (some (.d (.int n))) ∧ t δ M (fun d M' => ∃ m, d = .int m ∧ E.nx (δ.set i (some (.d (.int (f n m))))) M') E.ex
theorem s_aug {i : Nat} {x : Str} {t : DX} {op : Operator} {f : Int → Int → Int} {pos' : Pos} (hN : X.N.Nodup) (hi : X.N[i]? = some x) (hx : Loc X.env.scope x) (he : PE X e (LV G W t)) (ho : PIp X op (ipI f)) (hf : X.fn x = true ∨ X.env.scope.names.lookup x = some .local := by first | exact .inl rfl | exact .inr rfl | assumption) :
    PS X (.AugAssign (.Name x pos') op e pos) (LS G W (sAug i f t)) :=
  ps_imp (ps_aug hN hi hx he ho hf) fun D σ H ⟨F, δ, M, E, rep, ⟨n, hn, q⟩, ok⟩ => by
    obtain ⟨v, h1, h2⟩ := rep.val i _ hn
    obtain rfl := h2.int_inv
    exact ⟨_, h1, F, δ, M, _, _, rep, q, fun d v F1 M1 H1 r1 e1 s1 ⟨m, hm, q1⟩ => by
      subst hm
      obtain rfl := s1.int_inv
      exact ⟨n, m, rfl, rfl, ok.nx F1 _ M1 _ H1 (r1.setD (R.int _)) e1 q1⟩, ok.ex δ σ⟩
end
end DL

set_option Elab.async false
set_option linter.all false
set_option maxRecDepth 100000
set_option maxHeartbeats 2000000
namespace L2
open PySem PySem.Spec PyProof.Rows
/-- a list, a tuple or a text is walked -/
def iAnyV (K : PySem.W.Frag) (te : TE) : TI := fun σ H R => te σ H fun x J =>
  (∃ a xs, x = .ref a ∧ SqL K J a xs ∧ R (Itl K a) J) ∨ (∃ a xs, x = .ref a ∧ SqT K J a xs ∧ R (Itt K a) J) ∨ ∃ s, x = .str s ∧ R (Its s) J
theorem pi_anyV {X : Cx} {tg e : Expr} {te : TE} (he : PE X e te) : PI X tg e (iAnyV X.K te) := by
  refine ⟨fun pins s σ H R I h => thn (he.run pins s σ H _ I h) fun v t hv => ?_⟩
  obtain ⟨x, J, IJ, rx, h⟩ := hv
  have one : ∀ (o : Obj) {J' : It} {tn : Nat → Heap → Prop} {E : Value → Shared → Prop}, Turn X.prog X.w X.K tg J' [t.heap.objs.size] t.heap.objs.size tn → tn 0 (t.heap.push o) → R J' J →
      PIE X pins σ tg R (.ref t.heap.objs.size) { t with heap := t.heap.push o } := fun o {J' tn E} T st q => pi_one (tk := t.toks) IJ o T st q
  rcases h with ⟨a, xs, rfl, hq, q⟩ | ⟨a, xs, rfl, hq, q⟩ | ⟨z, rfl, q⟩
  · obtain rfl : v = Value.ref a := rx
    obtain ⟨its, _, pl, _⟩ := IJ.list hq
    exact wpAny_pyIter_list pl.isList (one (E := X.xe) _ (turn_list a _) ⟨_, Heap.get?_push_size _ rfl, rfl, rfl⟩ q)
  · obtain rfl : v = Value.ref a := rx
    obtain ⟨its, _, pl, _⟩ := IJ.tuple hq
    exact wpAny_pyIter_tuple (show t.heap.IsTuple a its.toArray from pl) (one (E := X.xe) _ (turn_tuple a _) ⟨_, Heap.get?_push_size _ rfl, rfl, rfl⟩ q)
  · obtain ⟨tk, rfl⟩ := rx
    cases hw : z.cps.all (· < 128)
    · exact wpAny_pyIter_wide hw (one (E := X.xe) _ (turn_str _ z tk "str_iterator" (.inr rfl)) ⟨_, Heap.get?_push_size _ rfl, rfl, rfl⟩ q)
    · exact wpAny_pyIter_ascii hw (one (E := X.xe) _ (turn_str _ z tk "str_ascii_iterator" (.inl rfl)) ⟨_, Heap.get?_push_size _ rfl, rfl, rfl⟩ q)
end L2
namespace DL
open PySem PySem.Spec PyProof.Rows L2
section
variable {X : Cx} {G : Gd} {W : WX} {tg e a b c : Expr} {es : List Expr} {pos p : Pos} {t ta tb tc : DX}
/-- what is walked: a tuple, a list, a text -/
def itemsOf : D → Option (List D)
  | .tup xs => some xs
  | .lst xs => some xs
  | .str s => some (sgD s)
  | _ => none
def iAny (t : DX) : DIt := fun δ M Q E => t δ M (fun d M' => ∃ xs, itemsOf d = some xs ∧ Q xs M') E
theorem i_any (hk : X.K = G.K) (h : PE X e (LV G W t)) : PI X tg e (LI G W (iAny t)) :=
  pi_imp (pi_anyV h) fun σ H R ⟨F, δ, M, Qd, Ed, rep, q, k, x⟩ => ⟨F, δ, M, _, Ed, rep, q, fun d v F1 M1 H1 r1 e1 s1 ⟨xs, hd, q1⟩ => (by
    rw [hk]
    cases d with
    | tup ys =>
      cases hd
      obtain ⟨a, vs, rfl, h1, h2⟩ := s1.tup_inv
      exact .inr (.inl ⟨a, vs, rfl, ex_t r1.fr.ex h1, k _ _ F1 M1 H1 r1 e1 (ok_tup h1 h2) q1⟩)
    | lst ys =>
      cases hd
      obtain ⟨a, vs, rfl, h1, h2⟩ := s1.lst_inv
      exact .inl ⟨a, vs, rfl, .inl (.inl (r1.fr.ex _ _ h1)), k _ _ F1 M1 H1 r1 e1 (ok_lst h1 h2) q1⟩
    | str s =>
      cases hd
      obtain rfl := s1.str_inv
      exact .inr (.inr ⟨s, rfl, k _ _ F1 M1 H1 r1 e1 ok_str q1⟩)
    | non => cases hd
    | bl z => cases hd
    | int z => cases hd
    | lsk z => cases hd
    | ref z => cases hd), x⟩
/-- what a name holds, looked at, for a comprehension -/
def iPk (i : Nat) : DIt := fun δ M Q _ => ∃ s xs, δ[i]? = some (some s) ∧ itemsOf s.fz = some xs ∧ Q xs M
theorem i_pk {i : Nat} (hk : X.K = G.K) (h : PE X e (tVar i)) : PI X tg e (LIP G W (iPk i)) :=
  pi_imp (pi_anyV h) fun σ H R ⟨F, δ, M, Qd, Ed, rep, ⟨s, xs, hs, hx, q⟩, k, x⟩ => by
    show ∃ v, σ[i]? = some (some v) ∧ _
    rw [hk]
    cases s with
    | own ys =>
      cases hx
      obtain ⟨a, h1, vs, h2, h3, _⟩ := rep.own i _ hs
      exact ⟨.ref a, h1, .inl ⟨a, vs, rfl, .inl (.inl h2), k _ _ F M H rep (Ex.refl F) (ok_own hs h1) q⟩⟩
    | d y =>
      obtain ⟨v, h1, h2⟩ := rep.val i _ hs
      refine ⟨v, h1, ?_⟩
      cases y with
      | tup ys =>
        cases hx
        obtain ⟨a, vs, rfl, h3, h4⟩ := h2.tup_inv
        exact .inr (.inl ⟨a, vs, rfl, ex_t rep.fr.ex h3, k _ _ F M H rep (Ex.refl F) (ok_tup h3 h4).weak q⟩)
      | lst ys =>
        cases hx
        obtain ⟨a, vs, rfl, h3, h4⟩ := h2.lst_inv
        exact .inl ⟨a, vs, rfl, .inl (.inl (rep.fr.ex _ _ h3)), k _ _ F M H rep (Ex.refl F) (ok_lst h3 h4).weak q⟩
      | str z =>
        cases hx
        obtain rfl := h2.str_inv
        exact .inr (.inr ⟨z, rfl, k _ _ F M H rep (Ex.refl F) ok_str.weak q⟩)
      | non => cases hx
      | bl z => cases hx
      | int z => cases hx
      | ref z => cases hx
      | lsk z => cases hx
/-- a test that gives its answer as a value -/
theorem t_ofT {t : DT} (h : PE X e (LE G W (dOfT t))) (he : ∀ whole, isTrue e X.env whole = (do let v ← whole; standAt e.pos; holding [v] (truthy v)) := by intro _; rfl) : PT X e (LT G W t) :=
  pt_imp (pt_val h he) fun σ H Q ⟨F, δ, M, Qd, Ed, rep, q, k, x⟩ => ⟨F, δ, M, fun r M' => ∃ b, r = .d (.bl b) ∧ Qd b M', Ed, rep, by
    have z : dOfT t δ M (fun r M' => ∃ b, r = .d (.bl b) ∧ Qd b M') Ed ↔ t δ M (fun b M' => ∃ b', Sl.d (D.bl b) = .d (.bl b') ∧ Qd b' M') Ed := Iff.rfl
    rw [z]
    have fe : (fun (b : Bool) (M' : MH) => ∃ b', Sl.d (D.bl b) = .d (.bl b') ∧ Qd b' M') = Qd := by
      funext b M'
      exact propext ⟨fun ⟨b', h1, h2⟩ => by cases h1; exact h2, fun h => ⟨b, rfl, h⟩⟩
    rw [fe]
    exact q, fun r v F' M' H' rep' e' s' ⟨b, hb, qb⟩ => by
    subst hb
    cases s'
    exact ⟨b, rfl, k b F' M' H' rep' e' qb⟩, x⟩
/-- a, b = x, y: two written values to two names -/
def sPar (i j : Nat) (t : DA) : DP := fun E δ M => t δ M (fun ds M' => ∃ d d', ds = [d, d'] ∧ E.nx ((δ.set i (some (.d d))).set j (some (.d d'))) M') E.ex
theorem s_par {i j : Nat} {x y : Str} {t : DA} {px py pt : Pos} {kt k2 pt2} (hc : X.calm = true) (hN : X.N.Nodup) (hi : X.N[i]? = some x) (hj : X.N[j]? = some y) (hij : i ≠ j)
    (hx : X.env.scope.names.lookup x = some .local) (hy : X.env.scope.names.lookup y = some .local) (ha : PA X [a, b] (LA G W t))
    (hw : swappedStores [.Tuple [.Name x px, .Name y py] kt pt] (.Tuple [a, b] k2 pt2) X.env = pure (some [x, y]))
    (hs : swapsWithSole [.Tuple [.Name x px, .Name y py] kt pt] (.Tuple [a, b] k2 pt2) pos.line X.env = pure false := by rfl) :
    PS X (.Assign [.Tuple [.Name x px, .Name y py] kt pt] (.Tuple [a, b] k2 pt2) pos) (LS G W (sPar i j t)) :=
  ps_imp (ps_par hc hN hi hj hij hx hy ha hw hs) fun D σ H ⟨F, δ, M, E, rep, q, ok⟩ => ⟨F, δ, M, _, _, rep, q, fun ds vs F1 M1 H1 r1 e1 s1 ⟨d, d', hd, q1⟩ => by
    subst hd
    obtain ⟨v, u, rfl, s2, s3⟩ := s1.two
    exact ⟨v, u, rfl, ok.nx F1 _ M1 _ H1 ((r1.setD s2).setD s3) e1 q1⟩, ok.ex δ σ⟩
/-! ### promises by the number of arguments -/
abbrev QD := Sl → MH → Prop
abbrev ED := Addr → List (Str × D) → MH → Prop
def sp1 (f : D → MH → QD → ED → Prop) : SpD := fun ds M Q E => ∃ a, ds = [a] ∧ f a M Q E
def sp2 (f : D → D → MH → QD → ED → Prop) : SpD := fun ds M Q E => ∃ a b, ds = [a, b] ∧ f a b M Q E
def sp3 (f : D → D → D → MH → QD → ED → Prop) : SpD := fun ds M Q E => ∃ a b c, ds = [a, b, c] ∧ f a b c M Q E
def sp4 (f : D → D → D → D → MH → QD → ED → Prop) : SpD := fun ds M Q E => ∃ a b c d, ds = [a, b, c, d] ∧ f a b c d M Q E
def sp5 (f : D → D → D → D → D → MH → QD → ED → Prop) : SpD := fun ds M Q E => ∃ a b c d e, ds = [a, b, c, d, e] ∧ f a b c d e M Q E
theorem len1 {f : D → MH → QD → ED → Prop} : ∀ ds M Q E, sp1 f ds M Q E → ds.length = 1 := fun ds M Q E ⟨_, h, _⟩ => by rw [h]; rfl
theorem len2 {f : D → D → MH → QD → ED → Prop} : ∀ ds M Q E, sp2 f ds M Q E → ds.length = 2 := fun ds M Q E ⟨_, _, h, _⟩ => by rw [h]; rfl
theorem len3 {f : D → D → D → MH → QD → ED → Prop} : ∀ ds M Q E, sp3 f ds M Q E → ds.length = 3 := fun ds M Q E ⟨_, _, _, h, _⟩ => by rw [h]; rfl
theorem len4 {f : D → D → D → D → MH → QD → ED → Prop} : ∀ ds M Q E, sp4 f ds M Q E → ds.length = 4 := fun ds M Q E ⟨_, _, _, _, h, _⟩ => by rw [h]; rfl
theorem len5 {f : D → D → D → D → D → MH → QD → ED → Prop} : ∀ ds M Q E, sp5 f ds M Q E → ds.length = 5 := fun ds M Q E ⟨_, _, _, _, _, h, _⟩ => by rw [h]; rfl
/-! ### an own exception's __init__ -/
def PvI (v : V) : Prop := ∃ i : Int, v = .int i ∧ i.natAbs.log2 < 1920
def PrI (d : D) : Prop := ∃ i : Int, d = .int i ∧ i.natAbs.log2 < 1920
theorem prI : ∀ (K : PySem.W.Frag) (F : Hp) (v : V) (d : D), R K F v d → PrI d → PvI v := fun K F v d r ⟨i, h, hi⟩ => by
  subst h
  exact ⟨i, r.int_inv, hi⟩
def PrT (_ : D) : Prop := True
def PvT (_ : V) : Prop := True
theorem prT : ∀ (K : PySem.W.Frag) (F : Hp) (v : V) (d : D), R K F v d → PrT d → PvT v := fun _ _ _ _ _ _ => trivial
end
end DL

set_option Elab.async false
set_option linter.all false
set_option maxRecDepth 100000
set_option maxHeartbeats 2000000
namespace L2
open PySem PySem.Spec PyProof.Rows
/-- how many of a list's items are equal to y -/
def rCountD (K : PySem.W.Frag) : V → List V → Hp → VK → Prop := fun x xs H Q => ∃ (a : Addr) (y : V) (d : PyData) (ds : List PyData), x = V.ref a ∧ xs = [y] ∧ Dp K H (V.ref a) (.list ds) ∧ Dp K H y d ∧
  SeqAt.shaped (.list ds) = true ∧ SeqAt.shaped d = true ∧ Q (.int ((ds.countP fun z => PyData.eqv z d : Nat) : Int)) H
theorem mt_countD {X : Cx} (hu : X.A.units + 65 < cLine) : MtR X "list.count" (rCountD X.K) := by
  rintro pins s σ H x xs v us Q I rx rxs ⟨a, y, d, ds, rfl, rfl, hl, hy, sl, sd, q⟩
  cases rx
  obtain ⟨u, rfl, ru⟩ := rxs.one
  obtain ⟨bs, rd⟩ := Dp.reads I d y u hy ru
  cases hl with
  | lst hs ha =>
    obtain ⟨its, rv, ⟨⟨cls, dd, data, sls⟩, n, ho, hc, hdn, hdt⟩, hlen⟩ := I.list hs
    simp only at hc hdt
    subst hc hdt
    obtain ⟨as, hrs⟩ := Dp.readsAll I ds _ its ha rv
    have lay := SeqAt.canLay_of_shaped sl
    have hmap : its.map (SeqAt.readOf s.heap) = ds := SeqAt.readsAll_map ds its as lay hrs
    have hcp : its.countP (fun u => PyData.eqv (SeqAt.readOf s.heap u) d) = ds.countP fun z => PyData.eqv z d := by
      rw [← hmap, List.countP_map]
      rfl
    refine call_meets PySem.F.slot_list_count ⟨_, ho, rfl⟩ PySem.F.entry_list_count (PySem.F.args_list_count_2 _ _)
      (SeqAt.list_countAt a its.toArray n dd sls u (fun u => PyData.eqv (SeqAt.readOf s.heap u) d)) ⟨ho, SeqAt.items_eqAt (vs := its.toArray) hrs rd lay (SeqAt.canLay_of_shaped sd) (room_in_shaped sd hu), ?_⟩
    refine ⟨.int ((ds.countP fun z => PyData.eqv z d : Nat) : Int), H, I.tok _, ⟨s.toks, ?_⟩, q⟩
    rw [← hcp]
end L2
namespace DL
open PySem PySem.Spec PyProof.Rows L2
/-! ### methods of built-in types -/
abbrev FM := D → List D → MH → (Sl → MH → Prop) → Prop
def TyD (T : String) (x : D) (M : MH) : Prop := (T = "list" ∧ ∃ xs, seqOf M x = some xs) ∨ (T = "str" ∧ ∃ s, x = .str s)
def MtL (G : Gd) (r : V → List V → Hp → VK → Prop) (f : FM) : Prop := ∀ F δ M σ H v vs x ds Q Qv, Rep G F δ M σ H → Opn G F δ σ v x → Opns G F δ σ vs ds → f x ds M Q →
  (∀ z w F' M' H', Rep G F' δ M' σ H' → Ex F F' → SvR G F' δ M' σ H' w z → Q z M' → Qv w H') → r v vs H Qv
def dM (T : String) (f : FM) (to : DX) (ta : DA) : DE := fun δ M Q E => to δ M (fun x M1 => TyD T x M1 ∧ ta δ M1 (fun ds M2 => f x ds M2 Q) E) E
theorem tyD_v {G : Gd} {F : Hp} {δ : DS} {M : MH} {σ : L2.St} {H : Hp} {v : V} {x : D} {T : String} (rep : Rep G F δ M σ H) (o : Opn G F δ σ v x) (t : TyD T x M) : tyV G.K T v H := by
  rcases t with ⟨rfl, xs, h⟩ | ⟨rfl, s, rfl⟩
  · obtain ⟨a, vs, rfl, h1, _⟩ := seqOf_at rep o h
    exact .inl ⟨rfl, vs, h1⟩
  · obtain rfl := opn_str o
    rfl
theorem m_l {G : Gd} {W : WX} {T : String} {r : V → List V → Hp → VK → Prop} {f : FM} {to : DX} {ta : DA} (hl : MtL G r f) {σ : L2.St} {H : Hp} {Q : VK} (h : LE G W (dM T f to ta) σ H Q) : tBM G.K T r (LO G W to) (LAO G W ta) σ H Q := by
  obtain ⟨F, δ, M, Qd, Ed, rep, q, k, x⟩ := h
  exact ⟨F, δ, M, _, Ed, rep, q, fun d v F1 M1 H1 r1 e1 o1 ⟨t1, q1⟩ => ⟨tyD_v r1 o1 t1, F1, δ, M1, _, Ed, r1, q1, fun ds vs F2 M2 H2 r2 e2 o2 q2 =>
    hl F2 δ M2 σ H2 v vs d ds Qd Q r2 (o1.mono e2) o2 q2 fun z w F3 M3 H3 r3 e3 s3 q3 => k z w F3 M3 H3 r3 (e1.trans (e2.trans e3)) s3 q3, x⟩, x⟩
section
variable {X : Cx} {G : Gd} {W : WX} {o e : Expr} {es : List Expr} {name : Str} {apos cpos : Pos} {T id : String} {r : V → List V → Hp → VK → Prop} {f : FM} {to : DX} {ta : DA}
theorem d_m (hk : X.K = G.K) (pa : PlainAttrs T) (slot : Slot T name id) (hty : typeOf (.builtin id) = pure (.type "method_descriptor")) (hm : MtR X id r) (hl : MtL G r f) (ho : PE X o (LO G W to)) (ha : PA X (e :: es) (LAO G W ta))
    (hbase : attributeBase o name X.env (eval o X.env) = eval o X.env)
    (hfew : ((backTo cpos (starEach (e :: es) X.env)).all (fun x => !x.1) && (backToKw cpos (keywordEach [] X.env)).all (fun x => x.1.isSome)
      && decide ((e :: es).length + ([] : List Keyword).length + (if ([] : List Keyword).isEmpty then 0 else 1) < 30)) = true)
    (hline : (apos.endLine == cpos.line) = true) (hs : starEach (e :: es) X.env = (false, eval e X.env) :: starEach es X.env) (hplain : (backTo cpos (starEach es X.env)).any (·.1) = false) :
    PE X (.Call (.Attribute o name apos) (e :: es) [] cpos) (LE G W (dM T f to ta)) :=
  pe_imp (pe_bm pa slot hty hm ho ha hbase hfew hline hs hplain) fun _ _ _ h => by rw [hk]; exact m_l hl h
def fCnt : FM := fun x ds M Q => ∃ (xs : List D) (y : D), x = .lst xs ∧ ds = [y] ∧ x.Ok ∧ y.Ok ∧ Q (.d (.int ((xs.countP fun z => D.eq z y : Nat) : Int))) M
theorem ml_cnt : MtL G (rCountD G.K) fCnt := by
  intro F δ M σ H v vs x ds Q Qv rep o os ⟨xs, y, hx, hd, ox, oy, q⟩ k
  subst hd
  obtain ⟨u, rfl, o2⟩ := os.one
  have h1 := o.dp rep ox.1
  have h2 := o2.dp rep oy.1
  subst hx
  obtain ⟨a, ws, rfl, h3, h4⟩ := o.lst rep
  refine ⟨a, u, y.toP, D.toPs xs, rfl, rfl, h1, h2, ox.shaped, oy.shaped, ?_⟩
  refine k (.d (.int _)) _ F M H rep (Ex.refl F) ?_ q
  rw [toPs_map, List.countP_map]
  exact R.int _
def fIdx : FM := fun x ds M Q => ∃ (xs : List D) (y : D) (j : Nat) (z : D), x = .lst xs ∧ ds = [y] ∧ x.Ok ∧ y.Ok ∧ xs[j]? = some z ∧ D.eq z y = true ∧ (∀ (m : Nat) (z' : D), m < j → xs[m]? = some z' → D.eq z' y = false) ∧ Q (.d (.int (j : Nat))) M
theorem ml_idx : MtL G (rIndexD G.K) fIdx := by
  intro F δ M σ H v vs x ds Q Qv rep o os ⟨xs, y, j, z, hx, hd, ox, oy, hj, he, hn, q⟩ k
  subst hd
  obtain ⟨u, rfl, o2⟩ := os.one
  have h1 := o.dp rep ox.1
  have h2 := o2.dp rep oy.1
  subst hx
  obtain ⟨a, ws, rfl, h3, h4⟩ := o.lst rep
  refine ⟨a, u, y.toP, D.toPs xs, j, z.toP, rfl, rfl, h1, h2, ox.shaped, oy.shaped, ?_, he, fun m z' hm hz => ?_, k (.d (.int _)) _ F M H rep (Ex.refl F) (R.int _) q⟩
  · rw [toPs_map, List.getElem?_map, hj]
    rfl
  · rw [toPs_map, List.getElem?_map] at hz
    cases e : xs[m]? with
    | none => rw [e] at hz; cases hz
    | some w =>
      rw [e] at hz
      cases hz
      exact hn m w hm e
theorem d_count (hk : X.K = G.K) (hu : X.A.units + 65 < cLine) (ho : PE X o (LO G W to)) (ha : PA X [e] (LAO G W ta))
    (hbase : attributeBase o "count" X.env (eval o X.env) = eval o X.env := by rfl)
    (hfew : ((backTo cpos (starEach [e] X.env)).all (fun x => !x.1) && (backToKw cpos (keywordEach [] X.env)).all (fun x => x.1.isSome)
      && decide ([e].length + ([] : List Keyword).length + (if ([] : List Keyword).isEmpty then 0 else 1) < 30)) = true := by rfl)
    (hline : (apos.endLine == cpos.line) = true := by rfl) (hs : starEach [e] X.env = (false, eval e X.env) :: starEach [] X.env := by rfl) (hplain : (backTo cpos (starEach [] X.env)).any (·.1) = false := by rfl) :
    PE X (.Call (.Attribute o "count" apos) [e] [] cpos) (LE G W (dM "list" fCnt to ta)) :=
  d_m hk PySem.F.plainAttrs_list PySem.F.slot_list_count PySem.F.type_list_count (mt_countD hu) (by rw [hk]; exact ml_cnt) ho ha hbase hfew hline hs hplain
theorem d_index (hk : X.K = G.K) (hu : X.A.units + 65 < cLine) (ho : PE X o (LO G W to)) (ha : PA X [e] (LAO G W ta))
    (hbase : attributeBase o "index" X.env (eval o X.env) = eval o X.env := by rfl)
    (hfew : ((backTo cpos (starEach [e] X.env)).all (fun x => !x.1) && (backToKw cpos (keywordEach [] X.env)).all (fun x => x.1.isSome)
      && decide ([e].length + ([] : List Keyword).length + (if ([] : List Keyword).isEmpty then 0 else 1) < 30)) = true := by rfl)
    (hline : (apos.endLine == cpos.line) = true := by rfl) (hs : starEach [e] X.env = (false, eval e X.env) :: starEach [] X.env := by rfl) (hplain : (backTo cpos (starEach [] X.env)).any (·.1) = false := by rfl) :
    PE X (.Call (.Attribute o "index" apos) [e] [] cpos) (LE G W (dM "list" fIdx to ta)) :=
  d_m hk PySem.F.plainAttrs_list PySem.F.slot_list_index PySem.F.type_list_index (mt_indexD hu) (by rw [hk]; exact ml_idx) ho ha hbase hfew hline hs hplain
end
end DL

set_option Elab.async false
set_option linter.all false
set_option maxRecDepth 100000
set_option maxHeartbeats 2000000
namespace DL
open PySem PySem.Spec PyProof.Rows L2
theorem hu_of {k : Nat} {A : Around} (h : Room k A) : A.units + 65 < cLine := by have := h.un; omega
/-- a def as the top has made it -/
structure Df (K : PySem.W.Frag) (mg : Str → Option Value) (x qual : Str) (st : Stmt) (ps : List Str) : Prop where
  ex : ∃ (f : Addr) (fd : FuncData), Fun K x qual st f fd ∧ mg x = some (.ref f) ∧ Binds K fd ps []
section
variable {P : Program} {w : World} {K : PySem.W.Frag} {mg : Str → Option Value} {base : Heap}
theorem Df.cal {x qual : Str} {st : Stmt} {N ps : List Str} {k : Nat} {sp : SpD} (Y : Df K mg x qual st ps) (S : FnScope N ps (defScope st)) (td : DP)
    (len : ∀ ds M Q E, sp ds M Q E → ds.length = ps.length)
    (hbody : ∀ (f : Addr) (cdv : Value) (A : Around) (outer : List Env) (s : Shared) (H : Hp) (E : XK) (G : Gd), G.K = K → Room k (A.deeper (envOfC qual (defScope st) s.heap.objs.size f cdv)) →
      PSs (cxOf (L2.CX P w) P w K mg base N qual (defScope st) f cdv A outer s H E) (defBody st) (LS G (fun cls d _ H => E cls d H) td))
    (hread : ∀ ds M Q E, sp ds M Q E → td (endsD Q E) (startD N ds) M) : Cal P w K mg base (k + 1) x ps sp := by
  obtain ⟨f, fd, F, hm, hb⟩ := Y.ex
  exact ⟨f, fd, DL.Fun.okD F S td len (hbody f) hread, hm, F.kp, hb⟩
/-- a class of errors of the program's own with a field, as the top has made it -/
structure ExI (P : Program) (w : World) (K : PySem.W.Frag) (mg : Str → Option Value) (base : Heap) (k : Nat) (x : Str) (C : Addr) (f : Str) (Pv : V → Prop) : Prop where
  ex : ∃ (fI : Addr) (fd : FuncData) (ps : List Str), XcC K mg x C fI ∧ FnOk P w K mg base CX0 k fI fd ps (spXI K C f Pv) ∧ Binds K fd ps []
end
section
variable {X : Cx} {G : Gd} {W : WX} {e : Expr} {pos p p1 : Pos} {t : DX}
theorem s_rz {x f : Str} {C : Addr} {k : Nat} {Pv : V → Prop} {Pr : D → Prop} (Y : ExI X.prog X.w X.K X.mg X.base k x C f Pv) (hP : ∀ K F v d, R K F v d → Pr d → Pv v) (hr : Room (k + 1) X.A) (hc : X.calm = true) (tk : Takes X W) (hg : Gl X x) (he : PE X e (LV G W t))
    (hdb : (x == ("__debug__" : Str)) = false := by decide)
    (hs : starEach (e :: []) X.env = (false, eval e X.env) :: starEach [] X.env := by rfl) (hpl : (backTo p (starEach [] X.env)).any (·.1) = false := by rfl) :
    PS X (.Raise (some (.Call (.Name x p1) [e] [] p)) none pos) (LS G W (sRaise C f Pr t)) := by
  obtain ⟨fI, fd, ps, T, FI, hb⟩ := Y.ex
  exact s_raise (k := k) T FI hr hb hP hc tk hg he hdb hs hpl
/-- e.f of a kept exception, isinstance(e, C): what is asked of K -/
theorem xk {f : Str} {o : Expr} {t : DX} (hK : X.K = G.K) (he : PE X o (LO G W t)) (hb : attributeBase o f X.env (eval o X.env) = eval o X.env := by rfl) : PE X (.Attribute o f pos) (LE G W (dXk f (XkC X.K f) t)) :=
  pe_imp (d_xk hK he hb) fun _ _ _ h => by rw [hK] at h; exact h
theorem is_own {T : Str} {C : Addr} {pT pI : Pos} {a : Expr} {t : DX} (hk : X.K = G.K) (hg : Gl X "isinstance") (hm : X.mg "isinstance" = none) (hgT : Gl X T) (hmT : X.mg T = some (.ref C)) (ha : PE X a (LO G W t)) (hdb : (T == ("__debug__" : Str)) = false := by decide)
    (he : starEach [a, .Name T pT] X.env = (false, eval a X.env) :: starEach [.Name T pT] X.env := by rfl) (he2 : starEach [.Name T pT] X.env = (false, eval (.Name T pT) X.env) :: starEach [] X.env := by rfl)
    (hpl : (backTo pos (starEach [.Name T pT] X.env)).any (·.1) = false := by rfl) :
    PE X (.Call (.Name "isinstance" pI) [a, .Name T pT] [] pos) (LE G W (dOfT (dIsX (IsxC X.K (.ref C)) t))) :=
  pe_imp (d_isX (c := .ref C) (cv := .ref C) hk hg hm (pe_glob hgT hmT (show RelV (.ref C) (.ref C) from rfl) hdb) (.own C) ha he he2 hpl) fun _ _ _ h => by rw [hk] at h; exact h
theorem is_ve {pT pI : Pos} {a : Expr} {t : DX} (hk : X.K = G.K) (hg : Gl X "isinstance") (hm : X.mg "isinstance" = none) (hgT : Gl X "ValueError") (hmT : X.mg "ValueError" = none) (ha : PE X a (LO G W t))
    (he : starEach [a, .Name "ValueError" pT] X.env = (false, eval a X.env) :: starEach [.Name "ValueError" pT] X.env := by rfl) (he2 : starEach [.Name "ValueError" pT] X.env = (false, eval (.Name "ValueError" pT) X.env) :: starEach [] X.env := by rfl)
    (hpl : (backTo pos (starEach [.Name "ValueError" pT] X.env)).any (·.1) = false := by rfl) :
    PE X (.Call (.Name "isinstance" pI) [a, .Name "ValueError" pT] [] pos) (LE G W (dOfT (dIsX (IsxC X.K (.type "ValueError")) t))) :=
  pe_imp (d_isX (c := .ty "ValueError") (cv := .type "ValueError") hk hg hm (pe_bltn (v := .ty "ValueError") hgT hmT (by decide +kernel) rfl (by decide) (by decide)) (.ty _) ha he he2 hpl) fun _ _ _ h => by rw [hk] at h; exact h
/-- a module's constant that stands in K -/
theorem v_gk {x : Str} {a : Addr} {d : D} (hk : X.K = G.K) (hg : Gl X x) (hm : X.mg x = some (.ref a)) (rd : ∀ F, R X.K F (.ref a) d) (hd : (x == ("__debug__" : Str)) = false := by decide) : PE X (.Name x pos) (LV G W (vC d)) :=
  pe_imp (pe_glob hg hm (show RelV (.ref a) (.ref a) from rfl) hd) fun σ H Q ⟨F, δ, M, Qd, Ed, rep, q, k, xo⟩ => k d _ F M H rep (Ex.refl F) (by rw [← hk]; exact rd F) q
end
end DL

set_option Elab.async false
set_option linter.all false
set_option maxRecDepth 100000
set_option maxHeartbeats 2000000
namespace DL
open PySem PySem.Spec PyProof.Rows L2
/-! ### reading: each word of the layer run by simp, from its head on -/
section
variable {δ δ' : DS} {M M' : MH} {E : DEnds} {X : XP} {i j : Nat} {P Q : Prop}
def pk (δ : DS) (i : Nat) (k : Sl → Prop) : Prop := ∃ s, δ[i]? = some (some s) ∧ k s
def setK (δ : DS) (i : Nat) (x : Option Sl) (k : DS → Prop) : Prop := k (δ.set i x)
def frK (δ : DS) (i : Nat) (k : DS → Prop) : Prop := k (frzS i δ)
def shK (δ : DS) (M : MH) (i : Nat) (k : DS → MH → Prop) : Prop := match δ[i]? with
  | some (some (.own xs)) => ∀ a, M a = none → k (δ.set i (some (.d (.ref a)))) (mu M a (.lst xs))
  | _ => k δ M
def asD (s : Sl) (k : D → Prop) : Prop := ∃ x, s = .d x ∧ k x
def asB (s : Sl) (k : Bool → Prop) : Prop := ∃ b, s = .d (.bl b) ∧ k b
def asI (d : D) (k : Int → Prop) : Prop := ∃ i, d = .int i ∧ k i
def tif (c : Bool) (P Q : Prop) : Prop := if c = true then P else Q
def lk (M : MH) (a : Addr) (k : MO → Prop) : Prop := ∃ o, M a = some o ∧ k o
def asL (o : MO) (k : List D → Prop) : Prop := ∃ xs, o = .lst xs ∧ k xs
def ixI (xs : List D) (i : Int) (k : D → Prop) : Prop := ∃ d, atI xs i = some d ∧ k d
def setI (xs : List D) (i : Int) (d : D) (k : List D → Prop) : Prop := ∃ n, ixN xs.length i = some n ∧ k (xs.set n d)
def stM (y x d : D) (M : MH) (k : MH → Prop) : Prop := ∃ a xs i n, y = .ref a ∧ M a = some (.lst xs) ∧ x = .int i ∧ ixN xs.length i = some n ∧ k (mu M a (.lst (xs.set n d)))

@[simp ↓] theorem pk0 {s : Sl} {δ : DS} {k : Sl → Prop} : pk (some s :: δ) 0 k = k s := propext ⟨fun ⟨_, h, q⟩ => by cases h; exact q, fun h => ⟨s, rfl, h⟩⟩
@[simp ↓] theorem setK0 {y x : Option Sl} {δ : DS} {k : DS → Prop} : setK (y :: δ) 0 x k = k (x :: δ) := rfl
@[simp ↓] theorem pk1 {x0 : Option Sl} {s : Sl} {δ : DS} {k : Sl → Prop} : pk (x0 :: some s :: δ) 1 k = k s := propext ⟨fun ⟨_, h, q⟩ => by cases h; exact q, fun h => ⟨s, rfl, h⟩⟩
@[simp ↓] theorem setK1 {x0 : Option Sl} {y x : Option Sl} {δ : DS} {k : DS → Prop} : setK (x0 :: y :: δ) 1 x k = k (x0 :: x :: δ) := rfl
@[simp ↓] theorem pk2 {x0 x1 : Option Sl} {s : Sl} {δ : DS} {k : Sl → Prop} : pk (x0 :: x1 :: some s :: δ) 2 k = k s := propext ⟨fun ⟨_, h, q⟩ => by cases h; exact q, fun h => ⟨s, rfl, h⟩⟩
@[simp ↓] theorem setK2 {x0 x1 : Option Sl} {y x : Option Sl} {δ : DS} {k : DS → Prop} : setK (x0 :: x1 :: y :: δ) 2 x k = k (x0 :: x1 :: x :: δ) := rfl
@[simp ↓] theorem pk3 {x0 x1 x2 : Option Sl} {s : Sl} {δ : DS} {k : Sl → Prop} : pk (x0 :: x1 :: x2 :: some s :: δ) 3 k = k s := propext ⟨fun ⟨_, h, q⟩ => by cases h; exact q, fun h => ⟨s, rfl, h⟩⟩
@[simp ↓] theorem setK3 {x0 x1 x2 : Option Sl} {y x : Option Sl} {δ : DS} {k : DS → Prop} : setK (x0 :: x1 :: x2 :: y :: δ) 3 x k = k (x0 :: x1 :: x2 :: x :: δ) := rfl
@[simp ↓] theorem pk4 {x0 x1 x2 x3 : Option Sl} {s : Sl} {δ : DS} {k : Sl → Prop} : pk (x0 :: x1 :: x2 :: x3 :: some s :: δ) 4 k = k s := propext ⟨fun ⟨_, h, q⟩ => by cases h; exact q, fun h => ⟨s, rfl, h⟩⟩
@[simp ↓] theorem setK4 {x0 x1 x2 x3 : Option Sl} {y x : Option Sl} {δ : DS} {k : DS → Prop} : setK (x0 :: x1 :: x2 :: x3 :: y :: δ) 4 x k = k (x0 :: x1 :: x2 :: x3 :: x :: δ) := rfl
@[simp ↓] theorem pk5 {x0 x1 x2 x3 x4 : Option Sl} {s : Sl} {δ : DS} {k : Sl → Prop} : pk (x0 :: x1 :: x2 :: x3 :: x4 :: some s :: δ) 5 k = k s := propext ⟨fun ⟨_, h, q⟩ => by cases h; exact q, fun h => ⟨s, rfl, h⟩⟩
@[simp ↓] theorem setK5 {x0 x1 x2 x3 x4 : Option Sl} {y x : Option Sl} {δ : DS} {k : DS → Prop} : setK (x0 :: x1 :: x2 :: x3 :: x4 :: y :: δ) 5 x k = k (x0 :: x1 :: x2 :: x3 :: x4 :: x :: δ) := rfl
@[simp ↓] theorem pk6 {x0 x1 x2 x3 x4 x5 : Option Sl} {s : Sl} {δ : DS} {k : Sl → Prop} : pk (x0 :: x1 :: x2 :: x3 :: x4 :: x5 :: some s :: δ) 6 k = k s := propext ⟨fun ⟨_, h, q⟩ => by cases h; exact q, fun h => ⟨s, rfl, h⟩⟩
@[simp ↓] theorem setK6 {x0 x1 x2 x3 x4 x5 : Option Sl} {y x : Option Sl} {δ : DS} {k : DS → Prop} : setK (x0 :: x1 :: x2 :: x3 :: x4 :: x5 :: y :: δ) 6 x k = k (x0 :: x1 :: x2 :: x3 :: x4 :: x5 :: x :: δ) := rfl
@[simp ↓] theorem pk7 {x0 x1 x2 x3 x4 x5 x6 : Option Sl} {s : Sl} {δ : DS} {k : Sl → Prop} : pk (x0 :: x1 :: x2 :: x3 :: x4 :: x5 :: x6 :: some s :: δ) 7 k = k s := propext ⟨fun ⟨_, h, q⟩ => by cases h; exact q, fun h => ⟨s, rfl, h⟩⟩
@[simp ↓] theorem setK7 {x0 x1 x2 x3 x4 x5 x6 : Option Sl} {y x : Option Sl} {δ : DS} {k : DS → Prop} : setK (x0 :: x1 :: x2 :: x3 :: x4 :: x5 :: x6 :: y :: δ) 7 x k = k (x0 :: x1 :: x2 :: x3 :: x4 :: x5 :: x6 :: x :: δ) := rfl
@[simp ↓] theorem pk8 {x0 x1 x2 x3 x4 x5 x6 x7 : Option Sl} {s : Sl} {δ : DS} {k : Sl → Prop} : pk (x0 :: x1 :: x2 :: x3 :: x4 :: x5 :: x6 :: x7 :: some s :: δ) 8 k = k s := propext ⟨fun ⟨_, h, q⟩ => by cases h; exact q, fun h => ⟨s, rfl, h⟩⟩
@[simp ↓] theorem setK8 {x0 x1 x2 x3 x4 x5 x6 x7 : Option Sl} {y x : Option Sl} {δ : DS} {k : DS → Prop} : setK (x0 :: x1 :: x2 :: x3 :: x4 :: x5 :: x6 :: x7 :: y :: δ) 8 x k = k (x0 :: x1 :: x2 :: x3 :: x4 :: x5 :: x6 :: x7 :: x :: δ) := rfl
@[simp ↓] theorem pk9 {x0 x1 x2 x3 x4 x5 x6 x7 x8 : Option Sl} {s : Sl} {δ : DS} {k : Sl → Prop} : pk (x0 :: x1 :: x2 :: x3 :: x4 :: x5 :: x6 :: x7 :: x8 :: some s :: δ) 9 k = k s := propext ⟨fun ⟨_, h, q⟩ => by cases h; exact q, fun h => ⟨s, rfl, h⟩⟩
@[simp ↓] theorem setK9 {x0 x1 x2 x3 x4 x5 x6 x7 x8 : Option Sl} {y x : Option Sl} {δ : DS} {k : DS → Prop} : setK (x0 :: x1 :: x2 :: x3 :: x4 :: x5 :: x6 :: x7 :: x8 :: y :: δ) 9 x k = k (x0 :: x1 :: x2 :: x3 :: x4 :: x5 :: x6 :: x7 :: x8 :: x :: δ) := rfl
@[simp ↓] theorem pk10 {x0 x1 x2 x3 x4 x5 x6 x7 x8 x9 : Option Sl} {s : Sl} {δ : DS} {k : Sl → Prop} : pk (x0 :: x1 :: x2 :: x3 :: x4 :: x5 :: x6 :: x7 :: x8 :: x9 :: some s :: δ) 10 k = k s := propext ⟨fun ⟨_, h, q⟩ => by cases h; exact q, fun h => ⟨s, rfl, h⟩⟩
@[simp ↓] theorem setK10 {x0 x1 x2 x3 x4 x5 x6 x7 x8 x9 : Option Sl} {y x : Option Sl} {δ : DS} {k : DS → Prop} : setK (x0 :: x1 :: x2 :: x3 :: x4 :: x5 :: x6 :: x7 :: x8 :: x9 :: y :: δ) 10 x k = k (x0 :: x1 :: x2 :: x3 :: x4 :: x5 :: x6 :: x7 :: x8 :: x9 :: x :: δ) := rfl
@[simp ↓] theorem pk11 {x0 x1 x2 x3 x4 x5 x6 x7 x8 x9 x10 : Option Sl} {s : Sl} {δ : DS} {k : Sl → Prop} : pk (x0 :: x1 :: x2 :: x3 :: x4 :: x5 :: x6 :: x7 :: x8 :: x9 :: x10 :: some s :: δ) 11 k = k s := propext ⟨fun ⟨_, h, q⟩ => by cases h; exact q, fun h => ⟨s, rfl, h⟩⟩
@[simp ↓] theorem setK11 {x0 x1 x2 x3 x4 x5 x6 x7 x8 x9 x10 : Option Sl} {y x : Option Sl} {δ : DS} {k : DS → Prop} : setK (x0 :: x1 :: x2 :: x3 :: x4 :: x5 :: x6 :: x7 :: x8 :: x9 :: x10 :: y :: δ) 11 x k = k (x0 :: x1 :: x2 :: x3 :: x4 :: x5 :: x6 :: x7 :: x8 :: x9 :: x10 :: x :: δ) := rfl
@[simp ↓] theorem pk12 {x0 x1 x2 x3 x4 x5 x6 x7 x8 x9 x10 x11 : Option Sl} {s : Sl} {δ : DS} {k : Sl → Prop} : pk (x0 :: x1 :: x2 :: x3 :: x4 :: x5 :: x6 :: x7 :: x8 :: x9 :: x10 :: x11 :: some s :: δ) 12 k = k s := propext ⟨fun ⟨_, h, q⟩ => by cases h; exact q, fun h => ⟨s, rfl, h⟩⟩
@[simp ↓] theorem setK12 {x0 x1 x2 x3 x4 x5 x6 x7 x8 x9 x10 x11 : Option Sl} {y x : Option Sl} {δ : DS} {k : DS → Prop} : setK (x0 :: x1 :: x2 :: x3 :: x4 :: x5 :: x6 :: x7 :: x8 :: x9 :: x10 :: x11 :: y :: δ) 12 x k = k (x0 :: x1 :: x2 :: x3 :: x4 :: x5 :: x6 :: x7 :: x8 :: x9 :: x10 :: x11 :: x :: δ) := rfl
@[simp ↓] theorem pk13 {x0 x1 x2 x3 x4 x5 x6 x7 x8 x9 x10 x11 x12 : Option Sl} {s : Sl} {δ : DS} {k : Sl → Prop} : pk (x0 :: x1 :: x2 :: x3 :: x4 :: x5 :: x6 :: x7 :: x8 :: x9 :: x10 :: x11 :: x12 :: some s :: δ) 13 k = k s := propext ⟨fun ⟨_, h, q⟩ => by cases h; exact q, fun h => ⟨s, rfl, h⟩⟩
@[simp ↓] theorem setK13 {x0 x1 x2 x3 x4 x5 x6 x7 x8 x9 x10 x11 x12 : Option Sl} {y x : Option Sl} {δ : DS} {k : DS → Prop} : setK (x0 :: x1 :: x2 :: x3 :: x4 :: x5 :: x6 :: x7 :: x8 :: x9 :: x10 :: x11 :: x12 :: y :: δ) 13 x k = k (x0 :: x1 :: x2 :: x3 :: x4 :: x5 :: x6 :: x7 :: x8 :: x9 :: x10 :: x11 :: x12 :: x :: δ) := rfl
@[simp ↓] theorem pk14 {x0 x1 x2 x3 x4 x5 x6 x7 x8 x9 x10 x11 x12 x13 : Option Sl} {s : Sl} {δ : DS} {k : Sl → Prop} : pk (x0 :: x1 :: x2 :: x3 :: x4 :: x5 :: x6 :: x7 :: x8 :: x9 :: x10 :: x11 :: x12 :: x13 :: some s :: δ) 14 k = k s := propext ⟨fun ⟨_, h, q⟩ => by cases h; exact q, fun h => ⟨s, rfl, h⟩⟩
@[simp ↓] theorem setK14 {x0 x1 x2 x3 x4 x5 x6 x7 x8 x9 x10 x11 x12 x13 : Option Sl} {y x : Option Sl} {δ : DS} {k : DS → Prop} : setK (x0 :: x1 :: x2 :: x3 :: x4 :: x5 :: x6 :: x7 :: x8 :: x9 :: x10 :: x11 :: x12 :: x13 :: y :: δ) 14 x k = k (x0 :: x1 :: x2 :: x3 :: x4 :: x5 :: x6 :: x7 :: x8 :: x9 :: x10 :: x11 :: x12 :: x13 :: x :: δ) := rfl
@[simp ↓] theorem pk15 {x0 x1 x2 x3 x4 x5 x6 x7 x8 x9 x10 x11 x12 x13 x14 : Option Sl} {s : Sl} {δ : DS} {k : Sl → Prop} : pk (x0 :: x1 :: x2 :: x3 :: x4 :: x5 :: x6 :: x7 :: x8 :: x9 :: x10 :: x11 :: x12 :: x13 :: x14 :: some s :: δ) 15 k = k s := propext ⟨fun ⟨_, h, q⟩ => by cases h; exact q, fun h => ⟨s, rfl, h⟩⟩
@[simp ↓] theorem setK15 {x0 x1 x2 x3 x4 x5 x6 x7 x8 x9 x10 x11 x12 x13 x14 : Option Sl} {y x : Option Sl} {δ : DS} {k : DS → Prop} : setK (x0 :: x1 :: x2 :: x3 :: x4 :: x5 :: x6 :: x7 :: x8 :: x9 :: x10 :: x11 :: x12 :: x13 :: x14 :: y :: δ) 15 x k = k (x0 :: x1 :: x2 :: x3 :: x4 :: x5 :: x6 :: x7 :: x8 :: x9 :: x10 :: x11 :: x12 :: x13 :: x14 :: x :: δ) := rfl
@[simp ↓] theorem pk16 {x0 x1 x2 x3 x4 x5 x6 x7 x8 x9 x10 x11 x12 x13 x14 x15 : Option Sl} {s : Sl} {δ : DS} {k : Sl → Prop} : pk (x0 :: x1 :: x2 :: x3 :: x4 :: x5 :: x6 :: x7 :: x8 :: x9 :: x10 :: x11 :: x12 :: x13 :: x14 :: x15 :: some s :: δ) 16 k = k s := propext ⟨fun ⟨_, h, q⟩ => by cases h; exact q, fun h => ⟨s, rfl, h⟩⟩
@[simp ↓] theorem setK16 {x0 x1 x2 x3 x4 x5 x6 x7 x8 x9 x10 x11 x12 x13 x14 x15 : Option Sl} {y x : Option Sl} {δ : DS} {k : DS → Prop} : setK (x0 :: x1 :: x2 :: x3 :: x4 :: x5 :: x6 :: x7 :: x8 :: x9 :: x10 :: x11 :: x12 :: x13 :: x14 :: x15 :: y :: δ) 16 x k = k (x0 :: x1 :: x2 :: x3 :: x4 :: x5 :: x6 :: x7 :: x8 :: x9 :: x10 :: x11 :: x12 :: x13 :: x14 :: x15 :: x :: δ) := rfl
@[simp ↓] theorem pk17 {x0 x1 x2 x3 x4 x5 x6 x7 x8 x9 x10 x11 x12 x13 x14 x15 x16 : Option Sl} {s : Sl} {δ : DS} {k : Sl → Prop} : pk (x0 :: x1 :: x2 :: x3 :: x4 :: x5 :: x6 :: x7 :: x8 :: x9 :: x10 :: x11 :: x12 :: x13 :: x14 :: x15 :: x16 :: some s :: δ) 17 k = k s := propext ⟨fun ⟨_, h, q⟩ => by cases h; exact q, fun h => ⟨s, rfl, h⟩⟩
@[simp ↓] theorem setK17 {x0 x1 x2 x3 x4 x5 x6 x7 x8 x9 x10 x11 x12 x13 x14 x15 x16 : Option Sl} {y x : Option Sl} {δ : DS} {k : DS → Prop} : setK (x0 :: x1 :: x2 :: x3 :: x4 :: x5 :: x6 :: x7 :: x8 :: x9 :: x10 :: x11 :: x12 :: x13 :: x14 :: x15 :: x16 :: y :: δ) 17 x k = k (x0 :: x1 :: x2 :: x3 :: x4 :: x5 :: x6 :: x7 :: x8 :: x9 :: x10 :: x11 :: x12 :: x13 :: x14 :: x15 :: x16 :: x :: δ) := rfl
@[simp ↓] theorem pk18 {x0 x1 x2 x3 x4 x5 x6 x7 x8 x9 x10 x11 x12 x13 x14 x15 x16 x17 : Option Sl} {s : Sl} {δ : DS} {k : Sl → Prop} : pk (x0 :: x1 :: x2 :: x3 :: x4 :: x5 :: x6 :: x7 :: x8 :: x9 :: x10 :: x11 :: x12 :: x13 :: x14 :: x15 :: x16 :: x17 :: some s :: δ) 18 k = k s := propext ⟨fun ⟨_, h, q⟩ => by cases h; exact q, fun h => ⟨s, rfl, h⟩⟩
@[simp ↓] theorem setK18 {x0 x1 x2 x3 x4 x5 x6 x7 x8 x9 x10 x11 x12 x13 x14 x15 x16 x17 : Option Sl} {y x : Option Sl} {δ : DS} {k : DS → Prop} : setK (x0 :: x1 :: x2 :: x3 :: x4 :: x5 :: x6 :: x7 :: x8 :: x9 :: x10 :: x11 :: x12 :: x13 :: x14 :: x15 :: x16 :: x17 :: y :: δ) 18 x k = k (x0 :: x1 :: x2 :: x3 :: x4 :: x5 :: x6 :: x7 :: x8 :: x9 :: x10 :: x11 :: x12 :: x13 :: x14 :: x15 :: x16 :: x17 :: x :: δ) := rfl
@[simp ↓] theorem pk19 {x0 x1 x2 x3 x4 x5 x6 x7 x8 x9 x10 x11 x12 x13 x14 x15 x16 x17 x18 : Option Sl} {s : Sl} {δ : DS} {k : Sl → Prop} : pk (x0 :: x1 :: x2 :: x3 :: x4 :: x5 :: x6 :: x7 :: x8 :: x9 :: x10 :: x11 :: x12 :: x13 :: x14 :: x15 :: x16 :: x17 :: x18 :: some s :: δ) 19 k = k s := propext ⟨fun ⟨_, h, q⟩ => by cases h; exact q, fun h => ⟨s, rfl, h⟩⟩
@[simp ↓] theorem setK19 {x0 x1 x2 x3 x4 x5 x6 x7 x8 x9 x10 x11 x12 x13 x14 x15 x16 x17 x18 : Option Sl} {y x : Option Sl} {δ : DS} {k : DS → Prop} : setK (x0 :: x1 :: x2 :: x3 :: x4 :: x5 :: x6 :: x7 :: x8 :: x9 :: x10 :: x11 :: x12 :: x13 :: x14 :: x15 :: x16 :: x17 :: x18 :: y :: δ) 19 x k = k (x0 :: x1 :: x2 :: x3 :: x4 :: x5 :: x6 :: x7 :: x8 :: x9 :: x10 :: x11 :: x12 :: x13 :: x14 :: x15 :: x16 :: x17 :: x18 :: x :: δ) := rfl
@[simp ↓] theorem pk20 {x0 x1 x2 x3 x4 x5 x6 x7 x8 x9 x10 x11 x12 x13 x14 x15 x16 x17 x18 x19 : Option Sl} {s : Sl} {δ : DS} {k : Sl → Prop} : pk (x0 :: x1 :: x2 :: x3 :: x4 :: x5 :: x6 :: x7 :: x8 :: x9 :: x10 :: x11 :: x12 :: x13 :: x14 :: x15 :: x16 :: x17 :: x18 :: x19 :: some s :: δ) 20 k = k s := propext ⟨fun ⟨_, h, q⟩ => by cases h; exact q, fun h => ⟨s, rfl, h⟩⟩
@[simp ↓] theorem setK20 {x0 x1 x2 x3 x4 x5 x6 x7 x8 x9 x10 x11 x12 x13 x14 x15 x16 x17 x18 x19 : Option Sl} {y x : Option Sl} {δ : DS} {k : DS → Prop} : setK (x0 :: x1 :: x2 :: x3 :: x4 :: x5 :: x6 :: x7 :: x8 :: x9 :: x10 :: x11 :: x12 :: x13 :: x14 :: x15 :: x16 :: x17 :: x18 :: x19 :: y :: δ) 20 x k = k (x0 :: x1 :: x2 :: x3 :: x4 :: x5 :: x6 :: x7 :: x8 :: x9 :: x10 :: x11 :: x12 :: x13 :: x14 :: x15 :: x16 :: x17 :: x18 :: x19 :: x :: δ) := rfl
@[simp ↓] theorem pk21 {x0 x1 x2 x3 x4 x5 x6 x7 x8 x9 x10 x11 x12 x13 x14 x15 x16 x17 x18 x19 x20 : Option Sl} {s : Sl} {δ : DS} {k : Sl → Prop} : pk (x0 :: x1 :: x2 :: x3 :: x4 :: x5 :: x6 :: x7 :: x8 :: x9 :: x10 :: x11 :: x12 :: x13 :: x14 :: x15 :: x16 :: x17 :: x18 :: x19 :: x20 :: some s :: δ) 21 k = k s := propext ⟨fun ⟨_, h, q⟩ => by cases h; exact q, fun h => ⟨s, rfl, h⟩⟩
@[simp ↓] theorem setK21 {x0 x1 x2 x3 x4 x5 x6 x7 x8 x9 x10 x11 x12 x13 x14 x15 x16 x17 x18 x19 x20 : Option Sl} {y x : Option Sl} {δ : DS} {k : DS → Prop} : setK (x0 :: x1 :: x2 :: x3 :: x4 :: x5 :: x6 :: x7 :: x8 :: x9 :: x10 :: x11 :: x12 :: x13 :: x14 :: x15 :: x16 :: x17 :: x18 :: x19 :: x20 :: y :: δ) 21 x k = k (x0 :: x1 :: x2 :: x3 :: x4 :: x5 :: x6 :: x7 :: x8 :: x9 :: x10 :: x11 :: x12 :: x13 :: x14 :: x15 :: x16 :: x17 :: x18 :: x19 :: x20 :: x :: δ) := rfl
@[simp ↓] theorem pk22 {x0 x1 x2 x3 x4 x5 x6 x7 x8 x9 x10 x11 x12 x13 x14 x15 x16 x17 x18 x19 x20 x21 : Option Sl} {s : Sl} {δ : DS} {k : Sl → Prop} : pk (x0 :: x1 :: x2 :: x3 :: x4 :: x5 :: x6 :: x7 :: x8 :: x9 :: x10 :: x11 :: x12 :: x13 :: x14 :: x15 :: x16 :: x17 :: x18 :: x19 :: x20 :: x21 :: some s :: δ) 22 k = k s := propext ⟨fun ⟨_, h, q⟩ => by cases h; exact q, fun h => ⟨s, rfl, h⟩⟩
@[simp ↓] theorem setK22 {x0 x1 x2 x3 x4 x5 x6 x7 x8 x9 x10 x11 x12 x13 x14 x15 x16 x17 x18 x19 x20 x21 : Option Sl} {y x : Option Sl} {δ : DS} {k : DS → Prop} : setK (x0 :: x1 :: x2 :: x3 :: x4 :: x5 :: x6 :: x7 :: x8 :: x9 :: x10 :: x11 :: x12 :: x13 :: x14 :: x15 :: x16 :: x17 :: x18 :: x19 :: x20 :: x21 :: y :: δ) 22 x k = k (x0 :: x1 :: x2 :: x3 :: x4 :: x5 :: x6 :: x7 :: x8 :: x9 :: x10 :: x11 :: x12 :: x13 :: x14 :: x15 :: x16 :: x17 :: x18 :: x19 :: x20 :: x21 :: x :: δ) := rfl
@[simp ↓] theorem pk23 {x0 x1 x2 x3 x4 x5 x6 x7 x8 x9 x10 x11 x12 x13 x14 x15 x16 x17 x18 x19 x20 x21 x22 : Option Sl} {s : Sl} {δ : DS} {k : Sl → Prop} : pk (x0 :: x1 :: x2 :: x3 :: x4 :: x5 :: x6 :: x7 :: x8 :: x9 :: x10 :: x11 :: x12 :: x13 :: x14 :: x15 :: x16 :: x17 :: x18 :: x19 :: x20 :: x21 :: x22 :: some s :: δ) 23 k = k s := propext ⟨fun ⟨_, h, q⟩ => by cases h; exact q, fun h => ⟨s, rfl, h⟩⟩
@[simp ↓] theorem setK23 {x0 x1 x2 x3 x4 x5 x6 x7 x8 x9 x10 x11 x12 x13 x14 x15 x16 x17 x18 x19 x20 x21 x22 : Option Sl} {y x : Option Sl} {δ : DS} {k : DS → Prop} : setK (x0 :: x1 :: x2 :: x3 :: x4 :: x5 :: x6 :: x7 :: x8 :: x9 :: x10 :: x11 :: x12 :: x13 :: x14 :: x15 :: x16 :: x17 :: x18 :: x19 :: x20 :: x21 :: x22 :: y :: δ) 23 x k = k (x0 :: x1 :: x2 :: x3 :: x4 :: x5 :: x6 :: x7 :: x8 :: x9 :: x10 :: x11 :: x12 :: x13 :: x14 :: x15 :: x16 :: x17 :: x18 :: x19 :: x20 :: x21 :: x22 :: x :: δ) := rfl
@[simp ↓] theorem frKo0 {xs : List D} {δ : DS} {k : DS → Prop} : frK (some (.own xs) :: δ) 0 k = k (some (.d (.lst xs)) :: δ) := rfl
@[simp ↓] theorem frKd0 {x : D} {δ : DS} {k : DS → Prop} : frK (some (.d x) :: δ) 0 k = k (some (.d x) :: δ) := rfl
@[simp ↓] theorem frKn0 {δ : DS} {k : DS → Prop} : frK (none :: δ) 0 k = k (none :: δ) := rfl
@[simp ↓] theorem shKo0 {xs : List D} {δ : DS} {M : MH} {k : DS → MH → Prop} : shK (some (.own xs) :: δ) M 0 k = ∀ a, M a = none → k (some (.d (.ref a)) :: δ) (mu M a (.lst xs)) := rfl
@[simp ↓] theorem shKd0 {x : D} {δ : DS} {M : MH} {k : DS → MH → Prop} : shK (some (.d x) :: δ) M 0 k = k (some (.d x) :: δ) M := rfl
@[simp ↓] theorem frKo1 {x0 : Option Sl} {xs : List D} {δ : DS} {k : DS → Prop} : frK (x0 :: some (.own xs) :: δ) 1 k = k (x0 :: some (.d (.lst xs)) :: δ) := rfl
@[simp ↓] theorem frKd1 {x0 : Option Sl} {x : D} {δ : DS} {k : DS → Prop} : frK (x0 :: some (.d x) :: δ) 1 k = k (x0 :: some (.d x) :: δ) := rfl
@[simp ↓] theorem frKn1 {x0 : Option Sl} {δ : DS} {k : DS → Prop} : frK (x0 :: none :: δ) 1 k = k (x0 :: none :: δ) := rfl
@[simp ↓] theorem shKo1 {x0 : Option Sl} {xs : List D} {δ : DS} {M : MH} {k : DS → MH → Prop} : shK (x0 :: some (.own xs) :: δ) M 1 k = ∀ a, M a = none → k (x0 :: some (.d (.ref a)) :: δ) (mu M a (.lst xs)) := rfl
@[simp ↓] theorem shKd1 {x0 : Option Sl} {x : D} {δ : DS} {M : MH} {k : DS → MH → Prop} : shK (x0 :: some (.d x) :: δ) M 1 k = k (x0 :: some (.d x) :: δ) M := rfl
@[simp ↓] theorem frKo2 {x0 x1 : Option Sl} {xs : List D} {δ : DS} {k : DS → Prop} : frK (x0 :: x1 :: some (.own xs) :: δ) 2 k = k (x0 :: x1 :: some (.d (.lst xs)) :: δ) := rfl
@[simp ↓] theorem frKd2 {x0 x1 : Option Sl} {x : D} {δ : DS} {k : DS → Prop} : frK (x0 :: x1 :: some (.d x) :: δ) 2 k = k (x0 :: x1 :: some (.d x) :: δ) := rfl
@[simp ↓] theorem frKn2 {x0 x1 : Option Sl} {δ : DS} {k : DS → Prop} : frK (x0 :: x1 :: none :: δ) 2 k = k (x0 :: x1 :: none :: δ) := rfl
@[simp ↓] theorem shKo2 {x0 x1 : Option Sl} {xs : List D} {δ : DS} {M : MH} {k : DS → MH → Prop} : shK (x0 :: x1 :: some (.own xs) :: δ) M 2 k = ∀ a, M a = none → k (x0 :: x1 :: some (.d (.ref a)) :: δ) (mu M a (.lst xs)) := rfl
@[simp ↓] theorem shKd2 {x0 x1 : Option Sl} {x : D} {δ : DS} {M : MH} {k : DS → MH → Prop} : shK (x0 :: x1 :: some (.d x) :: δ) M 2 k = k (x0 :: x1 :: some (.d x) :: δ) M := rfl
@[simp ↓] theorem frKo3 {x0 x1 x2 : Option Sl} {xs : List D} {δ : DS} {k : DS → Prop} : frK (x0 :: x1 :: x2 :: some (.own xs) :: δ) 3 k = k (x0 :: x1 :: x2 :: some (.d (.lst xs)) :: δ) := rfl
@[simp ↓] theorem frKd3 {x0 x1 x2 : Option Sl} {x : D} {δ : DS} {k : DS → Prop} : frK (x0 :: x1 :: x2 :: some (.d x) :: δ) 3 k = k (x0 :: x1 :: x2 :: some (.d x) :: δ) := rfl
@[simp ↓] theorem frKn3 {x0 x1 x2 : Option Sl} {δ : DS} {k : DS → Prop} : frK (x0 :: x1 :: x2 :: none :: δ) 3 k = k (x0 :: x1 :: x2 :: none :: δ) := rfl
@[simp ↓] theorem shKo3 {x0 x1 x2 : Option Sl} {xs : List D} {δ : DS} {M : MH} {k : DS → MH → Prop} : shK (x0 :: x1 :: x2 :: some (.own xs) :: δ) M 3 k = ∀ a, M a = none → k (x0 :: x1 :: x2 :: some (.d (.ref a)) :: δ) (mu M a (.lst xs)) := rfl
@[simp ↓] theorem shKd3 {x0 x1 x2 : Option Sl} {x : D} {δ : DS} {M : MH} {k : DS → MH → Prop} : shK (x0 :: x1 :: x2 :: some (.d x) :: δ) M 3 k = k (x0 :: x1 :: x2 :: some (.d x) :: δ) M := rfl
@[simp ↓] theorem frKo4 {x0 x1 x2 x3 : Option Sl} {xs : List D} {δ : DS} {k : DS → Prop} : frK (x0 :: x1 :: x2 :: x3 :: some (.own xs) :: δ) 4 k = k (x0 :: x1 :: x2 :: x3 :: some (.d (.lst xs)) :: δ) := rfl
@[simp ↓] theorem frKd4 {x0 x1 x2 x3 : Option Sl} {x : D} {δ : DS} {k : DS → Prop} : frK (x0 :: x1 :: x2 :: x3 :: some (.d x) :: δ) 4 k = k (x0 :: x1 :: x2 :: x3 :: some (.d x) :: δ) := rfl
@[simp ↓] theorem frKn4 {x0 x1 x2 x3 : Option Sl} {δ : DS} {k : DS → Prop} : frK (x0 :: x1 :: x2 :: x3 :: none :: δ) 4 k = k (x0 :: x1 :: x2 :: x3 :: none :: δ) := rfl
@[simp ↓] theorem shKo4 {x0 x1 x2 x3 : Option Sl} {xs : List D} {δ : DS} {M : MH} {k : DS → MH → Prop} : shK (x0 :: x1 :: x2 :: x3 :: some (.own xs) :: δ) M 4 k = ∀ a, M a = none → k (x0 :: x1 :: x2 :: x3 :: some (.d (.ref a)) :: δ) (mu M a (.lst xs)) := rfl
@[simp ↓] theorem shKd4 {x0 x1 x2 x3 : Option Sl} {x : D} {δ : DS} {M : MH} {k : DS → MH → Prop} : shK (x0 :: x1 :: x2 :: x3 :: some (.d x) :: δ) M 4 k = k (x0 :: x1 :: x2 :: x3 :: some (.d x) :: δ) M := rfl
@[simp ↓] theorem frKo5 {x0 x1 x2 x3 x4 : Option Sl} {xs : List D} {δ : DS} {k : DS → Prop} : frK (x0 :: x1 :: x2 :: x3 :: x4 :: some (.own xs) :: δ) 5 k = k (x0 :: x1 :: x2 :: x3 :: x4 :: some (.d (.lst xs)) :: δ) := rfl
@[simp ↓] theorem frKd5 {x0 x1 x2 x3 x4 : Option Sl} {x : D} {δ : DS} {k : DS → Prop} : frK (x0 :: x1 :: x2 :: x3 :: x4 :: some (.d x) :: δ) 5 k = k (x0 :: x1 :: x2 :: x3 :: x4 :: some (.d x) :: δ) := rfl
@[simp ↓] theorem frKn5 {x0 x1 x2 x3 x4 : Option Sl} {δ : DS} {k : DS → Prop} : frK (x0 :: x1 :: x2 :: x3 :: x4 :: none :: δ) 5 k = k (x0 :: x1 :: x2 :: x3 :: x4 :: none :: δ) := rfl
@[simp ↓] theorem shKo5 {x0 x1 x2 x3 x4 : Option Sl} {xs : List D} {δ : DS} {M : MH} {k : DS → MH → Prop} : shK (x0 :: x1 :: x2 :: x3 :: x4 :: some (.own xs) :: δ) M 5 k = ∀ a, M a = none → k (x0 :: x1 :: x2 :: x3 :: x4 :: some (.d (.ref a)) :: δ) (mu M a (.lst xs)) := rfl
@[simp ↓] theorem shKd5 {x0 x1 x2 x3 x4 : Option Sl} {x : D} {δ : DS} {M : MH} {k : DS → MH → Prop} : shK (x0 :: x1 :: x2 :: x3 :: x4 :: some (.d x) :: δ) M 5 k = k (x0 :: x1 :: x2 :: x3 :: x4 :: some (.d x) :: δ) M := rfl
@[simp ↓] theorem frKo6 {x0 x1 x2 x3 x4 x5 : Option Sl} {xs : List D} {δ : DS} {k : DS → Prop} : frK (x0 :: x1 :: x2 :: x3 :: x4 :: x5 :: some (.own xs) :: δ) 6 k = k (x0 :: x1 :: x2 :: x3 :: x4 :: x5 :: some (.d (.lst xs)) :: δ) := rfl
@[simp ↓] theorem frKd6 {x0 x1 x2 x3 x4 x5 : Option Sl} {x : D} {δ : DS} {k : DS → Prop} : frK (x0 :: x1 :: x2 :: x3 :: x4 :: x5 :: some (.d x) :: δ) 6 k = k (x0 :: x1 :: x2 :: x3 :: x4 :: x5 :: some (.d x) :: δ) := rfl
@[simp ↓] theorem frKn6 {x0 x1 x2 x3 x4 x5 : Option Sl} {δ : DS} {k : DS → Prop} : frK (x0 :: x1 :: x2 :: x3 :: x4 :: x5 :: none :: δ) 6 k = k (x0 :: x1 :: x2 :: x3 :: x4 :: x5 :: none :: δ) := rfl
@[simp ↓] theorem shKo6 {x0 x1 x2 x3 x4 x5 : Option Sl} {xs : List D} {δ : DS} {M : MH} {k : DS → MH → Prop} : shK (x0 :: x1 :: x2 :: x3 :: x4 :: x5 :: some (.own xs) :: δ) M 6 k = ∀ a, M a = none → k (x0 :: x1 :: x2 :: x3 :: x4 :: x5 :: some (.d (.ref a)) :: δ) (mu M a (.lst xs)) := rfl
@[simp ↓] theorem shKd6 {x0 x1 x2 x3 x4 x5 : Option Sl} {x : D} {δ : DS} {M : MH} {k : DS → MH → Prop} : shK (x0 :: x1 :: x2 :: x3 :: x4 :: x5 :: some (.d x) :: δ) M 6 k = k (x0 :: x1 :: x2 :: x3 :: x4 :: x5 :: some (.d x) :: δ) M := rfl
@[simp ↓] theorem frKo7 {x0 x1 x2 x3 x4 x5 x6 : Option Sl} {xs : List D} {δ : DS} {k : DS → Prop} : frK (x0 :: x1 :: x2 :: x3 :: x4 :: x5 :: x6 :: some (.own xs) :: δ) 7 k = k (x0 :: x1 :: x2 :: x3 :: x4 :: x5 :: x6 :: some (.d (.lst xs)) :: δ) := rfl
@[simp ↓] theorem frKd7 {x0 x1 x2 x3 x4 x5 x6 : Option Sl} {x : D} {δ : DS} {k : DS → Prop} : frK (x0 :: x1 :: x2 :: x3 :: x4 :: x5 :: x6 :: some (.d x) :: δ) 7 k = k (x0 :: x1 :: x2 :: x3 :: x4 :: x5 :: x6 :: some (.d x) :: δ) := rfl
@[simp ↓] theorem frKn7 {x0 x1 x2 x3 x4 x5 x6 : Option Sl} {δ : DS} {k : DS → Prop} : frK (x0 :: x1 :: x2 :: x3 :: x4 :: x5 :: x6 :: none :: δ) 7 k = k (x0 :: x1 :: x2 :: x3 :: x4 :: x5 :: x6 :: none :: δ) := rfl
@[simp ↓] theorem shKo7 {x0 x1 x2 x3 x4 x5 x6 : Option Sl} {xs : List D} {δ : DS} {M : MH} {k : DS → MH → Prop} : shK (x0 :: x1 :: x2 :: x3 :: x4 :: x5 :: x6 :: some (.own xs) :: δ) M 7 k = ∀ a, M a = none → k (x0 :: x1 :: x2 :: x3 :: x4 :: x5 :: x6 :: some (.d (.ref a)) :: δ) (mu M a (.lst xs)) := rfl
@[simp ↓] theorem shKd7 {x0 x1 x2 x3 x4 x5 x6 : Option Sl} {x : D} {δ : DS} {M : MH} {k : DS → MH → Prop} : shK (x0 :: x1 :: x2 :: x3 :: x4 :: x5 :: x6 :: some (.d x) :: δ) M 7 k = k (x0 :: x1 :: x2 :: x3 :: x4 :: x5 :: x6 :: some (.d x) :: δ) M := rfl
@[simp ↓] theorem frKo8 {x0 x1 x2 x3 x4 x5 x6 x7 : Option Sl} {xs : List D} {δ : DS} {k : DS → Prop} : frK (x0 :: x1 :: x2 :: x3 :: x4 :: x5 :: x6 :: x7 :: some (.own xs) :: δ) 8 k = k (x0 :: x1 :: x2 :: x3 :: x4 :: x5 :: x6 :: x7 :: some (.d (.lst xs)) :: δ) := rfl
@[simp ↓] theorem frKd8 {x0 x1 x2 x3 x4 x5 x6 x7 : Option Sl} {x : D} {δ : DS} {k : DS → Prop} : frK (x0 :: x1 :: x2 :: x3 :: x4 :: x5 :: x6 :: x7 :: some (.d x) :: δ) 8 k = k (x0 :: x1 :: x2 :: x3 :: x4 :: x5 :: x6 :: x7 :: some (.d x) :: δ) := rfl
@[simp ↓] theorem frKn8 {x0 x1 x2 x3 x4 x5 x6 x7 : Option Sl} {δ : DS} {k : DS → Prop} : frK (x0 :: x1 :: x2 :: x3 :: x4 :: x5 :: x6 :: x7 :: none :: δ) 8 k = k (x0 :: x1 :: x2 :: x3 :: x4 :: x5 :: x6 :: x7 :: none :: δ) := rfl
@[simp ↓] theorem shKo8 {x0 x1 x2 x3 x4 x5 x6 x7 : Option Sl} {xs : List D} {δ : DS} {M : MH} {k : DS → MH → Prop} : shK (x0 :: x1 :: x2 :: x3 :: x4 :: x5 :: x6 :: x7 :: some (.own xs) :: δ) M 8 k = ∀ a, M a = none → k (x0 :: x1 :: x2 :: x3 :: x4 :: x5 :: x6 :: x7 :: some (.d (.ref a)) :: δ) (mu M a (.lst xs)) := rfl
@[simp ↓] theorem shKd8 {x0 x1 x2 x3 x4 x5 x6 x7 : Option Sl} {x : D} {δ : DS} {M : MH} {k : DS → MH → Prop} : shK (x0 :: x1 :: x2 :: x3 :: x4 :: x5 :: x6 :: x7 :: some (.d x) :: δ) M 8 k = k (x0 :: x1 :: x2 :: x3 :: x4 :: x5 :: x6 :: x7 :: some (.d x) :: δ) M := rfl
@[simp ↓] theorem frKo9 {x0 x1 x2 x3 x4 x5 x6 x7 x8 : Option Sl} {xs : List D} {δ : DS} {k : DS → Prop} : frK (x0 :: x1 :: x2 :: x3 :: x4 :: x5 :: x6 :: x7 :: x8 :: some (.own xs) :: δ) 9 k = k (x0 :: x1 :: x2 :: x3 :: x4 :: x5 :: x6 :: x7 :: x8 :: some (.d (.lst xs)) :: δ) := rfl
@[simp ↓] theorem frKd9 {x0 x1 x2 x3 x4 x5 x6 x7 x8 : Option Sl} {x : D} {δ : DS} {k : DS → Prop} : frK (x0 :: x1 :: x2 :: x3 :: x4 :: x5 :: x6 :: x7 :: x8 :: some (.d x) :: δ) 9 k = k (x0 :: x1 :: x2 :: x3 :: x4 :: x5 :: x6 :: x7 :: x8 :: some (.d x) :: δ) := rfl
@[simp ↓] theorem frKn9 {x0 x1 x2 x3 x4 x5 x6 x7 x8 : Option Sl} {δ : DS} {k : DS → Prop} : frK (x0 :: x1 :: x2 :: x3 :: x4 :: x5 :: x6 :: x7 :: x8 :: none :: δ) 9 k = k (x0 :: x1 :: x2 :: x3 :: x4 :: x5 :: x6 :: x7 :: x8 :: none :: δ) := rfl
@[simp ↓] theorem shKo9 {x0 x1 x2 x3 x4 x5 x6 x7 x8 : Option Sl} {xs : List D} {δ : DS} {M : MH} {k : DS → MH → Prop} : shK (x0 :: x1 :: x2 :: x3 :: x4 :: x5 :: x6 :: x7 :: x8 :: some (.own xs) :: δ) M 9 k = ∀ a, M a = none → k (x0 :: x1 :: x2 :: x3 :: x4 :: x5 :: x6 :: x7 :: x8 :: some (.d (.ref a)) :: δ) (mu M a (.lst xs)) := rfl
@[simp ↓] theorem shKd9 {x0 x1 x2 x3 x4 x5 x6 x7 x8 : Option Sl} {x : D} {δ : DS} {M : MH} {k : DS → MH → Prop} : shK (x0 :: x1 :: x2 :: x3 :: x4 :: x5 :: x6 :: x7 :: x8 :: some (.d x) :: δ) M 9 k = k (x0 :: x1 :: x2 :: x3 :: x4 :: x5 :: x6 :: x7 :: x8 :: some (.d x) :: δ) M := rfl
@[simp ↓] theorem frKo10 {x0 x1 x2 x3 x4 x5 x6 x7 x8 x9 : Option Sl} {xs : List D} {δ : DS} {k : DS → Prop} : frK (x0 :: x1 :: x2 :: x3 :: x4 :: x5 :: x6 :: x7 :: x8 :: x9 :: some (.own xs) :: δ) 10 k = k (x0 :: x1 :: x2 :: x3 :: x4 :: x5 :: x6 :: x7 :: x8 :: x9 :: some (.d (.lst xs)) :: δ) := rfl
@[simp ↓] theorem frKd10 {x0 x1 x2 x3 x4 x5 x6 x7 x8 x9 : Option Sl} {x : D} {δ : DS} {k : DS → Prop} : frK (x0 :: x1 :: x2 :: x3 :: x4 :: x5 :: x6 :: x7 :: x8 :: x9 :: some (.d x) :: δ) 10 k = k (x0 :: x1 :: x2 :: x3 :: x4 :: x5 :: x6 :: x7 :: x8 :: x9 :: some (.d x) :: δ) := rfl
@[simp ↓] theorem frKn10 {x0 x1 x2 x3 x4 x5 x6 x7 x8 x9 : Option Sl} {δ : DS} {k : DS → Prop} : frK (x0 :: x1 :: x2 :: x3 :: x4 :: x5 :: x6 :: x7 :: x8 :: x9 :: none :: δ) 10 k = k (x0 :: x1 :: x2 :: x3 :: x4 :: x5 :: x6 :: x7 :: x8 :: x9 :: none :: δ) := rfl
@[simp ↓] theorem shKo10 {x0 x1 x2 x3 x4 x5 x6 x7 x8 x9 : Option Sl} {xs : List D} {δ : DS} {M : MH} {k : DS → MH → Prop} : shK (x0 :: x1 :: x2 :: x3 :: x4 :: x5 :: x6 :: x7 :: x8 :: x9 :: some (.own xs) :: δ) M 10 k = ∀ a, M a = none → k (x0 :: x1 :: x2 :: x3 :: x4 :: x5 :: x6 :: x7 :: x8 :: x9 :: some (.d (.ref a)) :: δ) (mu M a (.lst xs)) := rfl
@[simp ↓] theorem shKd10 {x0 x1 x2 x3 x4 x5 x6 x7 x8 x9 : Option Sl} {x : D} {δ : DS} {M : MH} {k : DS → MH → Prop} : shK (x0 :: x1 :: x2 :: x3 :: x4 :: x5 :: x6 :: x7 :: x8 :: x9 :: some (.d x) :: δ) M 10 k = k (x0 :: x1 :: x2 :: x3 :: x4 :: x5 :: x6 :: x7 :: x8 :: x9 :: some (.d x) :: δ) M := rfl
@[simp ↓] theorem frKo11 {x0 x1 x2 x3 x4 x5 x6 x7 x8 x9 x10 : Option Sl} {xs : List D} {δ : DS} {k : DS → Prop} : frK (x0 :: x1 :: x2 :: x3 :: x4 :: x5 :: x6 :: x7 :: x8 :: x9 :: x10 :: some (.own xs) :: δ) 11 k = k (x0 :: x1 :: x2 :: x3 :: x4 :: x5 :: x6 :: x7 :: x8 :: x9 :: x10 :: some (.d (.lst xs)) :: δ) := rfl
@[simp ↓] theorem frKd11 {x0 x1 x2 x3 x4 x5 x6 x7 x8 x9 x10 : Option Sl} {x : D} {δ : DS} {k : DS → Prop} : frK (x0 :: x1 :: x2 :: x3 :: x4 :: x5 :: x6 :: x7 :: x8 :: x9 :: x10 :: some (.d x) :: δ) 11 k = k (x0 :: x1 :: x2 :: x3 :: x4 :: x5 :: x6 :: x7 :: x8 :: x9 :: x10 :: some (.d x) :: δ) := rfl
@[simp ↓] theorem frKn11 {x0 x1 x2 x3 x4 x5 x6 x7 x8 x9 x10 : Option Sl} {δ : DS} {k : DS → Prop} : frK (x0 :: x1 :: x2 :: x3 :: x4 :: x5 :: x6 :: x7 :: x8 :: x9 :: x10 :: none :: δ) 11 k = k (x0 :: x1 :: x2 :: x3 :: x4 :: x5 :: x6 :: x7 :: x8 :: x9 :: x10 :: none :: δ) := rfl
@[simp ↓] theorem shKo11 {x0 x1 x2 x3 x4 x5 x6 x7 x8 x9 x10 : Option Sl} {xs : List D} {δ : DS} {M : MH} {k : DS → MH → Prop} : shK (x0 :: x1 :: x2 :: x3 :: x4 :: x5 :: x6 :: x7 :: x8 :: x9 :: x10 :: some (.own xs) :: δ) M 11 k = ∀ a, M a = none → k (x0 :: x1 :: x2 :: x3 :: x4 :: x5 :: x6 :: x7 :: x8 :: x9 :: x10 :: some (.d (.ref a)) :: δ) (mu M a (.lst xs)) := rfl
@[simp ↓] theorem shKd11 {x0 x1 x2 x3 x4 x5 x6 x7 x8 x9 x10 : Option Sl} {x : D} {δ : DS} {M : MH} {k : DS → MH → Prop} : shK (x0 :: x1 :: x2 :: x3 :: x4 :: x5 :: x6 :: x7 :: x8 :: x9 :: x10 :: some (.d x) :: δ) M 11 k = k (x0 :: x1 :: x2 :: x3 :: x4 :: x5 :: x6 :: x7 :: x8 :: x9 :: x10 :: some (.d x) :: δ) M := rfl
@[simp ↓] theorem frKo12 {x0 x1 x2 x3 x4 x5 x6 x7 x8 x9 x10 x11 : Option Sl} {xs : List D} {δ : DS} {k : DS → Prop} : frK (x0 :: x1 :: x2 :: x3 :: x4 :: x5 :: x6 :: x7 :: x8 :: x9 :: x10 :: x11 :: some (.own xs) :: δ) 12 k = k (x0 :: x1 :: x2 :: x3 :: x4 :: x5 :: x6 :: x7 :: x8 :: x9 :: x10 :: x11 :: some (.d (.lst xs)) :: δ) := rfl
@[simp ↓] theorem frKd12 {x0 x1 x2 x3 x4 x5 x6 x7 x8 x9 x10 x11 : Option Sl} {x : D} {δ : DS} {k : DS → Prop} : frK (x0 :: x1 :: x2 :: x3 :: x4 :: x5 :: x6 :: x7 :: x8 :: x9 :: x10 :: x11 :: some (.d x) :: δ) 12 k = k (x0 :: x1 :: x2 :: x3 :: x4 :: x5 :: x6 :: x7 :: x8 :: x9 :: x10 :: x11 :: some (.d x) :: δ) := rfl
@[simp ↓] theorem frKn12 {x0 x1 x2 x3 x4 x5 x6 x7 x8 x9 x10 x11 : Option Sl} {δ : DS} {k : DS → Prop} : frK (x0 :: x1 :: x2 :: x3 :: x4 :: x5 :: x6 :: x7 :: x8 :: x9 :: x10 :: x11 :: none :: δ) 12 k = k (x0 :: x1 :: x2 :: x3 :: x4 :: x5 :: x6 :: x7 :: x8 :: x9 :: x10 :: x11 :: none :: δ) := rfl
@[simp ↓] theorem shKo12 {x0 x1 x2 x3 x4 x5 x6 x7 x8 x9 x10 x11 : Option Sl} {xs : List D} {δ : DS} {M : MH} {k : DS → MH → Prop} : shK (x0 :: x1 :: x2 :: x3 :: x4 :: x5 :: x6 :: x7 :: x8 :: x9 :: x10 :: x11 :: some (.own xs) :: δ) M 12 k = ∀ a, M a = none → k (x0 :: x1 :: x2 :: x3 :: x4 :: x5 :: x6 :: x7 :: x8 :: x9 :: x10 :: x11 :: some (.d (.ref a)) :: δ) (mu M a (.lst xs)) := rfl
@[simp ↓] theorem shKd12 {x0 x1 x2 x3 x4 x5 x6 x7 x8 x9 x10 x11 : Option Sl} {x : D} {δ : DS} {M : MH} {k : DS → MH → Prop} : shK (x0 :: x1 :: x2 :: x3 :: x4 :: x5 :: x6 :: x7 :: x8 :: x9 :: x10 :: x11 :: some (.d x) :: δ) M 12 k = k (x0 :: x1 :: x2 :: x3 :: x4 :: x5 :: x6 :: x7 :: x8 :: x9 :: x10 :: x11 :: some (.d x) :: δ) M := rfl
@[simp ↓] theorem frKo13 {x0 x1 x2 x3 x4 x5 x6 x7 x8 x9 x10 x11 x12 : Option Sl} {xs : List D} {δ : DS} {k : DS → Prop} : frK (x0 :: x1 :: x2 :: x3 :: x4 :: x5 :: x6 :: x7 :: x8 :: x9 :: x10 :: x11 :: x12 :: some (.own xs) :: δ) 13 k = k (x0 :: x1 :: x2 :: x3 :: x4 :: x5 :: x6 :: x7 :: x8 :: x9 :: x10 :: x11 :: x12 :: some (.d (.lst xs)) :: δ) := rfl
@[simp ↓] theorem frKd13 {x0 x1 x2 x3 x4 x5 x6 x7 x8 x9 x10 x11 x12 : Option Sl} {x : D} {δ : DS} {k : DS → Prop} : frK (x0 :: x1 :: x2 :: x3 :: x4 :: x5 :: x6 :: x7 :: x8 :: x9 :: x10 :: x11 :: x12 :: some (.d x) :: δ) 13 k = k (x0 :: x1 :: x2 :: x3 :: x4 :: x5 :: x6 :: x7 :: x8 :: x9 :: x10 :: x11 :: x12 :: some (.d x) :: δ) := rfl
@[simp ↓] theorem frKn13 {x0 x1 x2 x3 x4 x5 x6 x7 x8 x9 x10 x11 x12 : Option Sl} {δ : DS} {k : DS → Prop} : frK (x0 :: x1 :: x2 :: x3 :: x4 :: x5 :: x6 :: x7 :: x8 :: x9 :: x10 :: x11 :: x12 :: none :: δ) 13 k = k (x0 :: x1 :: x2 :: x3 :: x4 :: x5 :: x6 :: x7 :: x8 :: x9 :: x10 :: x11 :: x12 :: none :: δ) := rfl
@[simp ↓] theorem shKo13 {x0 x1 x2 x3 x4 x5 x6 x7 x8 x9 x10 x11 x12 : Option Sl} {xs : List D} {δ : DS} {M : MH} {k : DS → MH → Prop} : shK (x0 :: x1 :: x2 :: x3 :: x4 :: x5 :: x6 :: x7 :: x8 :: x9 :: x10 :: x11 :: x12 :: some (.own xs) :: δ) M 13 k = ∀ a, M a = none → k (x0 :: x1 :: x2 :: x3 :: x4 :: x5 :: x6 :: x7 :: x8 :: x9 :: x10 :: x11 :: x12 :: some (.d (.ref a)) :: δ) (mu M a (.lst xs)) := rfl
@[simp ↓] theorem shKd13 {x0 x1 x2 x3 x4 x5 x6 x7 x8 x9 x10 x11 x12 : Option Sl} {x : D} {δ : DS} {M : MH} {k : DS → MH → Prop} : shK (x0 :: x1 :: x2 :: x3 :: x4 :: x5 :: x6 :: x7 :: x8 :: x9 :: x10 :: x11 :: x12 :: some (.d x) :: δ) M 13 k = k (x0 :: x1 :: x2 :: x3 :: x4 :: x5 :: x6 :: x7 :: x8 :: x9 :: x10 :: x11 :: x12 :: some (.d x) :: δ) M := rfl
@[simp ↓] theorem frKo14 {x0 x1 x2 x3 x4 x5 x6 x7 x8 x9 x10 x11 x12 x13 : Option Sl} {xs : List D} {δ : DS} {k : DS → Prop} : frK (x0 :: x1 :: x2 :: x3 :: x4 :: x5 :: x6 :: x7 :: x8 :: x9 :: x10 :: x11 :: x12 :: x13 :: some (.own xs) :: δ) 14 k = k (x0 :: x1 :: x2 :: x3 :: x4 :: x5 :: x6 :: x7 :: x8 :: x9 :: x10 :: x11 :: x12 :: x13 :: some (.d (.lst xs)) :: δ) := rfl
@[simp ↓] theorem frKd14 {x0 x1 x2 x3 x4 x5 x6 x7 x8 x9 x10 x11 x12 x13 : Option Sl} {x : D} {δ : DS} {k : DS → Prop} : frK (x0 :: x1 :: x2 :: x3 :: x4 :: x5 :: x6 :: x7 :: x8 :: x9 :: x10 :: x11 :: x12 :: x13 :: some (.d x) :: δ) 14 k = k (x0 :: x1 :: x2 :: x3 :: x4 :: x5 :: x6 :: x7 :: x8 :: x9 :: x10 :: x11 :: x12 :: x13 :: some (.d x) :: δ) := rfl
@[simp ↓] theorem frKn14 {x0 x1 x2 x3 x4 x5 x6 x7 x8 x9 x10 x11 x12 x13 : Option Sl} {δ : DS} {k : DS → Prop} : frK (x0 :: x1 :: x2 :: x3 :: x4 :: x5 :: x6 :: x7 :: x8 :: x9 :: x10 :: x11 :: x12 :: x13 :: none :: δ) 14 k = k (x0 :: x1 :: x2 :: x3 :: x4 :: x5 :: x6 :: x7 :: x8 :: x9 :: x10 :: x11 :: x12 :: x13 :: none :: δ) := rfl
@[simp ↓] theorem shKo14 {x0 x1 x2 x3 x4 x5 x6 x7 x8 x9 x10 x11 x12 x13 : Option Sl} {xs : List D} {δ : DS} {M : MH} {k : DS → MH → Prop} : shK (x0 :: x1 :: x2 :: x3 :: x4 :: x5 :: x6 :: x7 :: x8 :: x9 :: x10 :: x11 :: x12 :: x13 :: some (.own xs) :: δ) M 14 k = ∀ a, M a = none → k (x0 :: x1 :: x2 :: x3 :: x4 :: x5 :: x6 :: x7 :: x8 :: x9 :: x10 :: x11 :: x12 :: x13 :: some (.d (.ref a)) :: δ) (mu M a (.lst xs)) := rfl
@[simp ↓] theorem shKd14 {x0 x1 x2 x3 x4 x5 x6 x7 x8 x9 x10 x11 x12 x13 : Option Sl} {x : D} {δ : DS} {M : MH} {k : DS → MH → Prop} : shK (x0 :: x1 :: x2 :: x3 :: x4 :: x5 :: x6 :: x7 :: x8 :: x9 :: x10 :: x11 :: x12 :: x13 :: some (.d x) :: δ) M 14 k = k (x0 :: x1 :: x2 :: x3 :: x4 :: x5 :: x6 :: x7 :: x8 :: x9 :: x10 :: x11 :: x12 :: x13 :: some (.d x) :: δ) M := rfl
@[simp ↓] theorem frKo15 {x0 x1 x2 x3 x4 x5 x6 x7 x8 x9 x10 x11 x12 x13 x14 : Option Sl} {xs : List D} {δ : DS} {k : DS → Prop} : frK (x0 :: x1 :: x2 :: x3 :: x4 :: x5 :: x6 :: x7 :: x8 :: x9 :: x10 :: x11 :: x12 :: x13 :: x14 :: some (.own xs) :: δ) 15 k = k (x0 :: x1 :: x2 :: x3 :: x4 :: x5 :: x6 :: x7 :: x8 :: x9 :: x10 :: x11 :: x12 :: x13 :: x14 :: some (.d (.lst xs)) :: δ) := rfl
@[simp ↓] theorem frKd15 {x0 x1 x2 x3 x4 x5 x6 x7 x8 x9 x10 x11 x12 x13 x14 : Option Sl} {x : D} {δ : DS} {k : DS → Prop} : frK (x0 :: x1 :: x2 :: x3 :: x4 :: x5 :: x6 :: x7 :: x8 :: x9 :: x10 :: x11 :: x12 :: x13 :: x14 :: some (.d x) :: δ) 15 k = k (x0 :: x1 :: x2 :: x3 :: x4 :: x5 :: x6 :: x7 :: x8 :: x9 :: x10 :: x11 :: x12 :: x13 :: x14 :: some (.d x) :: δ) := rfl
@[simp ↓] theorem frKn15 {x0 x1 x2 x3 x4 x5 x6 x7 x8 x9 x10 x11 x12 x13 x14 : Option Sl} {δ : DS} {k : DS → Prop} : frK (x0 :: x1 :: x2 :: x3 :: x4 :: x5 :: x6 :: x7 :: x8 :: x9 :: x10 :: x11 :: x12 :: x13 :: x14 :: none :: δ) 15 k = k (x0 :: x1 :: x2 :: x3 :: x4 :: x5 :: x6 :: x7 :: x8 :: x9 :: x10 :: x11 :: x12 :: x13 :: x14 :: none :: δ) := rfl
@[simp ↓] theorem shKo15 {x0 x1 x2 x3 x4 x5 x6 x7 x8 x9 x10 x11 x12 x13 x14 : Option Sl} {xs : List D} {δ : DS} {M : MH} {k : DS → MH → Prop} : shK (x0 :: x1 :: x2 :: x3 :: x4 :: x5 :: x6 :: x7 :: x8 :: x9 :: x10 :: x11 :: x12 :: x13 :: x14 :: some (.own xs) :: δ) M 15 k = ∀ a, M a = none → k (x0 :: x1 :: x2 :: x3 :: x4 :: x5 :: x6 :: x7 :: x8 :: x9 :: x10 :: x11 :: x12 :: x13 :: x14 :: some (.d (.ref a)) :: δ) (mu M a (.lst xs)) := rfl
@[simp ↓] theorem shKd15 {x0 x1 x2 x3 x4 x5 x6 x7 x8 x9 x10 x11 x12 x13 x14 : Option Sl} {x : D} {δ : DS} {M : MH} {k : DS → MH → Prop} : shK (x0 :: x1 :: x2 :: x3 :: x4 :: x5 :: x6 :: x7 :: x8 :: x9 :: x10 :: x11 :: x12 :: x13 :: x14 :: some (.d x) :: δ) M 15 k = k (x0 :: x1 :: x2 :: x3 :: x4 :: x5 :: x6 :: x7 :: x8 :: x9 :: x10 :: x11 :: x12 :: x13 :: x14 :: some (.d x) :: δ) M := rfl
@[simp ↓] theorem frKo16 {x0 x1 x2 x3 x4 x5 x6 x7 x8 x9 x10 x11 x12 x13 x14 x15 : Option Sl} {xs : List D} {δ : DS} {k : DS → Prop} : frK (x0 :: x1 :: x2 :: x3 :: x4 :: x5 :: x6 :: x7 :: x8 :: x9 :: x10 :: x11 :: x12 :: x13 :: x14 :: x15 :: some (.own xs) :: δ) 16 k = k (x0 :: x1 :: x2 :: x3 :: x4 :: x5 :: x6 :: x7 :: x8 :: x9 :: x10 :: x11 :: x12 :: x13 :: x14 :: x15 :: some (.d (.lst xs)) :: δ) := rfl
@[simp ↓] theorem frKd16 {x0 x1 x2 x3 x4 x5 x6 x7 x8 x9 x10 x11 x12 x13 x14 x15 : Option Sl} {x : D} {δ : DS} {k : DS → Prop} : frK (x0 :: x1 :: x2 :: x3 :: x4 :: x5 :: x6 :: x7 :: x8 :: x9 :: x10 :: x11 :: x12 :: x13 :: x14 :: x15 :: some (.d x) :: δ) 16 k = k (x0 :: x1 :: x2 :: x3 :: x4 :: x5 :: x6 :: x7 :: x8 :: x9 :: x10 :: x11 :: x12 :: x13 :: x14 :: x15 :: some (.d x) :: δ) := rfl
@[simp ↓] theorem frKn16 {x0 x1 x2 x3 x4 x5 x6 x7 x8 x9 x10 x11 x12 x13 x14 x15 : Option Sl} {δ : DS} {k : DS → Prop} : frK (x0 :: x1 :: x2 :: x3 :: x4 :: x5 :: x6 :: x7 :: x8 :: x9 :: x10 :: x11 :: x12 :: x13 :: x14 :: x15 :: none :: δ) 16 k = k (x0 :: x1 :: x2 :: x3 :: x4 :: x5 :: x6 :: x7 :: x8 :: x9 :: x10 :: x11 :: x12 :: x13 :: x14 :: x15 :: none :: δ) := rfl
@[simp ↓] theorem shKo16 {x0 x1 x2 x3 x4 x5 x6 x7 x8 x9 x10 x11 x12 x13 x14 x15 : Option Sl} {xs : List D} {δ : DS} {M : MH} {k : DS → MH → Prop} : shK (x0 :: x1 :: x2 :: x3 :: x4 :: x5 :: x6 :: x7 :: x8 :: x9 :: x10 :: x11 :: x12 :: x13 :: x14 :: x15 :: some (.own xs) :: δ) M 16 k = ∀ a, M a = none → k (x0 :: x1 :: x2 :: x3 :: x4 :: x5 :: x6 :: x7 :: x8 :: x9 :: x10 :: x11 :: x12 :: x13 :: x14 :: x15 :: some (.d (.ref a)) :: δ) (mu M a (.lst xs)) := rfl
@[simp ↓] theorem shKd16 {x0 x1 x2 x3 x4 x5 x6 x7 x8 x9 x10 x11 x12 x13 x14 x15 : Option Sl} {x : D} {δ : DS} {M : MH} {k : DS → MH → Prop} : shK (x0 :: x1 :: x2 :: x3 :: x4 :: x5 :: x6 :: x7 :: x8 :: x9 :: x10 :: x11 :: x12 :: x13 :: x14 :: x15 :: some (.d x) :: δ) M 16 k = k (x0 :: x1 :: x2 :: x3 :: x4 :: x5 :: x6 :: x7 :: x8 :: x9 :: x10 :: x11 :: x12 :: x13 :: x14 :: x15 :: some (.d x) :: δ) M := rfl
@[simp ↓] theorem frKo17 {x0 x1 x2 x3 x4 x5 x6 x7 x8 x9 x10 x11 x12 x13 x14 x15 x16 : Option Sl} {xs : List D} {δ : DS} {k : DS → Prop} : frK (x0 :: x1 :: x2 :: x3 :: x4 :: x5 :: x6 :: x7 :: x8 :: x9 :: x10 :: x11 :: x12 :: x13 :: x14 :: x15 :: x16 :: some (.own xs) :: δ) 17 k = k (x0 :: x1 :: x2 :: x3 :: x4 :: x5 :: x6 :: x7 :: x8 :: x9 :: x10 :: x11 :: x12 :: x13 :: x14 :: x15 :: x16 :: some (.d (.lst xs)) :: δ) := rfl
@[simp ↓] theorem frKd17 {x0 x1 x2 x3 x4 x5 x6 x7 x8 x9 x10 x11 x12 x13 x14 x15 x16 : Option Sl} {x : D} {δ : DS} {k : DS → Prop} : frK (x0 :: x1 :: x2 :: x3 :: x4 :: x5 :: x6 :: x7 :: x8 :: x9 :: x10 :: x11 :: x12 :: x13 :: x14 :: x15 :: x16 :: some (.d x) :: δ) 17 k = k (x0 :: x1 :: x2 :: x3 :: x4 :: x5 :: x6 :: x7 :: x8 :: x9 :: x10 :: x11 :: x12 :: x13 :: x14 :: x15 :: x16 :: some (.d x) :: δ) := rfl
@[simp ↓] theorem frKn17 {x0 x1 x2 x3 x4 x5 x6 x7 x8 x9 x10 x11 x12 x13 x14 x15 x16 : Option Sl} {δ : DS} {k : DS → Prop} : frK (x0 :: x1 :: x2 :: x3 :: x4 :: x5 :: x6 :: x7 :: x8 :: x9 :: x10 :: x11 :: x12 :: x13 :: x14 :: x15 :: x16 :: none :: δ) 17 k = k (x0 :: x1 :: x2 :: x3 :: x4 :: x5 :: x6 :: x7 :: x8 :: x9 :: x10 :: x11 :: x12 :: x13 :: x14 :: x15 :: x16 :: none :: δ) := rfl
@[simp ↓] theorem shKo17 {x0 x1 x2 x3 x4 x5 x6 x7 x8 x9 x10 x11 x12 x13 x14 x15 x16 : Option Sl} {xs : List D} {δ : DS} {M : MH} {k : DS → MH → Prop} : shK (x0 :: x1 :: x2 :: x3 :: x4 :: x5 :: x6 :: x7 :: x8 :: x9 :: x10 :: x11 :: x12 :: x13 :: x14 :: x15 :: x16 :: some (.own xs) :: δ) M 17 k = ∀ a, M a = none → k (x0 :: x1 :: x2 :: x3 :: x4 :: x5 :: x6 :: x7 :: x8 :: x9 :: x10 :: x11 :: x12 :: x13 :: x14 :: x15 :: x16 :: some (.d (.ref a)) :: δ) (mu M a (.lst xs)) := rfl
@[simp ↓] theorem shKd17 {x0 x1 x2 x3 x4 x5 x6 x7 x8 x9 x10 x11 x12 x13 x14 x15 x16 : Option Sl} {x : D} {δ : DS} {M : MH} {k : DS → MH → Prop} : shK (x0 :: x1 :: x2 :: x3 :: x4 :: x5 :: x6 :: x7 :: x8 :: x9 :: x10 :: x11 :: x12 :: x13 :: x14 :: x15 :: x16 :: some (.d x) :: δ) M 17 k = k (x0 :: x1 :: x2 :: x3 :: x4 :: x5 :: x6 :: x7 :: x8 :: x9 :: x10 :: x11 :: x12 :: x13 :: x14 :: x15 :: x16 :: some (.d x) :: δ) M := rfl
@[simp ↓] theorem frKo18 {x0 x1 x2 x3 x4 x5 x6 x7 x8 x9 x10 x11 x12 x13 x14 x15 x16 x17 : Option Sl} {xs : List D} {δ : DS} {k : DS → Prop} : frK (x0 :: x1 :: x2 :: x3 :: x4 :: x5 :: x6 :: x7 :: x8 :: x9 :: x10 :: x11 :: x12 :: x13 :: x14 :: x15 :: x16 :: x17 :: some (.own xs) :: δ) 18 k = k (x0 :: x1 :: x2 :: x3 :: x4 :: x5 :: x6 :: x7 :: x8 :: x9 :: x10 :: x11 :: x12 :: x13 :: x14 :: x15 :: x16 :: x17 :: some (.d (.lst xs)) :: δ) := rfl
@[simp ↓] theorem frKd18 {x0 x1 x2 x3 x4 x5 x6 x7 x8 x9 x10 x11 x12 x13 x14 x15 x16 x17 : Option Sl} {x : D} {δ : DS} {k : DS → Prop} : frK (x0 :: x1 :: x2 :: x3 :: x4 :: x5 :: x6 :: x7 :: x8 :: x9 :: x10 :: x11 :: x12 :: x13 :: x14 :: x15 :: x16 :: x17 :: some (.d x) :: δ) 18 k = k (x0 :: x1 :: x2 :: x3 :: x4 :: x5 :: x6 :: x7 :: x8 :: x9 :: x10 :: x11 :: x12 :: x13 :: x14 :: x15 :: x16 :: x17 :: some (.d x) :: δ) := rfl
@[simp ↓] theorem frKn18 {x0 x1 x2 x3 x4 x5 x6 x7 x8 x9 x10 x11 x12 x13 x14 x15 x16 x17 : Option Sl} {δ : DS} {k : DS → Prop} : frK (x0 :: x1 :: x2 :: x3 :: x4 :: x5 :: x6 :: x7 :: x8 :: x9 :: x10 :: x11 :: x12 :: x13 :: x14 :: x15 :: x16 :: x17 :: none :: δ) 18 k = k (x0 :: x1 :: x2 :: x3 :: x4 :: x5 :: x6 :: x7 :: x8 :: x9 :: x10 :: x11 :: x12 :: x13 :: x14 :: x15 :: x16 :: x17 :: none :: δ) := rfl
@[simp ↓] theorem shKo18 {x0 x1 x2 x3 x4 x5 x6 x7 x8 x9 x10 x11 x12 x13 x14 x15 x16 x17 : Option Sl} {xs : List D} {δ : DS} {M : MH} {k : DS → MH → Prop} : shK (x0 :: x1 :: x2 :: x3 :: x4 :: x5 :: x6 :: x7 :: x8 :: x9 :: x10 :: x11 :: x12 :: x13 :: x14 :: x15 :: x16 :: x17 :: some (.own xs) :: δ) M 18 k = ∀ a, M a = none → k (x0 :: x1 :: x2 :: x3 :: x4 :: x5 :: x6 :: x7 :: x8 :: x9 :: x10 :: x11 :: x12 :: x13 :: x14 :: x15 :: x16 :: x17 :: some (.d (.ref a)) :: δ) (mu M a (.lst xs)) := rfl
@[simp ↓] theorem shKd18 {x0 x1 x2 x3 x4 x5 x6 x7 x8 x9 x10 x11 x12 x13 x14 x15 x16 x17 : Option Sl} {x : D} {δ : DS} {M : MH} {k : DS → MH → Prop} : shK (x0 :: x1 :: x2 :: x3 :: x4 :: x5 :: x6 :: x7 :: x8 :: x9 :: x10 :: x11 :: x12 :: x13 :: x14 :: x15 :: x16 :: x17 :: some (.d x) :: δ) M 18 k = k (x0 :: x1 :: x2 :: x3 :: x4 :: x5 :: x6 :: x7 :: x8 :: x9 :: x10 :: x11 :: x12 :: x13 :: x14 :: x15 :: x16 :: x17 :: some (.d x) :: δ) M := rfl
@[simp ↓] theorem frKo19 {x0 x1 x2 x3 x4 x5 x6 x7 x8 x9 x10 x11 x12 x13 x14 x15 x16 x17 x18 : Option Sl} {xs : List D} {δ : DS} {k : DS → Prop} : frK (x0 :: x1 :: x2 :: x3 :: x4 :: x5 :: x6 :: x7 :: x8 :: x9 :: x10 :: x11 :: x12 :: x13 :: x14 :: x15 :: x16 :: x17 :: x18 :: some (.own xs) :: δ) 19 k = k (x0 :: x1 :: x2 :: x3 :: x4 :: x5 :: x6 :: x7 :: x8 :: x9 :: x10 :: x11 :: x12 :: x13 :: x14 :: x15 :: x16 :: x17 :: x18 :: some (.d (.lst xs)) :: δ) := rfl
@[simp ↓] theorem frKd19 {x0 x1 x2 x3 x4 x5 x6 x7 x8 x9 x10 x11 x12 x13 x14 x15 x16 x17 x18 : Option Sl} {x : D} {δ : DS} {k : DS → Prop} : frK (x0 :: x1 :: x2 :: x3 :: x4 :: x5 :: x6 :: x7 :: x8 :: x9 :: x10 :: x11 :: x12 :: x13 :: x14 :: x15 :: x16 :: x17 :: x18 :: some (.d x) :: δ) 19 k = k (x0 :: x1 :: x2 :: x3 :: x4 :: x5 :: x6 :: x7 :: x8 :: x9 :: x10 :: x11 :: x12 :: x13 :: x14 :: x15 :: x16 :: x17 :: x18 :: some (.d x) :: δ) := rfl
@[simp ↓] theorem frKn19 {x0 x1 x2 x3 x4 x5 x6 x7 x8 x9 x10 x11 x12 x13 x14 x15 x16 x17 x18 : Option Sl} {δ : DS} {k : DS → Prop} : frK (x0 :: x1 :: x2 :: x3 :: x4 :: x5 :: x6 :: x7 :: x8 :: x9 :: x10 :: x11 :: x12 :: x13 :: x14 :: x15 :: x16 :: x17 :: x18 :: none :: δ) 19 k = k (x0 :: x1 :: x2 :: x3 :: x4 :: x5 :: x6 :: x7 :: x8 :: x9 :: x10 :: x11 :: x12 :: x13 :: x14 :: x15 :: x16 :: x17 :: x18 :: none :: δ) := rfl
@[simp ↓] theorem shKo19 {x0 x1 x2 x3 x4 x5 x6 x7 x8 x9 x10 x11 x12 x13 x14 x15 x16 x17 x18 : Option Sl} {xs : List D} {δ : DS} {M : MH} {k : DS → MH → Prop} : shK (x0 :: x1 :: x2 :: x3 :: x4 :: x5 :: x6 :: x7 :: x8 :: x9 :: x10 :: x11 :: x12 :: x13 :: x14 :: x15 :: x16 :: x17 :: x18 :: some (.own xs) :: δ) M 19 k = ∀ a, M a = none → k (x0 :: x1 :: x2 :: x3 :: x4 :: x5 :: x6 :: x7 :: x8 :: x9 :: x10 :: x11 :: x12 :: x13 :: x14 :: x15 :: x16 :: x17 :: x18 :: some (.d (.ref a)) :: δ) (mu M a (.lst xs)) := rfl
@[simp ↓] theorem shKd19 {x0 x1 x2 x3 x4 x5 x6 x7 x8 x9 x10 x11 x12 x13 x14 x15 x16 x17 x18 : Option Sl} {x : D} {δ : DS} {M : MH} {k : DS → MH → Prop} : shK (x0 :: x1 :: x2 :: x3 :: x4 :: x5 :: x6 :: x7 :: x8 :: x9 :: x10 :: x11 :: x12 :: x13 :: x14 :: x15 :: x16 :: x17 :: x18 :: some (.d x) :: δ) M 19 k = k (x0 :: x1 :: x2 :: x3 :: x4 :: x5 :: x6 :: x7 :: x8 :: x9 :: x10 :: x11 :: x12 :: x13 :: x14 :: x15 :: x16 :: x17 :: x18 :: some (.d x) :: δ) M := rfl
@[simp ↓] theorem frKo20 {x0 x1 x2 x3 x4 x5 x6 x7 x8 x9 x10 x11 x12 x13 x14 x15 x16 x17 x18 x19 : Option Sl} {xs : List D} {δ : DS} {k : DS → Prop} : frK (x0 :: x1 :: x2 :: x3 :: x4 :: x5 :: x6 :: x7 :: x8 :: x9 :: x10 :: x11 :: x12 :: x13 :: x14 :: x15 :: x16 :: x17 :: x18 :: x19 :: some (.own xs) :: δ) 20 k = k (x0 :: x1 :: x2 :: x3 :: x4 :: x5 :: x6 :: x7 :: x8 :: x9 :: x10 :: x11 :: x12 :: x13 :: x14 :: x15 :: x16 :: x17 :: x18 :: x19 :: some (.d (.lst xs)) :: δ) := rfl
@[simp ↓] theorem frKd20 {x0 x1 x2 x3 x4 x5 x6 x7 x8 x9 x10 x11 x12 x13 x14 x15 x16 x17 x18 x19 : Option Sl} {x : D} {δ : DS} {k : DS → Prop} : frK (x0 :: x1 :: x2 :: x3 :: x4 :: x5 :: x6 :: x7 :: x8 :: x9 :: x10 :: x11 :: x12 :: x13 :: x14 :: x15 :: x16 :: x17 :: x18 :: x19 :: some (.d x) :: δ) 20 k = k (x0 :: x1 :: x2 :: x3 :: x4 :: x5 :: x6 :: x7 :: x8 :: x9 :: x10 :: x11 :: x12 :: x13 :: x14 :: x15 :: x16 :: x17 :: x18 :: x19 :: some (.d x) :: δ) := rfl
@[simp ↓] theorem frKn20 {x0 x1 x2 x3 x4 x5 x6 x7 x8 x9 x10 x11 x12 x13 x14 x15 x16 x17 x18 x19 : Option Sl} {δ : DS} {k : DS → Prop} : frK (x0 :: x1 :: x2 :: x3 :: x4 :: x5 :: x6 :: x7 :: x8 :: x9 :: x10 :: x11 :: x12 :: x13 :: x14 :: x15 :: x16 :: x17 :: x18 :: x19 :: none :: δ) 20 k = k (x0 :: x1 :: x2 :: x3 :: x4 :: x5 :: x6 :: x7 :: x8 :: x9 :: x10 :: x11 :: x12 :: x13 :: x14 :: x15 :: x16 :: x17 :: x18 :: x19 :: none :: δ) := rfl
@[simp ↓] theorem shKo20 {x0 x1 x2 x3 x4 x5 x6 x7 x8 x9 x10 x11 x12 x13 x14 x15 x16 x17 x18 x19 : Option Sl} {xs : List D} {δ : DS} {M : MH} {k : DS → MH → Prop} : shK (x0 :: x1 :: x2 :: x3 :: x4 :: x5 :: x6 :: x7 :: x8 :: x9 :: x10 :: x11 :: x12 :: x13 :: x14 :: x15 :: x16 :: x17 :: x18 :: x19 :: some (.own xs) :: δ) M 20 k = ∀ a, M a = none → k (x0 :: x1 :: x2 :: x3 :: x4 :: x5 :: x6 :: x7 :: x8 :: x9 :: x10 :: x11 :: x12 :: x13 :: x14 :: x15 :: x16 :: x17 :: x18 :: x19 :: some (.d (.ref a)) :: δ) (mu M a (.lst xs)) := rfl
@[simp ↓] theorem shKd20 {x0 x1 x2 x3 x4 x5 x6 x7 x8 x9 x10 x11 x12 x13 x14 x15 x16 x17 x18 x19 : Option Sl} {x : D} {δ : DS} {M : MH} {k : DS → MH → Prop} : shK (x0 :: x1 :: x2 :: x3 :: x4 :: x5 :: x6 :: x7 :: x8 :: x9 :: x10 :: x11 :: x12 :: x13 :: x14 :: x15 :: x16 :: x17 :: x18 :: x19 :: some (.d x) :: δ) M 20 k = k (x0 :: x1 :: x2 :: x3 :: x4 :: x5 :: x6 :: x7 :: x8 :: x9 :: x10 :: x11 :: x12 :: x13 :: x14 :: x15 :: x16 :: x17 :: x18 :: x19 :: some (.d x) :: δ) M := rfl
@[simp ↓] theorem frKo21 {x0 x1 x2 x3 x4 x5 x6 x7 x8 x9 x10 x11 x12 x13 x14 x15 x16 x17 x18 x19 x20 : Option Sl} {xs : List D} {δ : DS} {k : DS → Prop} : frK (x0 :: x1 :: x2 :: x3 :: x4 :: x5 :: x6 :: x7 :: x8 :: x9 :: x10 :: x11 :: x12 :: x13 :: x14 :: x15 :: x16 :: x17 :: x18 :: x19 :: x20 :: some (.own xs) :: δ) 21 k = k (x0 :: x1 :: x2 :: x3 :: x4 :: x5 :: x6 :: x7 :: x8 :: x9 :: x10 :: x11 :: x12 :: x13 :: x14 :: x15 :: x16 :: x17 :: x18 :: x19 :: x20 :: some (.d (.lst xs)) :: δ) := rfl
@[simp ↓] theorem frKd21 {x0 x1 x2 x3 x4 x5 x6 x7 x8 x9 x10 x11 x12 x13 x14 x15 x16 x17 x18 x19 x20 : Option Sl} {x : D} {δ : DS} {k : DS → Prop} : frK (x0 :: x1 :: x2 :: x3 :: x4 :: x5 :: x6 :: x7 :: x8 :: x9 :: x10 :: x11 :: x12 :: x13 :: x14 :: x15 :: x16 :: x17 :: x18 :: x19 :: x20 :: some (.d x) :: δ) 21 k = k (x0 :: x1 :: x2 :: x3 :: x4 :: x5 :: x6 :: x7 :: x8 :: x9 :: x10 :: x11 :: x12 :: x13 :: x14 :: x15 :: x16 :: x17 :: x18 :: x19 :: x20 :: some (.d x) :: δ) := rfl
@[simp ↓] theorem frKn21 {x0 x1 x2 x3 x4 x5 x6 x7 x8 x9 x10 x11 x12 x13 x14 x15 x16 x17 x18 x19 x20 : Option Sl} {δ : DS} {k : DS → Prop} : frK (x0 :: x1 :: x2 :: x3 :: x4 :: x5 :: x6 :: x7 :: x8 :: x9 :: x10 :: x11 :: x12 :: x13 :: x14 :: x15 :: x16 :: x17 :: x18 :: x19 :: x20 :: none :: δ) 21 k = k (x0 :: x1 :: x2 :: x3 :: x4 :: x5 :: x6 :: x7 :: x8 :: x9 :: x10 :: x11 :: x12 :: x13 :: x14 :: x15 :: x16 :: x17 :: x18 :: x19 :: x20 :: none :: δ) := rfl
@[simp ↓] theorem shKo21 {x0 x1 x2 x3 x4 x5 x6 x7 x8 x9 x10 x11 x12 x13 x14 x15 x16 x17 x18 x19 x20 : Option Sl} {xs : List D} {δ : DS} {M : MH} {k : DS → MH → Prop} : shK (x0 :: x1 :: x2 :: x3 :: x4 :: x5 :: x6 :: x7 :: x8 :: x9 :: x10 :: x11 :: x12 :: x13 :: x14 :: x15 :: x16 :: x17 :: x18 :: x19 :: x20 :: some (.own xs) :: δ) M 21 k = ∀ a, M a = none → k (x0 :: x1 :: x2 :: x3 :: x4 :: x5 :: x6 :: x7 :: x8 :: x9 :: x10 :: x11 :: x12 :: x13 :: x14 :: x15 :: x16 :: x17 :: x18 :: x19 :: x20 :: some (.d (.ref a)) :: δ) (mu M a (.lst xs)) := rfl
@[simp ↓] theorem shKd21 {x0 x1 x2 x3 x4 x5 x6 x7 x8 x9 x10 x11 x12 x13 x14 x15 x16 x17 x18 x19 x20 : Option Sl} {x : D} {δ : DS} {M : MH} {k : DS → MH → Prop} : shK (x0 :: x1 :: x2 :: x3 :: x4 :: x5 :: x6 :: x7 :: x8 :: x9 :: x10 :: x11 :: x12 :: x13 :: x14 :: x15 :: x16 :: x17 :: x18 :: x19 :: x20 :: some (.d x) :: δ) M 21 k = k (x0 :: x1 :: x2 :: x3 :: x4 :: x5 :: x6 :: x7 :: x8 :: x9 :: x10 :: x11 :: x12 :: x13 :: x14 :: x15 :: x16 :: x17 :: x18 :: x19 :: x20 :: some (.d x) :: δ) M := rfl
@[simp ↓] theorem frKo22 {x0 x1 x2 x3 x4 x5 x6 x7 x8 x9 x10 x11 x12 x13 x14 x15 x16 x17 x18 x19 x20 x21 : Option Sl} {xs : List D} {δ : DS} {k : DS → Prop} : frK (x0 :: x1 :: x2 :: x3 :: x4 :: x5 :: x6 :: x7 :: x8 :: x9 :: x10 :: x11 :: x12 :: x13 :: x14 :: x15 :: x16 :: x17 :: x18 :: x19 :: x20 :: x21 :: some (.own xs) :: δ) 22 k = k (x0 :: x1 :: x2 :: x3 :: x4 :: x5 :: x6 :: x7 :: x8 :: x9 :: x10 :: x11 :: x12 :: x13 :: x14 :: x15 :: x16 :: x17 :: x18 :: x19 :: x20 :: x21 :: some (.d (.lst xs)) :: δ) := rfl
@[simp ↓] theorem frKd22 {x0 x1 x2 x3 x4 x5 x6 x7 x8 x9 x10 x11 x12 x13 x14 x15 x16 x17 x18 x19 x20 x21 : Option Sl} {x : D} {δ : DS} {k : DS → Prop} : frK (x0 :: x1 :: x2 :: x3 :: x4 :: x5 :: x6 :: x7 :: x8 :: x9 :: x10 :: x11 :: x12 :: x13 :: x14 :: x15 :: x16 :: x17 :: x18 :: x19 :: x20 :: x21 :: some (.d x) :: δ) 22 k = k (x0 :: x1 :: x2 :: x3 :: x4 :: x5 :: x6 :: x7 :: x8 :: x9 :: x10 :: x11 :: x12 :: x13 :: x14 :: x15 :: x16 :: x17 :: x18 :: x19 :: x20 :: x21 :: some (.d x) :: δ) := rfl
@[simp ↓] theorem frKn22 {x0 x1 x2 x3 x4 x5 x6 x7 x8 x9 x10 x11 x12 x13 x14 x15 x16 x17 x18 x19 x20 x21 : Option Sl} {δ : DS} {k : DS → Prop} : frK (x0 :: x1 :: x2 :: x3 :: x4 :: x5 :: x6 :: x7 :: x8 :: x9 :: x10 :: x11 :: x12 :: x13 :: x14 :: x15 :: x16 :: x17 :: x18 :: x19 :: x20 :: x21 :: none :: δ) 22 k = k (x0 :: x1 :: x2 :: x3 :: x4 :: x5 :: x6 :: x7 :: x8 :: x9 :: x10 :: x11 :: x12 :: x13 :: x14 :: x15 :: x16 :: x17 :: x18 :: x19 :: x20 :: x21 :: none :: δ) := rfl
@[simp ↓] theorem shKo22 {x0 x1 x2 x3 x4 x5 x6 x7 x8 x9 x10 x11 x12 x13 x14 x15 x16 x17 x18 x19 x20 x21 : Option Sl} {xs : List D} {δ : DS} {M : MH} {k : DS → MH → Prop} : shK (x0 :: x1 :: x2 :: x3 :: x4 :: x5 :: x6 :: x7 :: x8 :: x9 :: x10 :: x11 :: x12 :: x13 :: x14 :: x15 :: x16 :: x17 :: x18 :: x19 :: x20 :: x21 :: some (.own xs) :: δ) M 22 k = ∀ a, M a = none → k (x0 :: x1 :: x2 :: x3 :: x4 :: x5 :: x6 :: x7 :: x8 :: x9 :: x10 :: x11 :: x12 :: x13 :: x14 :: x15 :: x16 :: x17 :: x18 :: x19 :: x20 :: x21 :: some (.d (.ref a)) :: δ) (mu M a (.lst xs)) := rfl
@[simp ↓] theorem shKd22 {x0 x1 x2 x3 x4 x5 x6 x7 x8 x9 x10 x11 x12 x13 x14 x15 x16 x17 x18 x19 x20 x21 : Option Sl} {x : D} {δ : DS} {M : MH} {k : DS → MH → Prop} : shK (x0 :: x1 :: x2 :: x3 :: x4 :: x5 :: x6 :: x7 :: x8 :: x9 :: x10 :: x11 :: x12 :: x13 :: x14 :: x15 :: x16 :: x17 :: x18 :: x19 :: x20 :: x21 :: some (.d x) :: δ) M 22 k = k (x0 :: x1 :: x2 :: x3 :: x4 :: x5 :: x6 :: x7 :: x8 :: x9 :: x10 :: x11 :: x12 :: x13 :: x14 :: x15 :: x16 :: x17 :: x18 :: x19 :: x20 :: x21 :: some (.d x) :: δ) M := rfl
@[simp ↓] theorem frKo23 {x0 x1 x2 x3 x4 x5 x6 x7 x8 x9 x10 x11 x12 x13 x14 x15 x16 x17 x18 x19 x20 x21 x22 : Option Sl} {xs : List D} {δ : DS} {k : DS → Prop} : frK (x0 :: x1 :: x2 :: x3 :: x4 :: x5 :: x6 :: x7 :: x8 :: x9 :: x10 :: x11 :: x12 :: x13 :: x14 :: x15 :: x16 :: x17 :: x18 :: x19 :: x20 :: x21 :: x22 :: some (.own xs) :: δ) 23 k = k (x0 :: x1 :: x2 :: x3 :: x4 :: x5 :: x6 :: x7 :: x8 :: x9 :: x10 :: x11 :: x12 :: x13 :: x14 :: x15 :: x16 :: x17 :: x18 :: x19 :: x20 :: x21 :: x22 :: some (.d (.lst xs)) :: δ) := rfl
@[simp ↓] theorem frKd23 {x0 x1 x2 x3 x4 x5 x6 x7 x8 x9 x10 x11 x12 x13 x14 x15 x16 x17 x18 x19 x20 x21 x22 : Option Sl} {x : D} {δ : DS} {k : DS → Prop} : frK (x0 :: x1 :: x2 :: x3 :: x4 :: x5 :: x6 :: x7 :: x8 :: x9 :: x10 :: x11 :: x12 :: x13 :: x14 :: x15 :: x16 :: x17 :: x18 :: x19 :: x20 :: x21 :: x22 :: some (.d x) :: δ) 23 k = k (x0 :: x1 :: x2 :: x3 :: x4 :: x5 :: x6 :: x7 :: x8 :: x9 :: x10 :: x11 :: x12 :: x13 :: x14 :: x15 :: x16 :: x17 :: x18 :: x19 :: x20 :: x21 :: x22 :: some (.d x) :: δ) := rfl
@[simp ↓] theorem frKn23 {x0 x1 x2 x3 x4 x5 x6 x7 x8 x9 x10 x11 x12 x13 x14 x15 x16 x17 x18 x19 x20 x21 x22 : Option Sl} {δ : DS} {k : DS → Prop} : frK (x0 :: x1 :: x2 :: x3 :: x4 :: x5 :: x6 :: x7 :: x8 :: x9 :: x10 :: x11 :: x12 :: x13 :: x14 :: x15 :: x16 :: x17 :: x18 :: x19 :: x20 :: x21 :: x22 :: none :: δ) 23 k = k (x0 :: x1 :: x2 :: x3 :: x4 :: x5 :: x6 :: x7 :: x8 :: x9 :: x10 :: x11 :: x12 :: x13 :: x14 :: x15 :: x16 :: x17 :: x18 :: x19 :: x20 :: x21 :: x22 :: none :: δ) := rfl
@[simp ↓] theorem shKo23 {x0 x1 x2 x3 x4 x5 x6 x7 x8 x9 x10 x11 x12 x13 x14 x15 x16 x17 x18 x19 x20 x21 x22 : Option Sl} {xs : List D} {δ : DS} {M : MH} {k : DS → MH → Prop} : shK (x0 :: x1 :: x2 :: x3 :: x4 :: x5 :: x6 :: x7 :: x8 :: x9 :: x10 :: x11 :: x12 :: x13 :: x14 :: x15 :: x16 :: x17 :: x18 :: x19 :: x20 :: x21 :: x22 :: some (.own xs) :: δ) M 23 k = ∀ a, M a = none → k (x0 :: x1 :: x2 :: x3 :: x4 :: x5 :: x6 :: x7 :: x8 :: x9 :: x10 :: x11 :: x12 :: x13 :: x14 :: x15 :: x16 :: x17 :: x18 :: x19 :: x20 :: x21 :: x22 :: some (.d (.ref a)) :: δ) (mu M a (.lst xs)) := rfl
@[simp ↓] theorem shKd23 {x0 x1 x2 x3 x4 x5 x6 x7 x8 x9 x10 x11 x12 x13 x14 x15 x16 x17 x18 x19 x20 x21 x22 : Option Sl} {x : D} {δ : DS} {M : MH} {k : DS → MH → Prop} : shK (x0 :: x1 :: x2 :: x3 :: x4 :: x5 :: x6 :: x7 :: x8 :: x9 :: x10 :: x11 :: x12 :: x13 :: x14 :: x15 :: x16 :: x17 :: x18 :: x19 :: x20 :: x21 :: x22 :: some (.d x) :: δ) M 23 k = k (x0 :: x1 :: x2 :: x3 :: x4 :: x5 :: x6 :: x7 :: x8 :: x9 :: x10 :: x11 :: x12 :: x13 :: x14 :: x15 :: x16 :: x17 :: x18 :: x19 :: x20 :: x21 :: x22 :: some (.d x) :: δ) M := rfl
@[simp ↓] theorem ixI0 {s : D} {r : List D} {k : D → Prop} : ixI (s :: r) 0 k = k s := propext ⟨fun ⟨_, h, q⟩ => by
  have e : atI (s :: r) (0 : Int) = some s := by simp only [atI, ixN, List.length_cons]; rw [if_pos (by decide), if_pos (by omega)]; rfl
  rw [e] at h; cases h; exact q, fun h => ⟨s, by simp only [atI, ixN, List.length_cons]; rw [if_pos (by decide), if_pos (by omega)]; rfl, h⟩⟩
@[simp ↓] theorem setI0 {y d : D} {r : List D} {k : List D → Prop} : setI (y :: r) 0 d k = k (d :: r) := by
  have e : ixN (y :: r).length (0 : Int) = some 0 := by simp only [ixN, List.length_cons]; rw [if_pos (by decide), if_pos (by omega)]; rfl
  unfold setI
  exact propext ⟨fun ⟨n, h, q⟩ => by rw [e] at h; cases h; exact q, fun h => ⟨0, e, h⟩⟩
@[simp ↓] theorem ixI1 {x0 : D} {s : D} {r : List D} {k : D → Prop} : ixI (x0 :: s :: r) 1 k = k s := propext ⟨fun ⟨_, h, q⟩ => by
  have e : atI (x0 :: s :: r) (1 : Int) = some s := by simp only [atI, ixN, List.length_cons]; rw [if_pos (by decide), if_pos (by omega)]; rfl
  rw [e] at h; cases h; exact q, fun h => ⟨s, by simp only [atI, ixN, List.length_cons]; rw [if_pos (by decide), if_pos (by omega)]; rfl, h⟩⟩
@[simp ↓] theorem setI1 {x0 : D} {y d : D} {r : List D} {k : List D → Prop} : setI (x0 :: y :: r) 1 d k = k (x0 :: d :: r) := by
  have e : ixN (x0 :: y :: r).length (1 : Int) = some 1 := by simp only [ixN, List.length_cons]; rw [if_pos (by decide), if_pos (by omega)]; rfl
  unfold setI
  exact propext ⟨fun ⟨n, h, q⟩ => by rw [e] at h; cases h; exact q, fun h => ⟨1, e, h⟩⟩
@[simp ↓] theorem ixI2 {x0 x1 : D} {s : D} {r : List D} {k : D → Prop} : ixI (x0 :: x1 :: s :: r) 2 k = k s := propext ⟨fun ⟨_, h, q⟩ => by
  have e : atI (x0 :: x1 :: s :: r) (2 : Int) = some s := by simp only [atI, ixN, List.length_cons]; rw [if_pos (by decide), if_pos (by omega)]; rfl
  rw [e] at h; cases h; exact q, fun h => ⟨s, by simp only [atI, ixN, List.length_cons]; rw [if_pos (by decide), if_pos (by omega)]; rfl, h⟩⟩
@[simp ↓] theorem setI2 {x0 x1 : D} {y d : D} {r : List D} {k : List D → Prop} : setI (x0 :: x1 :: y :: r) 2 d k = k (x0 :: x1 :: d :: r) := by
  have e : ixN (x0 :: x1 :: y :: r).length (2 : Int) = some 2 := by simp only [ixN, List.length_cons]; rw [if_pos (by decide), if_pos (by omega)]; rfl
  unfold setI
  exact propext ⟨fun ⟨n, h, q⟩ => by rw [e] at h; cases h; exact q, fun h => ⟨2, e, h⟩⟩
@[simp ↓] theorem ixI3 {x0 x1 x2 : D} {s : D} {r : List D} {k : D → Prop} : ixI (x0 :: x1 :: x2 :: s :: r) 3 k = k s := propext ⟨fun ⟨_, h, q⟩ => by
  have e : atI (x0 :: x1 :: x2 :: s :: r) (3 : Int) = some s := by simp only [atI, ixN, List.length_cons]; rw [if_pos (by decide), if_pos (by omega)]; rfl
  rw [e] at h; cases h; exact q, fun h => ⟨s, by simp only [atI, ixN, List.length_cons]; rw [if_pos (by decide), if_pos (by omega)]; rfl, h⟩⟩
@[simp ↓] theorem setI3 {x0 x1 x2 : D} {y d : D} {r : List D} {k : List D → Prop} : setI (x0 :: x1 :: x2 :: y :: r) 3 d k = k (x0 :: x1 :: x2 :: d :: r) := by
  have e : ixN (x0 :: x1 :: x2 :: y :: r).length (3 : Int) = some 3 := by simp only [ixN, List.length_cons]; rw [if_pos (by decide), if_pos (by omega)]; rfl
  unfold setI
  exact propext ⟨fun ⟨n, h, q⟩ => by rw [e] at h; cases h; exact q, fun h => ⟨3, e, h⟩⟩
@[simp ↓] theorem ixI4 {x0 x1 x2 x3 : D} {s : D} {r : List D} {k : D → Prop} : ixI (x0 :: x1 :: x2 :: x3 :: s :: r) 4 k = k s := propext ⟨fun ⟨_, h, q⟩ => by
  have e : atI (x0 :: x1 :: x2 :: x3 :: s :: r) (4 : Int) = some s := by simp only [atI, ixN, List.length_cons]; rw [if_pos (by decide), if_pos (by omega)]; rfl
  rw [e] at h; cases h; exact q, fun h => ⟨s, by simp only [atI, ixN, List.length_cons]; rw [if_pos (by decide), if_pos (by omega)]; rfl, h⟩⟩
@[simp ↓] theorem setI4 {x0 x1 x2 x3 : D} {y d : D} {r : List D} {k : List D → Prop} : setI (x0 :: x1 :: x2 :: x3 :: y :: r) 4 d k = k (x0 :: x1 :: x2 :: x3 :: d :: r) := by
  have e : ixN (x0 :: x1 :: x2 :: x3 :: y :: r).length (4 : Int) = some 4 := by simp only [ixN, List.length_cons]; rw [if_pos (by decide), if_pos (by omega)]; rfl
  unfold setI
  exact propext ⟨fun ⟨n, h, q⟩ => by rw [e] at h; cases h; exact q, fun h => ⟨4, e, h⟩⟩
@[simp ↓] theorem ixI5 {x0 x1 x2 x3 x4 : D} {s : D} {r : List D} {k : D → Prop} : ixI (x0 :: x1 :: x2 :: x3 :: x4 :: s :: r) 5 k = k s := propext ⟨fun ⟨_, h, q⟩ => by
  have e : atI (x0 :: x1 :: x2 :: x3 :: x4 :: s :: r) (5 : Int) = some s := by simp only [atI, ixN, List.length_cons]; rw [if_pos (by decide), if_pos (by omega)]; rfl
  rw [e] at h; cases h; exact q, fun h => ⟨s, by simp only [atI, ixN, List.length_cons]; rw [if_pos (by decide), if_pos (by omega)]; rfl, h⟩⟩
@[simp ↓] theorem setI5 {x0 x1 x2 x3 x4 : D} {y d : D} {r : List D} {k : List D → Prop} : setI (x0 :: x1 :: x2 :: x3 :: x4 :: y :: r) 5 d k = k (x0 :: x1 :: x2 :: x3 :: x4 :: d :: r) := by
  have e : ixN (x0 :: x1 :: x2 :: x3 :: x4 :: y :: r).length (5 : Int) = some 5 := by simp only [ixN, List.length_cons]; rw [if_pos (by decide), if_pos (by omega)]; rfl
  unfold setI
  exact propext ⟨fun ⟨n, h, q⟩ => by rw [e] at h; cases h; exact q, fun h => ⟨5, e, h⟩⟩
@[simp ↓] theorem ixI6 {x0 x1 x2 x3 x4 x5 : D} {s : D} {r : List D} {k : D → Prop} : ixI (x0 :: x1 :: x2 :: x3 :: x4 :: x5 :: s :: r) 6 k = k s := propext ⟨fun ⟨_, h, q⟩ => by
  have e : atI (x0 :: x1 :: x2 :: x3 :: x4 :: x5 :: s :: r) (6 : Int) = some s := by simp only [atI, ixN, List.length_cons]; rw [if_pos (by decide), if_pos (by omega)]; rfl
  rw [e] at h; cases h; exact q, fun h => ⟨s, by simp only [atI, ixN, List.length_cons]; rw [if_pos (by decide), if_pos (by omega)]; rfl, h⟩⟩
@[simp ↓] theorem setI6 {x0 x1 x2 x3 x4 x5 : D} {y d : D} {r : List D} {k : List D → Prop} : setI (x0 :: x1 :: x2 :: x3 :: x4 :: x5 :: y :: r) 6 d k = k (x0 :: x1 :: x2 :: x3 :: x4 :: x5 :: d :: r) := by
  have e : ixN (x0 :: x1 :: x2 :: x3 :: x4 :: x5 :: y :: r).length (6 : Int) = some 6 := by simp only [ixN, List.length_cons]; rw [if_pos (by decide), if_pos (by omega)]; rfl
  unfold setI
  exact propext ⟨fun ⟨n, h, q⟩ => by rw [e] at h; cases h; exact q, fun h => ⟨6, e, h⟩⟩
@[simp ↓] theorem ixI7 {x0 x1 x2 x3 x4 x5 x6 : D} {s : D} {r : List D} {k : D → Prop} : ixI (x0 :: x1 :: x2 :: x3 :: x4 :: x5 :: x6 :: s :: r) 7 k = k s := propext ⟨fun ⟨_, h, q⟩ => by
  have e : atI (x0 :: x1 :: x2 :: x3 :: x4 :: x5 :: x6 :: s :: r) (7 : Int) = some s := by simp only [atI, ixN, List.length_cons]; rw [if_pos (by decide), if_pos (by omega)]; rfl
  rw [e] at h; cases h; exact q, fun h => ⟨s, by simp only [atI, ixN, List.length_cons]; rw [if_pos (by decide), if_pos (by omega)]; rfl, h⟩⟩
@[simp ↓] theorem setI7 {x0 x1 x2 x3 x4 x5 x6 : D} {y d : D} {r : List D} {k : List D → Prop} : setI (x0 :: x1 :: x2 :: x3 :: x4 :: x5 :: x6 :: y :: r) 7 d k = k (x0 :: x1 :: x2 :: x3 :: x4 :: x5 :: x6 :: d :: r) := by
  have e : ixN (x0 :: x1 :: x2 :: x3 :: x4 :: x5 :: x6 :: y :: r).length (7 : Int) = some 7 := by simp only [ixN, List.length_cons]; rw [if_pos (by decide), if_pos (by omega)]; rfl
  unfold setI
  exact propext ⟨fun ⟨n, h, q⟩ => by rw [e] at h; cases h; exact q, fun h => ⟨7, e, h⟩⟩

@[simp ↓] theorem asD_d {x : D} {k : D → Prop} : asD (.d x) k = k x := propext ⟨fun ⟨_, h, q⟩ => by cases h; exact q, fun h => ⟨x, rfl, h⟩⟩
@[simp ↓] theorem asB_d {x : Bool} {k : Bool → Prop} : asB (.d (.bl x)) k = k x := propext ⟨fun ⟨_, h, q⟩ => by cases h; exact q, fun h => ⟨x, rfl, h⟩⟩
@[simp ↓] theorem asI_d {x : Int} {k : Int → Prop} : asI (.int x) k = k x := propext ⟨fun ⟨_, h, q⟩ => by cases h; exact q, fun h => ⟨x, rfl, h⟩⟩
@[simp ↓] theorem asL_l {x : List D} {k : List D → Prop} : asL (.lst x) k = k x := propext ⟨fun ⟨_, h, q⟩ => by cases h; exact q, fun h => ⟨x, rfl, h⟩⟩
@[simp ↓] theorem tif_t : tif true P Q = P := if_pos rfl
@[simp ↓] theorem tif_f : tif false P Q = Q := if_neg (by decide)
@[simp ↓] theorem tif_not {b : Bool} : tif (!b) P Q = tif b Q P := by cases b <;> rfl
@[simp ↓] theorem tif_dec {p : Prop} [Decidable p] : tif (decide p) P Q = if p then P else Q := by unfold tif; by_cases h : p <;> simp [h]
@[simp ↓] theorem lk_mu {a : Addr} {o : MO} {k : MO → Prop} : lk (mu M a o) a k = k o := propext ⟨fun ⟨_, h, q⟩ => by rw [mu_same] at h; cases h; exact q, fun h => ⟨o, mu_same, h⟩⟩
theorem lk_ne {a b : Addr} {o : MO} {k : MO → Prop} (h : b ≠ a) : lk (mu M a o) b k = lk M b k := by unfold lk; rw [mu_ne h]
theorem lk_at {a : Addr} {o : MO} (h : M a = some o) (k : MO → Prop) : lk M a k = k o := propext ⟨fun ⟨_, h', q⟩ => by rw [h] at h'; cases h'; exact q, fun q => ⟨o, h, q⟩⟩
theorem ixI_at {xs : List D} {i : Int} {d : D} {k : D → Prop} (h0 : 0 ≤ i) (h : xs[i.toNat]? = some d) : ixI xs i k = k d := by
  have hl : i.toNat < xs.length := lt_of_get h
  have e : atI xs i = some d := by
    unfold atI ixN
    rw [if_pos h0, if_pos (by omega)]
    exact h
  exact propext ⟨fun ⟨_, h', q⟩ => by rw [e] at h'; cases h'; exact q, fun q => ⟨d, e, q⟩⟩
theorem ixI_mem {xs : List D} {i : Int} {k : D → Prop} (h0 : 0 ≤ i) (h1 : i < xs.length) (h : ∀ d ∈ xs, k d) : ixI xs i k := by
  have hl : i.toNat < xs.length := by omega
  rw [ixI_at h0 (List.getElem?_eq_getElem hl)]
  exact h _ (List.getElem_mem hl)
@[simp ↓] theorem mu_mu' {a : Addr} {o u : MO} : mu (mu M a o) a u = mu M a u := mu_mu
theorem ixI_int {cs : List Int} {i : Int} {k : D → Prop} (h0 : 0 ≤ i) (h1 : i < cs.length) : ixI (cs.map D.int) i k = k (.int (cs.getD i.toNat 0)) := by
  refine ixI_at h0 ?_
  have h : i.toNat < cs.length := by omega
  rw [List.getElem?_map, List.getElem?_eq_getElem h, List.getD_eq_getElem?_getD, List.getElem?_eq_getElem h]
  rfl
/-! the words -/
@[simp ↓] theorem e_sSeq {t u : DP} : sSeq t u E δ M = t { E with nx := fun δ' M' => u E δ' M' } δ M := rfl
@[simp ↓] theorem e_sNext : sNext E δ M = E.nx δ M := rfl
@[simp ↓] theorem e_sBreak : sBreak E δ M = E.bk δ M := rfl
@[simp ↓] theorem e_sCont : sCont E δ M = E.ct δ M := rfl
@[simp ↓] theorem e_sDrop {t : DE} : sDrop t E δ M = t δ M (fun _ M' => E.nx δ M') E.ex := rfl
@[simp ↓] theorem e_sRet {t : DE} : sRet t E δ M = t δ M (fun r M' => E.rt r M') E.ex := rfl
@[simp ↓] theorem e_sRetV : sRetV i E δ M = pk δ i (fun s => E.rt s M) := rfl
@[simp ↓] theorem e_sRetN : sRetN E δ M = E.rt (.d .non) M := rfl
@[simp ↓] theorem e_sIf {c : DT} {t u : DP} : sIf c t u E δ M = c δ M (fun b M' => tif b (t E δ M') (u E δ M')) E.ex := rfl
@[simp ↓] theorem e_sAsg {t : DE} : sAsg t i E δ M = t δ M (fun r M' => setK δ i (some r) (fun δ' => E.nx δ' M')) E.ex := rfl
@[simp ↓] theorem e_sFrz {t : DP} : sFrz i t E δ M = frK δ i (fun δ' => t E δ' M) := rfl
@[simp ↓] theorem e_sShare {t : DP} : sShare i t E δ M = shK δ M i (fun δ' M' => t E δ' M') := rfl
@[simp ↓] theorem e_sForget {t : DP} : sForget i t E δ M = setK δ i none (fun δ' => t E δ' M) := rfl
@[simp ↓] theorem e_sAsgT {t : DX} {g : DG} : sAsgT t g E δ M = t δ M (fun d M' => g d δ M' E.nx) E.ex := rfl
def twoD (ds : List D) (k : D → D → Prop) : Prop := ∃ d d', ds = [d, d'] ∧ k d d'
@[simp ↓] theorem twoD_2 {d d' : D} {k : D → D → Prop} : twoD [d, d'] k = k d d' := propext ⟨fun ⟨_, _, h, q⟩ => by cases h; exact q, fun q => ⟨d, d', rfl, q⟩⟩
@[simp ↓] theorem e_sPar {t : DA} : sPar i j t E δ M = t δ M (fun ds M' => twoD ds fun d d' => setK δ i (some (.d d)) fun δ1 => setK δ1 j (some (.d d')) fun δ2 => E.nx δ2 M') E.ex := rfl
def asO (s : Sl) (k : List D → Prop) : Prop := ∃ xs, s = .own xs ∧ k xs
@[simp ↓] theorem asO_o {xs : List D} {k : List D → Prop} : asO (.own xs) k = k xs := propext ⟨fun ⟨_, h, q⟩ => by cases h; exact q, fun q => ⟨xs, rfl, q⟩⟩
@[simp ↓] theorem e_sApp {t : DX} : sAppOwn j t E δ M = pk δ j (fun s => asO s fun xs => t δ M (fun d M' => xs.length < sizeLine ∧ setK δ j (some (.own (xs ++ [d]))) fun δ' => E.nx δ' M') E.ex) := by
  refine propext ⟨fun ⟨⟨xs, h⟩, q⟩ => ⟨_, h, xs, rfl, ?_⟩, fun ⟨_, h, xs, e, q⟩ => ⟨⟨xs, by rw [h, e]⟩, ?_⟩⟩
  · have z : (fun (d : D) (M' : MH) => ∃ ys, δ[j]? = some (some (Sl.own ys)) ∧ ys.length < sizeLine ∧ E.nx (δ.set j (some (.own (ys ++ [d])))) M') = fun d M' => xs.length < sizeLine ∧ setK δ j (some (.own (xs ++ [d]))) fun δ' => E.nx δ' M' := by
      funext d M'
      exact propext ⟨fun ⟨ys, g, q⟩ => by rw [h] at g; cases g; exact q, fun q => ⟨xs, h, q⟩⟩
    show t δ M _ _
    rw [← z]
    exact q
  · subst e
    have z : (fun (d : D) (M' : MH) => ∃ ys, δ[j]? = some (some (Sl.own ys)) ∧ ys.length < sizeLine ∧ E.nx (δ.set j (some (.own (ys ++ [d])))) M') = fun d M' => xs.length < sizeLine ∧ setK δ j (some (.own (xs ++ [d]))) fun δ' => E.nx δ' M' := by
      funext d M'
      exact propext ⟨fun ⟨ys, g, q⟩ => by rw [h] at g; cases g; exact q, fun q => ⟨xs, h, q⟩⟩
    have q' : t δ M _ _ := q
    rw [← z] at q'
    exact q'
@[simp ↓] theorem e_gN {d : D} {k : DS → MH → Prop} : gN i d δ M k = setK δ i (some (.d d)) (fun δ' => k δ' M) := rfl
def tupN (n : Nat) (d : D) (k : List D → Prop) : Prop := ∃ xs, (d = .tup xs ∨ d = .lst xs) ∧ xs.length = n ∧ k xs
@[simp ↓] theorem e_gTupD {n : Nat} {t : DGs} {d : D} {k : DS → MH → Prop} : gTupD n t d δ M k = tupN n d (fun xs => t xs δ M k) := rfl
@[simp ↓] theorem tupN_t {xs : List D} {n : Nat} {k : List D → Prop} : tupN n (.tup xs) k = (xs.length = n ∧ k xs) := propext ⟨fun ⟨ys, h, q⟩ => by rcases h with h | h <;> cases h; exact q, fun h => ⟨xs, .inl rfl, h⟩⟩
@[simp ↓] theorem tupN_l {xs : List D} {n : Nat} {k : List D → Prop} : tupN n (.lst xs) k = (xs.length = n ∧ k xs) := propext ⟨fun ⟨ys, h, q⟩ => by rcases h with h | h <;> cases h; exact q, fun h => ⟨xs, .inr rfl, h⟩⟩
@[simp ↓] theorem e_gCons {t : DG} {u : DGs} {d : D} {r : List D} {k : DS → MH → Prop} : gConsD t u (d :: r) δ M k = t d δ M (fun δ' M' => u r δ' M' k) := propext ⟨fun ⟨_, _, h, q⟩ => by cases h; exact q, fun h => ⟨d, r, rfl, h⟩⟩
@[simp ↓] theorem e_gNil {k : DS → MH → Prop} : gNilD [] δ M k = k δ M := propext ⟨fun h => h.2, fun h => ⟨rfl, h⟩⟩
@[simp ↓] theorem e_sSetM {te to ti : DX} : sSetM te to ti E δ M = te δ M (fun d M1 => to δ M1 (fun y M2 => ti δ M2 (fun x M3 => stM y x d M3 (fun M4 => E.nx δ M4)) E.ex) E.ex) E.ex := rfl
@[simp ↓] theorem stM_r {a : Addr} {n : Int} {d : D} {k : MH → Prop} : stM (.ref a) (.int n) d M k = lk M a (fun o => asL o (fun xs => setI xs n d (fun xs' => k (mu M a (.lst xs'))))) := propext
  ⟨fun ⟨b, xs, i, m, h1, h2, h3, h4, q⟩ => by cases h1; cases h3; exact ⟨_, h2, xs, rfl, m, h4, q⟩, fun ⟨o, h2, xs, h3, m, h4, q⟩ => ⟨a, xs, n, m, rfl, by rw [h2, h3], rfl, h4, q⟩⟩
@[simp ↓] theorem e_sRaise {C : Addr} {f : Str} {Pr : D → Prop} {t : DX} : sRaise C f Pr t E δ M = t δ M (fun d M' => Pr d ∧ E.ex C [(f, d)] δ M') E.ex := rfl
@[simp ↓] theorem prI_i {n : Int} : PrI (.int n) = (n.natAbs.log2 < 1920) := propext ⟨fun ⟨_, h, q⟩ => by cases h; exact q, fun h => ⟨n, rfl, h⟩⟩
@[simp ↓] theorem prT_i {d : D} : PrT d = True := rfl
@[simp ↓] theorem e_endNx {A : Sl → MH → Prop} {B : Addr → List (Str × D) → MH → Prop} : (endsD A B).nx δ M = A (.d .non) M := rfl
@[simp ↓] theorem e_endRt {A : Sl → MH → Prop} {B : Addr → List (Str × D) → MH → Prop} {s : Sl} : (endsD A B).rt s M = A s M := rfl
@[simp ↓] theorem e_endEx {A : Sl → MH → Prop} {B : Addr → List (Str × D) → MH → Prop} {C : Addr} {fs : List (Str × D)} : (endsD A B).ex C fs δ M = B C fs M := rfl
section
variable {A : Sl → MH → Prop} {B : D → MH → Prop} {T : Bool → MH → Prop} {L : List D → MH → Prop} {O : Option Int → MH → Prop} {d x y : D} {t u v : DX} {td ud vd : DE} {tt tu : DT} {ta : DA}
@[simp ↓] theorem e_dC : dC d δ M A X = A (.d d) M := rfl
@[simp ↓] theorem e_vC : vC d δ M B X = B d M := rfl
@[simp ↓] theorem e_dVar : dVar i δ M A X = pk δ i (fun s => asD s (fun x => A (.d x) M)) := propext ⟨fun ⟨x, h, q⟩ => ⟨_, h, x, rfl, q⟩, fun ⟨_, h, x, e, q⟩ => ⟨x, by rw [h, e], q⟩⟩
@[simp ↓] theorem e_vVar : vVar i δ M B X = pk δ i (fun s => asD s (fun x => B x M)) := propext ⟨fun ⟨x, h, q⟩ => ⟨_, h, x, rfl, q⟩, fun ⟨_, h, x, e, q⟩ => ⟨x, by rw [h, e], q⟩⟩
@[simp ↓] theorem e_oPeek : oPeek i δ M B X = pk δ i (fun s => B s.fz M) := rfl
@[simp ↓] theorem e_fzd : Sl.fz (.d d) = d := rfl
@[simp ↓] theorem e_fzo {xs : List D} : Sl.fz (.own xs) = .lst xs := rfl
@[simp ↓] theorem e_dFz : dFz td δ M B X = td δ M (fun r M' => B r.fz M') X := rfl
@[simp ↓] theorem e_dV : dV t δ M A X = t δ M (fun d M' => A (.d d) M') X := rfl
@[simp ↓] theorem e_aNil : aNil δ M L X = L [] M := rfl
@[simp ↓] theorem e_aCons : aCons t ta δ M L X = t δ M (fun d M1 => ta δ M1 (fun ds M2 => L (d :: ds) M2) X) X := rfl
@[simp ↓] theorem e_dTup : dTup ta δ M A X = ta δ M (fun ds M' => ds.length ≤ sizeLine ∧ A (.d (.tup ds)) M') X := rfl
@[simp ↓] theorem e_dLst : dLst ta δ M A X = ta δ M (fun ds M' => ds.length ≤ sizeLine ∧ A (.own ds) M') X := rfl
@[simp ↓] theorem e_dBin {f : F2} : dBin f t u δ M A X = t δ M (fun x M1 => u δ M1 (fun y M2 => f x y M2 A) X) X := rfl
@[simp ↓] theorem e_dNeg : dNeg t δ M A X = t δ M (fun x M' => asI x (fun i => A (.d (.int (-i))) M')) X := rfl
@[simp ↓] theorem e_dCmp {f : FB} : dCmp f t u δ M T X = t δ M (fun x M1 => u δ M1 (fun y M2 => f x y M2 fun b => T b M2) X) X := rfl
@[simp ↓] theorem e_dChain {f f' : FB} : dChain f f' t u v δ M T X = t δ M (fun x M1 => u δ M1 (fun y M2 => f x y M2 fun b => tif b (v δ M2 (fun z M3 => f' y z M3 fun b' => T b' M3) X) (T false M2)) X) X := rfl
@[simp ↓] theorem e_dOfT : dOfT tt δ M A X = tt δ M (fun b M' => A (.d (.bl b)) M') X := rfl
@[simp ↓] theorem e_dB : dB td δ M T X = td δ M (fun r M' => asB r (fun b => T b M')) X := rfl
@[simp ↓] theorem e_tdAnd : tdAnd tt tu δ M T X = tt δ M (fun c M1 => tif c (tu δ M1 T X) (T false M1)) X := rfl
@[simp ↓] theorem e_tdOr : tdOr tt tu δ M T X = tt δ M (fun c M1 => tif c (T true M1) (tu δ M1 T X)) X := rfl
@[simp ↓] theorem e_tdNot : tdNot tt δ M T X = tt δ M (fun c M1 => T (!c) M1) X := rfl
@[simp ↓] theorem e_dAnd : dAnd td ud δ M A X = td δ M (fun r M1 => asB r (fun c => tif c (ud δ M1 A X) (A (.d (.bl false)) M1))) X := rfl
@[simp ↓] theorem e_dOr : dOr td ud δ M A X = td δ M (fun r M1 => asB r (fun c => tif c (A (.d (.bl true)) M1) (ud δ M1 A X))) X := rfl
@[simp ↓] theorem e_dNot : dNot td δ M A X = td δ M (fun r M1 => asB r (fun c => A (.d (.bl (!c))) M1)) X := rfl
@[simp ↓] theorem e_dIf : dIf tt td ud δ M A X = tt δ M (fun c M1 => tif c (td δ M1 A X) (ud δ M1 A X)) X := rfl
@[simp ↓] theorem e_dCall {sp : SpD} : dCall sp ta δ M A X = ta δ M (fun ds M1 => sp ds M1 A (fun C fs M2 => X C fs δ M2)) X := rfl
@[simp ↓] theorem e_dCB {f : FC} : dCB f ta δ M A X = ta δ M (fun ds M1 => f ds M1 A) X := rfl
@[simp ↓] theorem e_dM {ty : String} {f : FM} : dM ty f t ta δ M A X = t δ M (fun x M1 => TyD ty x M1 ∧ ta δ M1 (fun ds M2 => f x ds M2 A) X) X := rfl
@[simp ↓] theorem e_dIsi {ty : Ty} : dIsi ty t δ M T X = t δ M (fun x M1 => fIsi ty x M1 fun b => T b M1) X := rfl
@[simp ↓] theorem e_tdYes : tdYes δ M T X = T true M := rfl
@[simp ↓] theorem e_pNone : pNone δ M O X = O none M := rfl
@[simp ↓] theorem e_pSome : pSome td δ M O X = td δ M (fun r M' => asD r (fun d => asI d (fun i => O (some i) M'))) X := by
  unfold pSome
  congr 1
  funext r M'
  exact propext ⟨fun ⟨i, h, q⟩ => ⟨_, h, i, rfl, q⟩, fun ⟨_, h, i, e, q⟩ => ⟨i, by rw [h, e], q⟩⟩
@[simp ↓] theorem e_dSl {f : FS} {tl th : DO} : dSl f t tl th δ M A X = t δ M (fun x M1 => tl δ M1 (fun l M2 => th δ M2 (fun u M3 => f x l u M3 A) X) X) X := rfl
/-! operators -/
theorem fI_i {g : Int → Int → Int} {C : Int → Int → Prop} {a b : Int} : fI g C (.int a) (.int b) M A = (C a b ∧ A (.d (.int (g a b))) M) := propext ⟨fun ⟨_, _, h1, h2, q⟩ => by cases h1; cases h2; exact q, fun q => ⟨a, b, rfl, rfl, q⟩⟩
variable {a b : Int} {r s : List D} {k : Bool → Prop} {p : Addr}
@[simp ↓] theorem e_add_i : fAdd (.int a) (.int b) M A = A (.d (.int (a + b))) M := rfl
@[simp ↓] theorem e_add_s {c e : Str} : fAdd (.str c) (.str e) M A = (c.length + e.length ≤ sizeLine ∧ A (.d (.str (c ++ e))) M) := rfl
@[simp ↓] theorem e_add_t : fAdd (.tup r) (.tup s) M A = (r.length + s.length ≤ sizeLine ∧ A (.d (.tup (r ++ s))) M) := rfl
@[simp ↓] theorem e_add_l : fAdd (.lst r) (.lst s) M A = (r.length + s.length ≤ sizeLine ∧ A (.own (r ++ s)) M) := rfl
@[simp ↓] theorem e_mul_i : fMul (.int a) (.int b) M A = ((CMul a b ∨ CMulW a b) ∧ A (.d (.int (a * b))) M) := rfl
@[simp ↓] theorem e_mul_l : fMul (.lst r) (.int a) M A = (-(2 ^ 63) ≤ a ∧ a < 2 ^ 63 ∧ r.length * a.toNat ≤ sizeLine ∧ A (.own (List.replicate a.toNat r).flatten) M) := rfl
@[simp ↓] theorem e_mul_t : fMul (.tup r) (.int a) M A = (r ≠ [] ∧ 2 ≤ a ∧ a ≤ 1000 ∧ r.length ≤ 1000 ∧ A (.d (.tup (List.replicate a.toNat r).flatten)) M) := rfl
@[simp ↓] theorem e_div_i : fDiv (.int a) (.int b) M A = ((0 < b ∧ (b < 1073741824 ∨ b.natAbs.log2 < 9000)) ∧ A (.d (.int (a / b))) M) := fI_i
@[simp ↓] theorem e_mod_i : fMod (.int a) (.int b) M A = (0 < b ∧ A (.d (.int (a % b))) M) := fI_i
@[simp ↓] theorem e_sub_i : fSub (.int a) (.int b) M A = A (.d (.int (a - b))) M := by unfold fSub; rw [fI_i]; exact propext ⟨fun h => h.2, fun h => ⟨trivial, h⟩⟩
@[simp ↓] theorem e_pow_i : fPow (.int a) (.int b) M A = (CPow a b ∧ A (.d (.int (a ^ b.toNat))) M) := fI_i
theorem fCI_i {g : Int → Int → Bool} : fCI g (.int a) (.int b) M k = k (g a b) := propext ⟨fun ⟨_, _, h1, h2, q⟩ => by cases h1; cases h2; exact q, fun q => ⟨a, b, rfl, rfl, q⟩⟩
@[simp ↓] theorem e_lt_i : fLt (.int a) (.int b) M k = k (decide (a < b)) := fCI_i
@[simp ↓] theorem e_le_i : fLe (.int a) (.int b) M k = k (decide (a ≤ b)) := fCI_i
@[simp ↓] theorem e_gt_i : fGt (.int a) (.int b) M k = k (decide (b < a)) := fCI_i
@[simp ↓] theorem e_ge_i : fGe (.int a) (.int b) M k = k (decide (b ≤ a)) := fCI_i
theorem ok_int : D.Ok (.int a) := ⟨by simp [D.nr], by simp [D.dp]⟩
theorem ok_bl {c : Bool} : D.Ok (.bl c) := ⟨by simp [D.nr], by simp [D.dp]⟩
theorem eq_bb {c e : Bool} : D.eq (.bl c) (.bl e) = (c == e) := by
  simp only [D.eq, D.toP, PyData.eqv]
theorem ok_non : D.Ok .non := ⟨by simp [D.nr], by simp [D.dp]⟩
theorem eq_ii : D.eq (.int a) (.int b) = decide (a = b) := by
  simp only [D.eq, D.toP, PyData.eqv]
  by_cases h : a = b <;> simp [h]
@[simp ↓] theorem e_eq_i : fEq (.int a) (.int b) M k = k (decide (a = b)) := by unfold fEq; rw [eq_ii]; exact propext ⟨fun h => h.2.2, fun h => ⟨ok_int, ok_int, h⟩⟩
@[simp ↓] theorem e_ne_i : fNe (.int a) (.int b) M k = k (!decide (a = b)) := by unfold fNe; rw [eq_ii]; exact propext ⟨fun h => h.2.2, fun h => ⟨ok_int, ok_int, h⟩⟩
@[simp ↓] theorem e_is : fIs x .non M k = k (isNon x) := propext ⟨fun h => h.2, fun h => ⟨rfl, h⟩⟩
@[simp ↓] theorem e_isNot : fIsNot x .non M k = k (!isNon x) := propext ⟨fun h => h.2, fun h => ⟨rfl, h⟩⟩
@[simp ↓] theorem e_in_t : fIn x (.tup r) M k = ((flatD x = true ∧ r.all flatD = true) ∧ k (r.any fun z => D.eq z x)) := propext ⟨fun ⟨h1, h2, h3⟩ => ⟨⟨h1, h2⟩, h3⟩, fun ⟨⟨h1, h2⟩, h3⟩ => ⟨h1, h2, h3⟩⟩
@[simp ↓] theorem e_notIn_t : fNotIn x (.tup r) M k = ((flatD x = true ∧ r.all flatD = true) ∧ k (!r.any fun z => D.eq z x)) := propext ⟨fun ⟨h1, h2, h3⟩ => ⟨⟨h1, h2⟩, h3⟩, fun ⟨⟨h1, h2⟩, h3⟩ => ⟨h1, h2, h3⟩⟩
@[simp ↓] theorem e_in_l : fIn x (.lst r) M k = ((flatD x = true ∧ r.all flatD = true ∨ x.Ok ∧ D.Ok (.lst r)) ∧ k (r.any fun z => D.eq z x)) := rfl
@[simp ↓] theorem e_notIn_l : fNotIn x (.lst r) M k = ((flatD x = true ∧ r.all flatD = true ∨ x.Ok ∧ D.Ok (.lst r)) ∧ k (!r.any fun z => D.eq z x)) := rfl
@[simp] theorem f_non : flatD .non = true := rfl
@[simp] theorem f_bl {c : Bool} : flatD (.bl c) = true := rfl
@[simp] theorem f_int : flatD (.int a) = true := rfl
@[simp] theorem f_str {c : Str} : flatD (.str c) = true := rfl
@[simp] theorem le_sl {n : Nat} (h : n ≤ 16777216) : (n ≤ sizeLine) = True := by rw [sizeLine_eq]; exact eq_true h
@[simp ↓] theorem n_non : isNon .non = true := rfl
@[simp ↓] theorem n_bl {c : Bool} : isNon (.bl c) = false := rfl
@[simp ↓] theorem n_int : isNon (.int a) = false := rfl
@[simp ↓] theorem n_str {c : Str} : isNon (.str c) = false := rfl
@[simp ↓] theorem n_tup : isNon (.tup r) = false := rfl
@[simp ↓] theorem n_lst : isNon (.lst r) = false := rfl
@[simp ↓] theorem n_ref : isNon (.ref p) = false := rfl
/-! subscripts, lengths -/
@[simp ↓] theorem e_ix_t : fIx (.tup r) (.int a) M A = ixI r a (fun d => A (.d d) M) := propext ⟨fun ⟨_, h, q⟩ => by cases h; exact q, fun q => ⟨a, rfl, q⟩⟩
@[simp ↓] theorem e_ix_l : fIx (.lst r) (.int a) M A = ixI r a (fun d => A (.d d) M) := propext ⟨fun ⟨_, h, q⟩ => by cases h; obtain ⟨xs, d, h1, h2, q⟩ := q; cases h1; exact ⟨d, h2, q⟩, fun ⟨d, h, q⟩ => ⟨a, rfl, r, d, rfl, h, q⟩⟩
theorem seq_ref {xs : List D} : seqOf M (.ref p) = some xs ↔ M p = some (.lst xs) := by
  show (match M p with | some (.lst xs) => some xs | _ => none) = some xs ↔ _
  cases h : M p with
  | none => simp
  | some o => cases o <;> simp
@[simp ↓] theorem e_ix_r : fIx (.ref p) (.int a) M A = lk M p (fun o => asL o (fun xs => ixI xs a (fun d => A (.d d) M))) := propext
  ⟨fun ⟨_, h, q⟩ => by cases h; obtain ⟨xs, d, h1, h2, q⟩ := q; exact ⟨_, seq_ref.mp h1, xs, rfl, d, h2, q⟩, fun ⟨o, h, xs, e, d, h2, q⟩ => ⟨a, rfl, xs, d, seq_ref.mpr (by rw [h, e]), h2, q⟩⟩
@[simp ↓] theorem e_len_t : fLen [.tup r] M A = A (.d (.int r.length)) M := propext ⟨fun ⟨_, h, q⟩ => by cases h; exact q, fun q => ⟨_, rfl, q⟩⟩
@[simp ↓] theorem e_len_l : fLen [.lst r] M A = A (.d (.int r.length)) M := propext ⟨fun ⟨_, h, q⟩ => by cases h; obtain ⟨xs, h1, q⟩ := q; cases h1; exact q, fun q => ⟨_, rfl, r, rfl, q⟩⟩
@[simp ↓] theorem e_len_k : fLen [.lsk r] M A = A (.d (.int r.length)) M := propext ⟨fun ⟨_, h, q⟩ => by cases h; obtain ⟨xs, h1, q⟩ := q; cases h1; exact q, fun q => ⟨_, rfl, r, rfl, q⟩⟩
@[simp ↓] theorem e_len_s {c : Str} : fLen [.str c] M A = (c.length ≤ sizeLine ∧ A (.d (.int c.length)) M) := propext ⟨fun ⟨_, h, q⟩ => by cases h; exact q, fun q => ⟨_, rfl, q⟩⟩
@[simp ↓] theorem e_len_r : fLen [.ref p] M A = lk M p (fun o => asL o (fun xs => A (.d (.int xs.length)) M)) := propext
  ⟨fun ⟨_, h, q⟩ => by cases h; obtain ⟨xs, h1, q⟩ := q; exact ⟨_, seq_ref.mp h1, xs, rfl, q⟩, fun ⟨o, h, xs, e, q⟩ => ⟨_, rfl, xs, seq_ref.mpr (by rw [h, e]), q⟩⟩
@[simp ↓] theorem e_tuple_t : fTuple [.tup r] M A = A (.d (.tup r)) M := propext ⟨fun ⟨_, h, q⟩ => by cases h; exact q, fun q => ⟨_, rfl, q⟩⟩
@[simp ↓] theorem e_tuple_l : fTuple [.lst r] M A = A (.d (.tup r)) M := propext ⟨fun ⟨_, h, q⟩ => by cases h; obtain ⟨xs, h1, q⟩ := q; cases h1; exact q, fun q => ⟨_, rfl, r, rfl, q⟩⟩
@[simp ↓] theorem e_list_t : fList [.tup r] M A = A (.own r) M := propext ⟨fun ⟨_, h, q⟩ => by cases h; exact q, fun q => ⟨_, rfl, q⟩⟩
@[simp ↓] theorem e_list_l : fList [.lst r] M A = A (.own r) M := propext ⟨fun ⟨_, h, q⟩ => by cases h; obtain ⟨xs, h1, q⟩ := q; cases h1; exact q, fun q => ⟨_, rfl, r, rfl, q⟩⟩
@[simp ↓] theorem e_min_i : fMin2 [.int a, .int b] M A = A (.d (.int (if b < a then b else a))) M := propext ⟨fun ⟨_, _, h, q⟩ => by cases h; exact q, fun q => ⟨_, _, rfl, q⟩⟩
@[simp ↓] theorem e_max_i : fMax2 [.int a, .int b] M A = A (.d (.int (if b > a then b else a))) M := propext ⟨fun ⟨_, _, h, q⟩ => by cases h; exact q, fun q => ⟨_, _, rfl, q⟩⟩
@[simp ↓] theorem e_sl_t {l h : Option Int} : fSl (.tup r) l h M A = A (.d (.tup (cutD r l h))) M := rfl
@[simp ↓] theorem e_sl_l {l h : Option Int} : fSl (.lst r) l h M A = A (.own (cutD r l h)) M := propext ⟨fun ⟨_, h1, q⟩ => by cases h1; exact q, fun q => ⟨r, rfl, q⟩⟩
@[simp ↓] theorem e_sl_k {l h : Option Int} : fSl (.lsk r) l h M A = A (.own (cutD r l h)) M := propext ⟨fun ⟨_, h1, q⟩ => by cases h1; exact q, fun q => ⟨r, rfl, q⟩⟩
/-! types -/
@[simp ↓] theorem e_isi_non {ty : Ty} : fIsi ty .non M k = k false := by cases ty <;> rfl
@[simp ↓] theorem e_isi_str {c : Str} {ty : Ty} : fIsi ty (.str c) M k = k (match ty with | .str => true | _ => false) := by cases ty <;> rfl
@[simp ↓] theorem e_isi_bl {c : Bool} {ty : Ty} : fIsi ty (.bl c) M k = k (match ty with | .bool => true | .int => true | _ => false) := by cases ty <;> rfl
@[simp ↓] theorem e_isi_int {ty : Ty} : fIsi ty (.int a) M k = k (match ty with | .int => true | _ => false) := by cases ty <;> rfl
@[simp ↓] theorem e_isi_tup {ty : Ty} : fIsi ty (.tup r) M k = k (match ty with | .tuple => true | _ => false) := by cases ty <;> rfl
@[simp ↓] theorem e_isi_lst {ty : Ty} : fIsi ty (.lst r) M k = k (match ty with | .list => true | _ => false) := by cases ty <;> rfl
end
end
/-! ### methods, kept exceptions, try -/
section
variable {δ : DS} {M : MH} {X : XP} {E : DEnds} {A : Sl → MH → Prop} {T : Bool → MH → Prop} {i : Nat} {t : DX} {r s : List D} {y d : D}
@[simp ↓] theorem ty_l : TyD "list" (.lst r) M = True := eq_true (.inl ⟨rfl, r, rfl⟩)
@[simp ↓] theorem ty_s {c : Str} : TyD "str" (.str c) M = True := eq_true (.inr ⟨rfl, c, rfl⟩)
theorem idx_at {j : Nat} {z : D} (o1 : D.Ok (.lst r)) (o2 : y.Ok) (h1 : r[j]? = some z) (h2 : D.eq z y = true) (h3 : ∀ (m : Nat) (z' : D), m < j → r[m]? = some z' → D.eq z' y = false) (q : A (.d (.int (j : Nat))) M) : fIdx (.lst r) [y] M A := ⟨r, y, j, z, rfl, rfl, o1, o2, h1, h2, h3, q⟩
@[simp ↓] theorem e_cnt : fCnt (.lst r) [y] M A = ((D.Ok (.lst r) ∧ y.Ok) ∧ A (.d (.int ((r.countP fun z => D.eq z y : Nat) : Int))) M) := propext ⟨fun ⟨_, _, h1, h2, o1, o2, q⟩ => by cases h1; cases h2; exact ⟨⟨o1, o2⟩, q⟩, fun ⟨⟨o1, o2⟩, q⟩ => ⟨r, y, rfl, rfl, o1, o2, q⟩⟩
def asX (o : MO) (k : Addr → List (Str × D) → Prop) : Prop := ∃ C fs, o = .exc C fs ∧ k C fs
@[simp ↓] theorem asX_x {C : Addr} {fs : List (Str × D)} {k : Addr → List (Str × D) → Prop} : asX (.exc C fs) k = k C fs := propext ⟨fun ⟨_, _, h, q⟩ => by cases h; exact q, fun q => ⟨C, fs, rfl, q⟩⟩
def rfK (d : D) (k : Addr → Prop) : Prop := ∃ a, d = .ref a ∧ k a
@[simp ↓] theorem rfK_r {a : Addr} {k : Addr → Prop} : rfK (.ref a) k = k a := propext ⟨fun ⟨_, h, q⟩ => by cases h; exact q, fun q => ⟨a, rfl, q⟩⟩
def fdK (fs : List (Str × D)) (f : Str) (k : D → Prop) : Prop := ∃ d, fs.lookup f = some d ∧ k d
@[simp ↓] theorem fdK_0 {f : Str} {fs : List (Str × D)} {k : D → Prop} : fdK ((f, d) :: fs) f k = k d := propext ⟨fun ⟨_, h, q⟩ => by rw [List.lookup_cons_self] at h; cases h; exact q, fun q => ⟨d, List.lookup_cons_self, q⟩⟩
@[simp ↓] theorem e_dXk {f : Str} {P : Addr → Prop} : dXk f P t δ M A X = t δ M (fun x M1 => rfK x fun a => lk M1 a fun o => asX o fun C fs => P C ∧ fdK fs f fun d => A (.d d) M1) X := by
  unfold dXk
  congr 1
  funext x M1
  exact propext ⟨fun ⟨a, C, fs, d, h1, h2, h3, h4, q⟩ => ⟨a, h1, _, h2, C, fs, rfl, h3, d, h4, q⟩, fun ⟨a, h1, _, h2, C, fs, e, h3, d, h4, q⟩ => ⟨a, C, fs, d, h1, by rw [h2, e], h3, h4, q⟩⟩
def kxK (P : Addr → Bool → Prop) (C : Addr) (k : Bool → Prop) : Prop := ∃ b, P C b ∧ k b
theorem kx_eq {K : PySem.W.Frag} {cv : Value} {C : Addr} {b : Bool} (h : IsxC K cv C b) (k : Bool → Prop) : kxK (IsxC K cv) C k = k b := propext ⟨fun ⟨b', h', q⟩ => by have e := h.2.symm.trans h'.2; cases e; exact q, fun q => ⟨b, h, q⟩⟩
@[simp ↓] theorem e_dIsX {P : Addr → Bool → Prop} : dIsX P t δ M T X = t δ M (fun x M1 => rfK x fun a => lk M1 a fun o => asX o fun C _ => kxK P C fun b => T b M1) X := by
  unfold dIsX
  congr 1
  funext x M1
  exact propext ⟨fun ⟨a, C, fs, b, h1, h2, h3, q⟩ => ⟨a, h1, _, h2, C, fs, rfl, b, h3, q⟩, fun ⟨a, h1, _, h2, C, fs, e, b, h3, q⟩ => ⟨a, C, fs, b, h1, by rw [h2, e], h3, q⟩⟩
@[simp ↓] theorem e_sTry {Sub : Addr → Prop} {t u : DP} : sTry Sub i t u E δ M = t { E with ex := tryX Sub i u E } δ M := rfl
@[simp ↓] theorem e_tryX {Sub : Addr → Prop} {u : DP} {C : Addr} {fs : List (Str × D)} : tryX Sub i u E C fs δ M = (Sub C ∧ ∀ a, M a = none → setK δ i (some (.d (.ref a))) fun δ' =>
    u (DEnds.mk (fun δ2 M2 => M2 a = none → setK δ2 i none fun δ3 => E.nx δ3 (mu M2 a (.exc C fs))) (fun _ _ => False) (fun _ _ => False) (fun _ _ => False) NoX) δ' M) := rfl
end
/-! ### what is walked -/
section
variable {δ : DS} {M : MH} {X : XP} {L : List D → MH → Prop} {i : Nat} {t : DX} {ta : DA} {r s : List D} {k : List D → Prop}
def itK (d : D) (k : List D → Prop) : Prop := ∃ xs, itemsOf d = some xs ∧ k xs
def rg1 (ds : List D) (k : List D → Prop) : Prop := ∃ j : Int, ds = [.int j] ∧ -(2 ^ 62) ≤ j ∧ j < 2 ^ 62 ∧ k (rgD 0 j.toNat)
def rg2 (ds : List D) (k : List D → Prop) : Prop := ∃ i j : Int, ds = [.int i, .int j] ∧ (-(2 ^ 62) ≤ i ∧ i < 2 ^ 62 ∧ -(2 ^ 62) ≤ j ∧ j < 2 ^ 62) ∧ k (rgD i (j - i).toNat)
def enK (ds : List D) (k : List D → Prop) : Prop := ∃ d xs, ds = [d] ∧ (d = .tup xs ∨ d = .lst xs) ∧ k (enD xs)
def zpK (ds : List D) (k : List D → Prop) : Prop := ∃ d d' xs ys, ds = [d, d'] ∧ ((d = .tup xs ∧ d' = .tup ys) ∨ (d = .lst xs ∧ d' = .lst ys)) ∧ k (zpD xs ys)
@[simp ↓] theorem e_sFor {it : DIt} {g : DG} {b : DP} {E : DEnds} : sFor it g b E δ M = it δ M (fun xs M' => forD g b E xs δ M') E.ex := rfl
@[simp ↓] theorem e_iAny : iAny t δ M L X = t δ M (fun d M' => itK d (fun xs => L xs M')) X := rfl
@[simp ↓] theorem e_iPk : iPk i δ M L X = pk δ i (fun s => itK s.fz (fun xs => L xs M)) := propext ⟨fun ⟨s, xs, h1, h2, q⟩ => ⟨s, h1, xs, h2, q⟩, fun ⟨s, h1, xs, h2, q⟩ => ⟨s, xs, h1, h2, q⟩⟩
@[simp ↓] theorem e_iRange1 : iRange1 ta δ M L X = ta δ M (fun ds M' => rg1 ds (fun xs => L xs M')) X := rfl
@[simp ↓] theorem e_iRange2 : iRange2 ta δ M L X = ta δ M (fun ds M' => rg2 ds (fun xs => L xs M')) X := rfl
@[simp ↓] theorem e_iEnumD : iEnumD ta δ M L X = ta δ M (fun ds M' => enK ds (fun xs => L xs M')) X := rfl
@[simp ↓] theorem e_iZipD : iZipD ta δ M L X = ta δ M (fun ds M' => zpK ds (fun xs => L xs M')) X := rfl
@[simp ↓] theorem itK_t : itK (.tup r) k = k r := propext ⟨fun ⟨_, h, q⟩ => by cases h; exact q, fun q => ⟨_, rfl, q⟩⟩
@[simp ↓] theorem itK_l : itK (.lst r) k = k r := propext ⟨fun ⟨_, h, q⟩ => by cases h; exact q, fun q => ⟨_, rfl, q⟩⟩
@[simp ↓] theorem itK_s {z : Str} : itK (.str z) k = k (sgD z) := propext ⟨fun ⟨_, h, q⟩ => by cases h; exact q, fun q => ⟨_, rfl, q⟩⟩
@[simp ↓] theorem rg1_i {j : Int} : rg1 [.int j] k = (-(2 ^ 62) ≤ j ∧ j < 2 ^ 62 ∧ k (rgD 0 j.toNat)) := propext ⟨fun ⟨_, h, q⟩ => by cases h; exact q, fun q => ⟨_, rfl, q⟩⟩
@[simp ↓] theorem rg2_i {i j : Int} : rg2 [.int i, .int j] k = ((-(2 ^ 62) ≤ i ∧ i < 2 ^ 62 ∧ -(2 ^ 62) ≤ j ∧ j < 2 ^ 62) ∧ k (rgD i (j - i).toNat)) := propext ⟨fun ⟨_, _, h, q⟩ => by cases h; exact q, fun q => ⟨_, _, rfl, q⟩⟩
@[simp ↓] theorem enK_t : enK [.tup r] k = k (enD r) := propext ⟨fun ⟨_, _, h, h2, q⟩ => by cases h; rcases h2 with h2 | h2 <;> cases h2; exact q, fun q => ⟨_, _, rfl, .inl rfl, q⟩⟩
@[simp ↓] theorem enK_l : enK [.lst r] k = k (enD r) := propext ⟨fun ⟨_, _, h, h2, q⟩ => by cases h; rcases h2 with h2 | h2 <;> cases h2; exact q, fun q => ⟨_, _, rfl, .inr rfl, q⟩⟩
@[simp ↓] theorem zpK_t : zpK [.tup r, .tup s] k = k (zpD r s) := propext ⟨fun ⟨_, _, _, _, h, h2, q⟩ => by cases h; rcases h2 with ⟨h2, h3⟩ | ⟨h2, h3⟩ <;> cases h2; cases h3; exact q, fun q => ⟨_, _, _, _, rfl, .inl ⟨rfl, rfl⟩, q⟩⟩
@[simp ↓] theorem zpK_l : zpK [.lst r, .lst s] k = k (zpD r s) := propext ⟨fun ⟨_, _, _, _, h, h2, q⟩ => by cases h; rcases h2 with ⟨h2, h3⟩ | ⟨h2, h3⟩ <;> cases h2; cases h3; exact q, fun q => ⟨_, _, _, _, rfl, .inr ⟨rfl, rfl⟩, q⟩⟩
end
/-- the pairs of enumerate, the ints of range, one by one -/
def enF : Nat → List D → List D
  | _, [] => []
  | k, x :: r => .tup [.int (k : Nat), x] :: enF (k + 1) r
theorem enF_get : ∀ (xs : List D) (k i : Nat), (enF k xs)[i]? = (xs[i]?).map fun x => .tup [.int ((k + i : Nat) : Int), x]
  | [], _, _ => by simp [enF]
  | x :: r, k, 0 => by simp [enF]
  | x :: r, k, i + 1 => by
    have e : k + 1 + i = k + (i + 1) := by omega
    simp only [enF, List.getElem?_cons_succ, enF_get r (k + 1) i, e]
theorem enD_enF (xs : List D) : enD xs = enF 0 xs := by
  refine List.ext_getElem? fun i => ?_
  rw [enF_get]
  cases h : xs[i]? with
  | none =>
    have : xs.length ≤ i := by simpa using h
    rw [List.getElem?_eq_none (by rw [enD_len]; exact this)]
    rfl
  | some d =>
    rw [enD_get h]
    simp
theorem rgD_zero {lo : Int} : rgD lo 0 = [] := rfl
theorem rgD_succ {lo : Int} {n : Nat} : rgD lo (n + 1) = .int lo :: rgD (lo + 1) n := by
  unfold rgD
  rw [List.range_succ_eq_map, List.map_cons, List.map_map]
  congr 1
  · simp
  · refine List.map_congr_left fun i _ => ?_
    show D.int (lo + ((i + 1 : Nat) : Int)) = D.int (lo + 1 + (i : Nat))
    congr 1
    push_cast
    omega
/-! ### loops -/
@[simp ↓] theorem forD_nil {g : DG} {b : DP} {E : DEnds} {δ : DS} {M : MH} : forD g b E [] δ M = E.nx δ M := rfl
@[simp ↓] theorem forD_cons {g : DG} {b : DP} {E : DEnds} {x : D} {r : List D} {δ : DS} {M : MH} : forD g b E (x :: r) δ M = g x δ M fun δ' M' => b { E with nx := forD g b E r, ct := forD g b E r, bk := E.nx } δ' M' := rfl
@[simp] theorem enF_nil {k : Nat} : enF k [] = [] := rfl
@[simp] theorem enF_cons {k : Nat} {x : D} {r : List D} : enF k (x :: r) = .tup [.int (k : Nat), x] :: enF (k + 1) r := rfl
def wpK (δ : DS) (vs : List Nat) (k : DS → Prop) : Prop := k (wipeD δ vs)
@[simp ↓] theorem wpK_nil {δ : DS} {k : DS → Prop} : wpK δ [] k = k δ := rfl
@[simp ↓] theorem wpK_cons {δ : DS} {v : Nat} {vs : List Nat} {k : DS → Prop} : wpK δ (v :: vs) k = wpK δ vs (fun δ' => setK δ' v none k) := rfl
@[simp ↓] theorem e_dLc {it : DIt} {g : DG} {tt : DT} {te : DX} {vs : List Nat} {δ : DS} {M : MH} {A : Sl → MH → Prop} {X : XP} : dLc it g tt te vs δ M A X = (NoOwn δ vs ∧ it δ M (fun xs M1 => lcD g tt te vs δ (fun acc M2 => A (.own acc) M2) xs [] M1) X) := rfl
/-- a comprehension by what holds ahead of each turn -/
theorem lcD_ind {g : DG} {tt : DT} {te : DX} {vs : List Nat} {δ : DS} {Q : List D → MH → Prop} (I : List D → List D → MH → Prop) (h0 : ∀ acc M, I [] acc M → Q acc M)
    (hs : ∀ x r acc M, I (x :: r) acc M → (∀ acc' M', I r acc' M' → lcD g tt te vs δ Q r acc' M') →
      wpK δ vs fun δ0 => g x δ0 M fun δ2 M2 => tt δ2 M2 (fun b M3 => tif b (te δ2 M3 (fun y M4 => acc.length < sizeLine ∧ lcD g tt te vs δ Q r (acc ++ [y]) M4) NoX) (lcD g tt te vs δ Q r acc M3)) NoX) :
    ∀ (xs acc : List D) (M : MH), I xs acc M → lcD g tt te vs δ Q xs acc M
  | [], acc, M, h => h0 acc M h
  | x :: r, acc, M, h => hs x r acc M h (lcD_ind I h0 hs r)
@[simp ↓] theorem e_sWhile {c : DT} {b : DP} {E : DEnds} {δ : DS} {M : MH} : sWhile c b E δ M = ∃ n, whD c b E n δ M := rfl
/-- a while by what holds ahead of each turn, at most n more of them -/
theorem whD_ind {c : DT} {b : DP} {E : DEnds} (I : Nat → DS → MH → Prop)
    (hs : ∀ n δ M (V : DS → MH → Prop), I n δ M → (∀ m δ' M', n = m + 1 → I m δ' M' → V δ' M') → c δ M (fun v M1 => tif v (b { E with nx := V, ct := V, bk := E.nx } δ M1) (E.nx δ M1)) E.ex) :
    ∀ (n : Nat) (δ : DS) (M : MH), I n δ M → whD c b E (n + 1) δ M
  | 0, δ, M, h => hs 0 δ M (whD c b E 0) h fun _ _ _ e => by omega
  | n + 1, δ, M, h => hs (n + 1) δ M (whD c b E (n + 1)) h fun m δ' M' e h' => by
    have : m = n := by omega
    subst this
    exact whD_ind I hs m δ' M' h'
/-- a comprehension that keeps p's items, each as f -/
theorem lcD_pure {g : DG} {tt : DT} {te : DX} {vs : List Nat} {δ : DS} {Q : List D → MH → Prop} (p : D → Bool) (f : D → D) {M : MH} : ∀ (xs acc : List D),
    (∀ x ∈ xs, ∀ (Y : D → MH → Prop) (N : MH → Prop), (if p x = true then Y (f x) M else N M) → wpK δ vs fun δ0 => g x δ0 M fun δ2 M2 => tt δ2 M2 (fun b M3 => tif b (te δ2 M3 Y NoX) (N M3)) NoX) →
    acc.length + xs.length ≤ 16777216 → Q (acc ++ (xs.filter p).map f) M → lcD g tt te vs δ Q xs acc M
  | [], acc, _, _, q => by
    show Q acc M
    simpa using q
  | x :: r, acc, h, hl, q => by
    have hz := sizeLine_eq
    simp only [List.length_cons] at hl
    refine h x (List.mem_cons_self ..) _ _ ?_
    cases hp : p x with
    | true =>
      rw [if_pos rfl]
      rw [List.filter_cons_of_pos hp, List.map_cons] at q
      exact ⟨by omega, lcD_pure p f r (acc ++ [f x]) (fun y hy => h y (List.mem_cons_of_mem _ hy)) (by simp; omega) (by simpa using q)⟩
    | false =>
      rw [if_neg (by decide)]
      rw [List.filter_cons_of_neg (by simp [hp])] at q
      exact lcD_pure p f r acc (fun y hy => h y (List.mem_cons_of_mem _ hy)) (by omega) q
/-- a walk by what holds ahead of each turn -/
theorem forD_ind {g : DG} {b : DP} {E : DEnds} (I : List D → DS → MH → Prop) (h0 : ∀ δ M, I [] δ M → E.nx δ M)
    (hs : ∀ x r δ M, I (x :: r) δ M → (∀ δ' M', I r δ' M' → forD g b E r δ' M') → g x δ M fun δ' M' => b { E with nx := forD g b E r, ct := forD g b E r, bk := E.nx } δ' M') :
    ∀ (xs : List D) (δ : DS) (M : MH), I xs δ M → forD g b E xs δ M
  | [], δ, M, h => h0 δ M h
  | x :: r, δ, M, h => hs x r δ M h (forD_ind I h0 hs r)
end DL

set_option Elab.async false
set_option linter.all false
set_option maxRecDepth 100000
set_option maxHeartbeats 2000000
namespace DL
open PySem PySem.Spec PyProof.Rows L2
/-! ### texts -/
/-- a.join(e) -/
def fJn (x y : D) (M : MH) (Q : Sl → MH → Prop) : Prop := ∃ (a : Str) (ys : List Str), x = .str a ∧ (y = .tup (ys.map D.str) ∨ seqOf M y = some (ys.map D.str)) ∧ (ys.map (·.length)).sum + ys.length * a.length ≤ 16777216 ∧ Q (.d (.str (Txt.join a ys))) M
def dJn (to te : DX) : DE := fun δ M Q E => to δ M (fun x M1 => (∃ a, x = .str a) ∧ te δ M1 (fun y M2 => fJn x y M2 Q) E) E
section
variable {X : Cx} {G : Gd} {W : WX} {o e : Expr} {apos pos : Pos} {to te : DX}
theorem d_join (hk : X.K = G.K) (ho : PE X o (LO G W to)) (he : PE X e (LO G W te)) (hs : starEach [e] X.env = [(false, eval e X.env)] := by rfl) (hbase : attributeBase o "join" X.env (eval o X.env) = eval o X.env := by rfl) (hline : (apos.endLine == pos.line) = true := by rfl) :
    PE X (.Call (.Attribute o "join" apos) [e] [] pos) (LE G W (dJn to te)) :=
  pe_imp (pe_join ho he hs hbase hline) fun σ H Q ⟨F, δ, M, Qd, Ed, rep, q, k, x⟩ => ⟨F, δ, M, _, Ed, rep, q, fun d v F1 M1 H1 r1 e1 o1 ⟨⟨a, ha⟩, q1⟩ => by
    subst ha
    obtain rfl := opn_str o1
    refine ⟨⟨a, rfl⟩, F1, δ, M1, _, Ed, r1, q1, fun y u F2 M2 H2 r2 e2 o2 ⟨a', ys, h1, h2, h3, q2⟩ => ?_, x⟩
    cases h1
    have fin := k (.d (.str (Txt.join a ys))) _ F2 M2 H2 r2 (e1.trans e2) (R.str _) q2
    rw [hk]
    rcases h2 with rfl | h2
    · obtain ⟨p, vs, rfl, h4, h5⟩ := o2.tup r2
      obtain rfl := h5.strs
      exact ⟨a, p, ys, rfl, rfl, .inr h4, h3, fin⟩
    · obtain ⟨p, vs, rfl, h4, h5⟩ := seqOf_at r2 o2 h2
      obtain rfl := h5.strs
      exact ⟨a, p, ys, rfl, rfl, .inl h4, h3, fin⟩, x⟩
end
/-! texts by their signs -/
def tx (l : List Nat) : Str := ⟨l.toArray⟩
theorem tx_self (s : Str) : tx s.cps.toList = s := by cases s; simp [tx]
theorem tx_cps (l : List Nat) : (tx l).cps.toList = l := by simp [tx]
theorem tx_len (l : List Nat) : (tx l).length = l.length := by simp [tx, Str.length]
theorem tx_app (a b : List Nat) : tx a ++ tx b = tx (a ++ b) := by
  show (⟨a.toArray ++ b.toArray⟩ : Str) = ⟨(a ++ b).toArray⟩
  simp
theorem tx_inj {a b : List Nat} (h : tx a = tx b) : a = b := by
  have := congrArg (fun s : Str => s.cps.toList) h
  simpa [tx] using this
def cutA {α : Type} (l : List α) (lo hi : Option Int) : List α := (l.drop (HT.sIx l.length 0 lo)).take (HT.sIx l.length l.length hi - HT.sIx l.length 0 lo)
theorem cutS_tx (l : List Nat) (lo hi : Option Int) : cutS (tx l) lo hi = tx (cutA l lo hi) := by
  unfold cutS cutA
  rw [tx_len, tx_cps]
  rfl
theorem sIx_pos {n d : Nat} {i : Int} (h : 0 ≤ i) : HT.sIx n d (some i) = min i.toNat n := by
  show (if i < 0 then _ else _) = _
  rw [if_neg (by omega)]
theorem cutA_to {α : Type} {l : List α} {i : Int} (h : 0 ≤ i) : cutA l none (some i) = l.take i.toNat := by
  unfold cutA
  rw [sIx_pos h]
  show (l.drop 0).take (min i.toNat l.length - 0) = _
  rw [List.drop_zero, Nat.sub_zero]
  by_cases hl : i.toNat ≤ l.length
  · rw [Nat.min_eq_left hl]
  · rw [Nat.min_eq_right (by omega), List.take_length, List.take_of_length_le (by omega)]
theorem cutA_from {α : Type} {l : List α} {i : Int} (h : 0 ≤ i) : cutA l (some i) none = l.drop i.toNat := by
  unfold cutA
  rw [sIx_pos h]
  show (l.drop (min i.toNat l.length)).take (l.length - min i.toNat l.length) = _
  rw [List.take_of_length_le (by rw [List.length_drop]; omega)]
  by_cases hl : i.toNat ≤ l.length
  · rw [Nat.min_eq_left hl]
  · rw [Nat.min_eq_right (by omega), List.drop_length, List.drop_of_length_le (by omega)]
theorem cutD_A (l : List D) (lo hi : Option Int) : DL.cutD l lo hi = cutA l lo hi := rfl
theorem cutD_to {l : List D} {i : Int} (h : 0 ≤ i) : DL.cutD l none (some i) = l.take i.toNat := cutA_to h
theorem cutD_from {l : List D} {i : Int} (h : 0 ≤ i) : DL.cutD l (some i) none = l.drop i.toNat := cutA_from h
theorem cutA_len {α : Type} {l : List α} {lo hi : Option Int} : (cutA l lo hi).length ≤ l.length := by
  unfold cutA
  simp only [List.length_take, List.length_drop]
  omega
theorem cutA_mem {α : Type} {l : List α} {lo hi : Option Int} {x : α} (h : x ∈ cutA l lo hi) : x ∈ l := List.mem_of_mem_drop (List.mem_of_mem_take h)
theorem join_ones (cs : List Nat) : Txt.join (Str.ofString "") (cs.map fun c => (⟨#[c]⟩ : Str)) = tx cs := by
  rw [TL.join_eq]
  have e : Str.ofString "" = Str.empty := by decide +kernel
  rw [e]
  have one : ∀ c : Nat, (⟨#[c]⟩ : Str) = tx [c] := fun c => rfl
  induction cs with
  | nil => rfl
  | cons c r ih =>
    cases r with
    | nil => rfl
    | cons d r =>
      show (⟨#[c]⟩ : Str) ++ Str.empty ++ Str.join Str.empty ((⟨#[d]⟩ : Str) :: r.map fun c => (⟨#[c]⟩ : Str)) = _
      rw [show Str.join Str.empty ((⟨#[d]⟩ : Str) :: r.map fun c => (⟨#[c]⟩ : Str)) = tx (d :: r) from ih, one, show Str.empty = tx [] from rfl, tx_app, tx_app]
      rfl
theorem join_ones_len (cs : List Nat) : ((cs.map fun c => (⟨#[c]⟩ : Str)).map (·.length)).sum = cs.length := by
  induction cs with
  | nil => rfl
  | cons c r ih => simp only [List.map_cons, List.sum_cons, List.length_cons, ih]; show 1 + r.length = _; omega
/-! data whose texts are short -/
mutual
def D.fit : D → Bool
  | .ref _ => false
  | .lsk _ => false
  | .str s => PyData.strOk s && decide (s.length ≤ 1000)
  | .tup ds => D.fits ds
  | .lst ds => D.fits ds
  | _ => true
def D.fits : List D → Bool
  | [] => true
  | d :: ds => D.fit d && D.fits ds
end
mutual
theorem fit_nr : ∀ d : D, D.fit d = true → D.nr d = true
  | .non, _ => by simp [D.nr]
  | .bl _, _ => by simp [D.nr]
  | .int _, _ => by simp [D.nr]
  | .ref _, h => by simp [D.fit] at h
  | .lsk _, h => by simp [D.fit] at h
  | .str s, h => by simp [D.fit] at h; simp [D.nr, h.1]
  | .tup ds, h => by simp only [D.nr]; exact fits_nrs ds (by simpa [D.fit] using h)
  | .lst ds, h => by simp only [D.nr]; exact fits_nrs ds (by simpa [D.fit] using h)
theorem fits_nrs : ∀ ds : List D, D.fits ds = true → D.nrs ds = true
  | [], _ => by simp [D.nrs]
  | d :: ds, h => by
    have h' : D.fit d = true ∧ D.fits ds = true := by simpa [D.fits] using h
    simp [D.nrs, fit_nr d h'.1, fits_nrs ds h'.2]
end
theorem fits_iff : ∀ {xs : List D}, D.fits xs = true ↔ ∀ x ∈ xs, x.fit = true
  | [] => by simp [D.fits]
  | x :: xs => by simp [D.fits, fits_iff (xs := xs)]
theorem nrs_iff : ∀ {xs : List D}, D.nrs xs = true ↔ ∀ x ∈ xs, x.nr = true
  | [] => by simp [D.nrs]
  | x :: xs => by simp [D.nrs, nrs_iff (xs := xs)]
theorem dps_le {n : Nat} : ∀ {xs : List D}, D.dps xs ≤ n ↔ ∀ x ∈ xs, x.dp ≤ n
  | [] => by simp [D.dps]
  | x :: xs => by
    have := dps_le (n := n) (xs := xs)
    simp only [D.dps, List.mem_cons, forall_eq_or_imp, ← this]
    omega
theorem fit_tup {xs : List D} : D.fit (.tup xs) = true ↔ ∀ x ∈ xs, x.fit = true := by simp only [D.fit]; exact fits_iff
theorem fit_lst {xs : List D} : D.fit (.lst xs) = true ↔ ∀ x ∈ xs, x.fit = true := by simp only [D.fit]; exact fits_iff
theorem fit_str {s : Str} : D.fit (.str s) = true ↔ PyData.strOk s = true ∧ s.length ≤ 1000 := by simp [D.fit]
theorem flat_dp {d : D} (h : flatD d = true) : d.dp = 0 := by cases d <;> first | (simp [D.dp]; done) | cases h
theorem flat_ok {d : D} (h : flatD d = true) (hn : d.nr = true) : d.Ok := ⟨hn, by rw [flat_dp h]; decide⟩
theorem eq_self {d : D} (h : d.nr = true) : D.eq d d = true := PySem.SeqAt.eqv_refl d.toP (by rw [lay_toP]; exact h)
section
variable {δ : DS} {M : MH} {X : XP} {A : Sl → MH → Prop} {t u : DX} {k : Bool → Prop} {a b : Str} {r : List D}
@[simp ↓] theorem e_eq_s : fEq (.str a) (.str b) M k = ((PyData.strOk a = true ∧ PyData.strOk b = true) ∧ k (decide (a = b))) := by
  have e : D.eq (.str a) (.str b) = decide (a = b) := by
    simp only [D.eq, D.toP, PyData.eqv]
    by_cases h : a = b <;> simp [h]
  have o : ∀ s : Str, D.Ok (.str s) ↔ PyData.strOk s = true := fun s => ⟨fun h => by have := h.1; simpa [D.nr] using this, fun h => ⟨by simpa [D.nr] using h, by simp [D.dp]⟩⟩
  unfold fEq
  rw [e]
  exact propext ⟨fun ⟨h1, h2, q⟩ => ⟨⟨(o _).mp h1, (o _).mp h2⟩, q⟩, fun ⟨⟨h1, h2⟩, q⟩ => ⟨(o _).mpr h1, (o _).mpr h2, q⟩⟩
theorem all_l {bs : List Bool} (h : r = bs.map D.bl) : fAll [.lst r] M A = A (.d (.bl (bs.all id))) M := by
  subst h
  refine propext ⟨fun ⟨d, cs, h1, h2, q⟩ => ?_, fun q => ⟨_, bs, rfl, rfl, q⟩⟩
  cases h1
  have e : bs.map D.bl = cs.map D.bl := Option.some.inj h2
  have e' : bs = cs := by
    have := congrArg (List.map fun d => match d with | D.bl s => s | _ => false) e
    simpa [Function.comp_def] using this
  subst e'
  exact q
theorem eq_nilT : D.eq (.tup r) (.tup []) = r.isEmpty := by cases r <;> simp [D.eq, D.toP, D.toPs, PyData.eqv, PyData.eqvAll]
theorem eq_nilL : D.eq (.lst r) (.lst []) = r.isEmpty := by cases r <;> simp [D.eq, D.toP, D.toPs, PyData.eqv, PyData.eqvAll]
theorem ok_flatL (h : ∀ x ∈ r, flatD x = true ∧ x.nr = true) : D.Ok (.lst r) :=
  ⟨by simp only [D.nr]; exact nrs_iff.mpr fun x hx => (h x hx).2, by simp only [D.dp]; have := (dps_le (n := 0)).mpr fun x hx => Nat.le_of_eq (flat_dp (h x hx).1); omega⟩
theorem ok_nilL : D.Ok (.lst []) := ok_flatL fun x hx => by cases hx
theorem ok_nilT : D.Ok (.tup []) := ⟨by simp [D.nr, D.nrs], by simp [D.dp, D.dps]⟩
@[simp ↓] theorem e_int_i {i : Int} : fInt [.int i] M A = A (.d (.int i)) M := propext ⟨fun ⟨_, h, q⟩ => by cases h; exact q, fun q => ⟨_, rfl, q⟩⟩
@[simp ↓] theorem e_int_b {c : Bool} : fInt [.bl c] M A = A (.d (.int (if c = true then 1 else 0))) M := propext ⟨fun ⟨_, h, q⟩ => by cases h; exact q, fun q => ⟨_, rfl, q⟩⟩
theorem ne_of {x y : D} (h1 : x.Ok) (h2 : y.Ok) : fNe x y M k = k (!D.eq x y) := propext ⟨fun h => h.2.2, fun h => ⟨h1, h2, h⟩⟩
theorem eq_of {x y : D} (h1 : x.Ok) (h2 : y.Ok) : fEq x y M k = k (D.eq x y) := propext ⟨fun h => h.2.2, fun h => ⟨h1, h2, h⟩⟩
theorem eq_str {s : Str} {a : D} (h : ∀ z, a ≠ .str z) : D.eq (.str s) a = false := by
  cases a <;> first | (simp [D.eq, D.toP, PyData.eqv]; done) | exact absurd rfl (h _)
@[simp ↓] theorem e_dJn : dJn t u δ M A X = t δ M (fun x M1 => (∃ a, x = .str a) ∧ u δ M1 (fun y M2 => fJn x y M2 A) X) X := rfl
theorem jn_l {ys : List Str} (h : r = ys.map D.str) : fJn (.str a) (.lst r) M A = ((ys.map (·.length)).sum + ys.length * a.length ≤ 16777216 ∧ A (.d (.str (Txt.join a ys))) M) := by
  subst h
  refine propext ⟨fun ⟨_, zs, h1, h2, h3, q⟩ => ?_, fun ⟨h, q⟩ => ⟨a, ys, rfl, .inr rfl, h, q⟩⟩
  cases h1
  rcases h2 with h2 | h2
  · cases h2
  · have e : ys.map D.str = zs.map D.str := Option.some.inj h2
    have e' : ys = zs := by
      have := congrArg (List.map fun d => match d with | D.str s => s | _ => Str.empty) e
      simpa [Function.comp_def] using this
    subst e'
    exact ⟨h3, q⟩
def chI (z : Str) (i : Int) (k : Nat → Prop) : Prop := ∃ c, atI z.cps.toList i = some c ∧ k c
@[simp ↓] theorem e_ix_s {i : Int} : fIx (.str a) (.int i) M A = (a.length ≤ sizeLine ∧ chI a i (fun c => A (.d (.str ⟨#[c]⟩)) M)) := propext
  ⟨fun ⟨_, h, q⟩ => by cases h; exact q, fun q => ⟨i, rfl, q⟩⟩
theorem chI_at {i : Int} {k : Nat → Prop} {c : Nat} (h0 : 0 ≤ i) (h : a.cps.toList[i.toNat]? = some c) : chI a i k = k c := by
  have hl : i.toNat < a.cps.toList.length := lt_of_get h
  have e : atI a.cps.toList i = some c := by
    unfold atI ixN
    rw [if_pos h0, if_pos (by omega)]
    exact h
  exact propext ⟨fun ⟨_, h', q⟩ => by rw [e] at h'; cases h'; exact q, fun q => ⟨c, e, q⟩⟩
theorem chI_mem {i : Int} {k : Nat → Prop} (h0 : 0 ≤ i) (h1 : i < a.length) (h : ∀ c ∈ a.cps.toList, k c) : chI a i k := by
  have hl : i.toNat < a.cps.toList.length := by
    have : a.length = a.cps.toList.length := by simp [Str.length]
    omega
  rw [chI_at h0 (List.getElem?_eq_getElem hl)]
  exact h _ (List.getElem_mem hl)
@[simp ↓] theorem e_in_s {c : Nat} : fIn (.str ⟨#[c]⟩) (.str a) M k = k (decide (c ∈ a.cps.toList)) := propext
  ⟨fun ⟨c', h, q⟩ => by cases h; exact q, fun q => ⟨c, rfl, q⟩⟩
@[simp ↓] theorem e_notIn_s {c : Nat} : fNotIn (.str ⟨#[c]⟩) (.str a) M k = k (!decide (c ∈ a.cps.toList)) := propext
  ⟨fun ⟨c', h, q⟩ => by cases h; exact q, fun q => ⟨c, rfl, q⟩⟩
@[simp ↓] theorem e_sl_s {l h : Option Int} : fSl (.str a) l h M A = (a.length ≤ sizeLine ∧ A (.d (.str (cutS a l h))) M) := rfl
theorem eq_ss : D.eq (.str a) (.str b) = decide (a = b) := by
  simp only [D.eq, D.toP, PyData.eqv]
  by_cases h : a = b <;> simp [h]
theorem eq_bb' {c e : Bool} : D.eq (.bl c) (.bl e) = (c == e) := eq_bb
end
end DL

set_option Elab.async false
set_option linter.all false
set_option maxRecDepth 100000
set_option maxHeartbeats 2000000
namespace DL
open PySem PySem.Spec PyProof.Rows L2
def spMix : SpD := fun ds M Q E => ∃ n t : Int, ds = [.int n, .int t] ∧ 0 ≤ t ∧ t < 2 ^ 63 ∧ ∀ r : Int, 0 ≤ r → Q (.d (.int r)) M
def tdMix : DP := (sSeq (sAsg (dBin fMod (dFz (dBin fAdd (dFz (dBin fAdd (dFz (dBin fAdd (dFz (dBin fMod (oPeek 0) (vC (.int 2147483629)))) (dFz (dBin fMul (dFz (dBin fMul (vC (.int 7919)) (oPeek 1))) (oPeek 1))))) (dFz (dBin fMul (vC (.int 104729)) (oPeek 1))))) (vC (.int 13)))) (vC (.int 2147483629))) 2) (sSeq (sAsg (dBin fMod (dFz (dBin fMul (dFz (dBin fMod (dFz (dBin fMul (oPeek 2) (oPeek 2))) (vC (.int 2147483587)))) (oPeek 2))) (vC (.int 2147483563))) 2) (sRet (dBin fDiv (dFz (dBin fMod (dFz (dBin fAdd (dFz (dBin fMul (oPeek 2) (vC (.int 40692)))) (oPeek 1))) (vC (.int 2147483399)))) (vC (.int 16))))))
theorem rd_mix : ∀ ds M Q E, spMix ds M Q E → tdMix (endsD Q E) (startD ["number", "turn", "value"] ds) M := by
  rintro ds M Q E ⟨n, t, rfl, h0, h1, k⟩
  show tdMix (endsD Q E) [some (.d (.int n)), some (.d (.int t)), none] M
  simp only [tdMix]
  simp
  generalize (n % 2147483629 + 7919 * t * t + 104729 * t + 13) = u
  have e : ∀ v m : Int, 0 < m → 0 ≤ v % m ∧ v % m < m := fun v m h => ⟨Int.emod_nonneg _ (by omega), Int.emod_lt_of_pos _ h⟩
  have c1 : ∀ i j : Int, 0 ≤ i ∧ i < 2147483629 → CMul i j ∨ CMulW i j := fun i j h => .inl (.inl (by omega))
  have c2 : ∀ i j : Int, 0 ≤ j ∧ j < 2147483629 → CMul i j ∨ CMulW i j := fun i j h => .inl (.inr (by omega))
  refine ⟨c1 _ _ (by omega), .inl (.inr (by omega)), c1 _ _ (by omega), c1 _ _ (e _ _ (by omega)), c2 _ _ (e _ _ (by omega)), c2 _ _ (by omega), k _ ?_⟩
  have := (e (u % 2147483629 * (u % 2147483629) % 2147483587 * (u % 2147483629) % 2147483563 * 40692 + t) 2147483399 (by omega)).1
  omega
def StoreAt (M : MH) (a : Addr) (n : Nat) : Prop := ∃ (cs : List Int) (i l m d : Int), M a = some (.lst [.lst (cs.map D.int), .int i, .int l, .int m, .int d]) ∧ 0 ≤ i ∧ 0 ≤ l ∧ 0 ≤ d ∧ d ≤ n
def spPick : SpD := fun ds M Q E => ∃ (a : Addr) (c : Int) (n : Nat), ds = [.ref a, .int c] ∧ StoreAt M a n ∧ 0 < c ∧ c < 1073741824 ∧ n < 2 ^ 62 ∧ ∀ r M', 0 ≤ r → r < c → StoreAt M' a (n + 1) → (∀ b, b ≠ a → M' b = M b) → Q (.d (.int r)) M'
def tdPick : DP := (sSeq (sSetM (dFz (dBin fAdd (dFz (dBin fIx (oPeek 0) (vC (.int 4)))) (vC (.int 1)))) (vVar 0) (vC (.int 4))) (sSeq (sIf (tdAnd (dCmp fEq (dFz (dBin fIx (oPeek 0) (vC (.int 2)))) (vC (.int 0))) (dCmp fLt (dFz (dBin fIx (oPeek 0) (vC (.int 1)))) (dFz (dCB fLen (aCons (dFz (dBin fIx (oPeek 0) (vC (.int 0)))) aNil))))) (sSeq (sAsg (dBin fIx (dFz (dBin fIx (oPeek 0) (vC (.int 0)))) (dFz (dBin fIx (oPeek 0) (vC (.int 1))))) 2) (sSeq (sSetM (dFz (dBin fAdd (dFz (dBin fIx (oPeek 0) (vC (.int 1)))) (vC (.int 1)))) (vVar 0) (vC (.int 1))) (sSeq (sIf (dCmp fLt (oPeek 2) (dFz (dBin fPow (vC (.int 10)) (vC (.int 18))))) (sRet (dBin fMod (dFz (dCall (spMix) (aCons (vVar 2) (aCons (dFz (dBin fIx (oPeek 0) (vC (.int 4)))) aNil)))) (oPeek 1))) sNext) (sSetM (vVar 2) (vVar 0) (vC (.int 2)))))) sNext) (sSeq (sIf (dCmp fGt (dFz (dBin fIx (oPeek 0) (vC (.int 2)))) (vC (.int 0))) (sSeq (sAsg (dBin fMod (dFz (dBin fIx (oPeek 0) (vC (.int 2)))) (oPeek 1)) 3) (sSeq (sSetM (dFz (dBin fDiv (dFz (dBin fIx (oPeek 0) (vC (.int 2)))) (oPeek 1))) (vVar 0) (vC (.int 2))) (sRetV 3))) sNext) (sRet (dBin fMod (dFz (dCall (spMix) (aCons (dFz (dBin fIx (oPeek 0) (vC (.int 3)))) (aCons (dFz (dBin fIx (oPeek 0) (vC (.int 4)))) aNil)))) (oPeek 1))))))
theorem spMix_eq {n t : Int} {M : MH} {Q : Sl → MH → Prop} {E : Addr → List (Str × D) → MH → Prop} : spMix [.int n, .int t] M Q E = (0 ≤ t ∧ t < 2 ^ 63 ∧ ∀ r : Int, 0 ≤ r → Q (.d (.int r)) M) :=
  propext ⟨fun ⟨_, _, h, q⟩ => by cases h; exact q, fun q => ⟨n, t, rfl, q⟩⟩
theorem rd_pick : ∀ ds M Q E, spPick ds M Q E → tdPick (endsD Q E) (startD ["store", "count", "cell", "digit"] ds) M := by
  rintro ds M Q E ⟨a, c, n, rfl, ⟨cs, i, l, m, d, hM, hi, hl, hd, hn⟩, h1, h2, h3, k⟩
  show tdPick (endsD Q E) [some (.d (.ref a)), some (.d (.int c)), none, none] M
  have hM := lk_at hM
  have fin : ∀ (r i' l' : Int), 0 ≤ r → r < c → 0 ≤ i' → 0 ≤ l' → Q (.d (.int r)) (mu M a (.lst [.lst (cs.map D.int), .int i', .int l', .int m, .int (d + 1)])) := fun r i' l' g1 g2 g3 g4 =>
    k r _ g1 g2 ⟨cs, i', l', m, d + 1, mu_same, g3, g4, by omega, by push_cast; omega⟩ fun b hb => mu_ne hb
  have md : ∀ r : Int, 0 ≤ r % c ∧ r % c < c := fun r => ⟨Int.emod_nonneg _ (by omega), Int.emod_lt_of_pos _ h1⟩
  have dv : ∀ r : Int, 0 ≤ r → 0 ≤ r / c := fun r h => Int.ediv_nonneg h (by omega)
  have p18 : CPow 10 18 := by unfold CPow; decide
  have hu : 0 ≤ d + 1 ∧ d + 1 < 9223372036854775808 := by omega
  by_cases c1 : l = 0
  · subst c1
    by_cases c2 : i < cs.length
    · simp [tdPick, ↓hM, ↓spMix_eq, ↓ixI_int hi c2, c2]
      generalize cs.getD i.toNat 0 = z
      refine ⟨p18, ?_⟩
      split
      · exact ⟨hu.1, hu.2, fun r hr => ⟨h1, fin _ _ _ (md r).1 (md r).2 (by omega) (by omega)⟩⟩
      · rw [if_pos (by omega)]
        exact ⟨h1, ⟨h1, .inl h2⟩, fin _ _ _ (md _).1 (md _).2 (by omega) (dv _ (by omega))⟩
    · simp [tdPick, ↓hM, ↓spMix_eq, c2]
      exact ⟨hu.1, hu.2, fun r hr => ⟨h1, fin _ _ _ (md r).1 (md r).2 (by omega) (by omega)⟩⟩
  · have c3 : 0 < l := by omega
    simp [tdPick, ↓hM, ↓spMix_eq, c1, c3]
    exact ⟨h1, ⟨h1, .inl h2⟩, fin _ _ _ (md _).1 (md _).2 (by omega) (dv _ (by omega))⟩
/-- the store of a script: what is drawn is not looked at -/
def spStore : SpD := fun ds M Q E => ∃ ns : List Int, ds = [.lsk (ns.map D.int)] ∧ ns.length ≤ 63 ∧ ∀ (cs : List Int) (m : Int), Q (.own [.lst (cs.map D.int), .int 0, .int 0, .int m, .int 0]) M
def tdStore : DP := (sSeq (sAsg (dCB fLen (aCons (oPeek 0) aNil)) 1) (sSeq (sFor (iAny (dFz (dSl fSl (oPeek 0) pNone (pSome (dC (.int 63)))))) (gN 2) (sAsg (dBin fMod (dFz (dBin fAdd (dFz (dBin fAdd (dFz (dBin fMul (oPeek 1) (vC (.int 16807)))) (dFz (dBin fMod (oPeek 2) (vC (.int 1000000007)))))) (vC (.int 11)))) (vC (.int 2147483629))) 1)) (sRet (dLst (aCons (dFz (dSl fSl (oPeek 0) pNone (pSome (dC (.int 63))))) (aCons (vC (.int 0)) (aCons (vC (.int 0)) (aCons (vVar 1) (aCons (vC (.int 0)) aNil)))))))))
theorem cut_ints (ns : List Int) (lo hi : Option Int) : ∃ cs : List Int, cutD (ns.map D.int) lo hi = cs.map D.int :=
  ⟨_, by unfold cutD; rw [← List.map_drop, ← List.map_take]⟩
theorem rd_store : ∀ ds M Q E, spStore ds M Q E → tdStore (endsD Q E) (startD ["script", "mixed", "cell"] ds) M := by
  rintro ds M Q E ⟨ns, rfl, hn, k⟩
  show tdStore (endsD Q E) [some (.d (.lsk (ns.map D.int))), none, none] M
  obtain ⟨cs, hc⟩ := cut_ints ns none (some 63)
  simp [tdStore, hc]
  refine forD_ind (fun xs δ M' => ∃ (zs : List Int) (m : Int) (o : Option Sl), xs = zs.map D.int ∧ δ = [some (.d (.lsk (ns.map D.int))), some (.d (.int m)), o] ∧ M' = M) ?_ ?_ _ _ _ ⟨cs, _, none, rfl, rfl, rfl⟩
  · rintro δ M' ⟨zs, m, o, hz, rfl, rfl⟩
    simp [hc]
    exact k cs m
  · rintro x r δ M' ⟨zs, m, o, hz, rfl, rfl⟩ ih
    cases zs with
    | nil => cases hz
    | cons z zs =>
      cases hz
      simp
      exact ⟨.inl (.inr (by decide)), ih _ _ ⟨zs, _, _, rfl, rfl, rfl⟩⟩
/-- a law's promise: of a script of at most 63 ints it is True -/
def spLawT : SpD := fun ds M Q E => ∃ ns : List Int, ds = [.lsk (ns.map D.int)] ∧ ns.length ≤ 63 ∧ ∀ M', Q (.d (.bl true)) M'
end DL

set_option Elab.async false
set_option linter.all false
set_option maxRecDepth 100000
set_option maxHeartbeats 4000000
namespace DL
open PySem PySem.Spec PyProof.Rows L2
/-! ### what a caught error is told to be: the laws' own _law_kind -/
def kname : Nat → Str
  | 0 => "jobs"
  | 1 => "rule"
  | 2 => "lengths"
  | 3 => "log"
  | 4 => "marks"
  | 5 => "named"
  | 6 => "order"
  | 7 => "text"
  | 8 => "number"
  | 9 => "name"
  | 10 => "undo"
  | 11 => "line"
  | _ => ""
def kfield : Nat → Option Str
  | 7 => some "row"
  | 8 => some "number"
  | 9 => some "name"
  | 10 => none
  | 11 => none
  | _ => some "place"
structure KindOf (K : PySem.W.Frag) (a : Nat → Addr) (s C : Addr) (j : Nat) : Prop where
  lt : j < 12
  cl : ∀ i, i < 12 → IsxC K (.ref (a i)) C (decide (i = j))
  sl : IsxC K (.ref s) C true
  ve : IsxC K (.type "ValueError") C true
  fd : ∀ f, kfield j = some f → XkC K f C
def spKind (K : PySem.W.Frag) (a : Nat → Addr) (s : Addr) : SpD := fun ds M Q E => ∃ (x C : Addr) (fs : List (Str × D)) (j : Nat) (d : D), ds = [.ref x] ∧ M x = some (.exc C fs) ∧ KindOf K a s C j ∧ (kfield j = none → d = .int 0) ∧ (∀ f, kfield j = some f → fs = [(f, d)]) ∧ Q (.d (.tup [.str (kname j), d])) M
def tdKind (K : PySem.W.Frag) (a : Nat → Addr) (s : Addr) : DP := (sSeq (sAsg (dLst (aCons (dFz (dOfT (dIsX (IsxC K (.ref (a 0))) (oPeek 0)))) (aCons (dFz (dOfT (dIsX (IsxC K (.ref (a 1))) (oPeek 0)))) (aCons (dFz (dOfT (dIsX (IsxC K (.ref (a 2))) (oPeek 0)))) aNil)))) 1) (sSeq (sAsg (dBin fAdd (oPeek 1) (dFz (dLst (aCons (dFz (dOfT (dIsX (IsxC K (.ref (a 3))) (oPeek 0)))) (aCons (dFz (dOfT (dIsX (IsxC K (.ref (a 4))) (oPeek 0)))) (aCons (dFz (dOfT (dIsX (IsxC K (.ref (a 5))) (oPeek 0)))) aNil)))))) 1) (sSeq (sAsg (dBin fAdd (oPeek 1) (dFz (dLst (aCons (dFz (dOfT (dIsX (IsxC K (.ref (a 6))) (oPeek 0)))) (aCons (dFz (dOfT (dIsX (IsxC K (.ref (a 7))) (oPeek 0)))) (aCons (dFz (dOfT (dIsX (IsxC K (.ref (a 8))) (oPeek 0)))) aNil)))))) 1) (sSeq (sAsg (dBin fAdd (oPeek 1) (dFz (dLst (aCons (dFz (dOfT (dIsX (IsxC K (.ref (a 9))) (oPeek 0)))) (aCons (dFz (dOfT (dIsX (IsxC K (.ref (a 10))) (oPeek 0)))) (aCons (dFz (dOfT (dIsX (IsxC K (.ref (a 11))) (oPeek 0)))) aNil)))))) 1) (sSeq (sIf (tdOr (tdNot (dIsX (IsxC K (.ref s)) (oPeek 0))) (tdOr (tdNot (dIsX (IsxC K (.type "ValueError")) (oPeek 0))) (dCmp fNe (dFz (dM "list" fCnt (oPeek 1) (aCons (vC (.bl true)) aNil))) (vC (.int 1))))) (sRet (dTup (aCons (vC (.str ("other" : Str))) (aCons (vC (.int 0)) aNil)))) sNext) (sSeq (sAsg (dM "list" fIdx (oPeek 1) (aCons (vC (.bl true)) aNil)) 2) (sSeq (sIf (dCmp fLt (oPeek 2) (vC (.int 7))) (sRet (dTup (aCons (dFz (dBin fIx (dFz (dLst (aCons (vC (.str ("jobs" : Str))) (aCons (vC (.str ("rule" : Str))) (aCons (vC (.str ("lengths" : Str))) (aCons (vC (.str ("log" : Str))) (aCons (vC (.str ("marks" : Str))) (aCons (vC (.str ("named" : Str))) (aCons (vC (.str ("order" : Str))) aNil))))))))) (oPeek 2))) (aCons (dFz (dXk ("place" : Str) (XkC K ("place" : Str)) (oPeek 0))) aNil)))) sNext) (sSeq (sIf (dCmp fEq (oPeek 2) (vC (.int 7))) (sRet (dTup (aCons (vC (.str ("text" : Str))) (aCons (dFz (dXk ("row" : Str) (XkC K ("row" : Str)) (oPeek 0))) aNil)))) sNext) (sSeq (sIf (dCmp fEq (oPeek 2) (vC (.int 8))) (sRet (dTup (aCons (vC (.str ("number" : Str))) (aCons (dFz (dXk ("number" : Str) (XkC K ("number" : Str)) (oPeek 0))) aNil)))) sNext) (sSeq (sIf (dCmp fEq (oPeek 2) (vC (.int 9))) (sRet (dTup (aCons (vC (.str ("name" : Str))) (aCons (dFz (dXk ("name" : Str) (XkC K ("name" : Str)) (oPeek 0))) aNil)))) sNext) (sRet (dTup (aCons (dFz (dBin fIx (dFz (dLst (aCons (vC (.str ("undo" : Str))) (aCons (vC (.str ("line" : Str))) aNil)))) (dFz (dBin fSub (oPeek 2) (vC (.int 10)))))) (aCons (vC (.int 0)) aNil))))))))))))))
theorem okBl : ∀ bs : List Bool, D.Ok (.lst (bs.map D.bl)) := fun bs => by
  have h : ∀ bs : List Bool, D.nrs (bs.map D.bl) = true ∧ D.dps (bs.map D.bl) = 0 := fun bs => by
    induction bs with
    | nil => exact ⟨by simp [D.nrs], by simp [D.dps]⟩
    | cons b bs ih => exact ⟨by simp [D.nrs, D.nr, ih.1], by simp [D.dps, D.dp, ih.2]⟩
  exact ⟨by simp [D.nr, (h bs).1], by simp [D.dp, (h bs).2]⟩
section
variable {K : PySem.W.Frag} {a : Nat → Addr} {s C x : Addr} {M : MH} {Q : Sl → MH → Prop} {E : Addr → List (Str × D) → MH → Prop} {fs : List (Str × D)} {d : D}
theorem rd_kind_0 (h : KindOf K a s C 0) (hM : M x = some (.exc C fs)) (h0 : kfield 0 = none → d = .int 0) (hf : ∀ f, kfield 0 = some f → fs = [(f, d)]) (q : Q (.d (.tup [.str (kname 0), d])) M) : tdKind K a s (endsD Q E) [some (.d (.ref x)), none, none] M := by
  have k0 := kx_eq (show IsxC K (.ref (a 0)) C true from h.cl 0 (by decide))
  have k1 := kx_eq (show IsxC K (.ref (a 1)) C false from h.cl 1 (by decide))
  have k2 := kx_eq (show IsxC K (.ref (a 2)) C false from h.cl 2 (by decide))
  have k3 := kx_eq (show IsxC K (.ref (a 3)) C false from h.cl 3 (by decide))
  have k4 := kx_eq (show IsxC K (.ref (a 4)) C false from h.cl 4 (by decide))
  have k5 := kx_eq (show IsxC K (.ref (a 5)) C false from h.cl 5 (by decide))
  have k6 := kx_eq (show IsxC K (.ref (a 6)) C false from h.cl 6 (by decide))
  have k7 := kx_eq (show IsxC K (.ref (a 7)) C false from h.cl 7 (by decide))
  have k8 := kx_eq (show IsxC K (.ref (a 8)) C false from h.cl 8 (by decide))
  have k9 := kx_eq (show IsxC K (.ref (a 9)) C false from h.cl 9 (by decide))
  have k10 := kx_eq (show IsxC K (.ref (a 10)) C false from h.cl 10 (by decide))
  have k11 := kx_eq (show IsxC K (.ref (a 11)) C false from h.cl 11 (by decide))
  have ks := kx_eq h.sl
  have kv := kx_eq h.ve
  have hx := h.fd "place" rfl
  obtain rfl := hf "place" rfl
  have hM := lk_at hM
  have ok : D.Ok (.lst [.bl true, .bl false, .bl false, .bl false, .bl false, .bl false, .bl false, .bl false, .bl false, .bl false, .bl false, .bl false]) := okBl [true, false, false, false, false, false, false, false, false, false, false, false]
  simp [tdKind, ↓hM, ↓ks, ↓kv, ↓k0, ↓k1, ↓k2, ↓k3, ↓k4, ↓k5, ↓k6, ↓k7, ↓k8, ↓k9, ↓k10, ↓k11, ok, ok_bl, eq_bb, hx]
  refine idx_at (j := 0) ok ok_bl rfl (by rw [eq_bb]; rfl) (fun m z hm hz => ?_) ?_
  · have hm' : m < 0 := hm
    match m, hm' with
    | m + 1, h => omega
  · have q : Q (.d (.tup [.str "jobs", d])) M := q
    simpa [↓hM, hx] using q
theorem rd_kind_1 (h : KindOf K a s C 1) (hM : M x = some (.exc C fs)) (h0 : kfield 1 = none → d = .int 0) (hf : ∀ f, kfield 1 = some f → fs = [(f, d)]) (q : Q (.d (.tup [.str (kname 1), d])) M) : tdKind K a s (endsD Q E) [some (.d (.ref x)), none, none] M := by
  have k0 := kx_eq (show IsxC K (.ref (a 0)) C false from h.cl 0 (by decide))
  have k1 := kx_eq (show IsxC K (.ref (a 1)) C true from h.cl 1 (by decide))
  have k2 := kx_eq (show IsxC K (.ref (a 2)) C false from h.cl 2 (by decide))
  have k3 := kx_eq (show IsxC K (.ref (a 3)) C false from h.cl 3 (by decide))
  have k4 := kx_eq (show IsxC K (.ref (a 4)) C false from h.cl 4 (by decide))
  have k5 := kx_eq (show IsxC K (.ref (a 5)) C false from h.cl 5 (by decide))
  have k6 := kx_eq (show IsxC K (.ref (a 6)) C false from h.cl 6 (by decide))
  have k7 := kx_eq (show IsxC K (.ref (a 7)) C false from h.cl 7 (by decide))
  have k8 := kx_eq (show IsxC K (.ref (a 8)) C false from h.cl 8 (by decide))
  have k9 := kx_eq (show IsxC K (.ref (a 9)) C false from h.cl 9 (by decide))
  have k10 := kx_eq (show IsxC K (.ref (a 10)) C false from h.cl 10 (by decide))
  have k11 := kx_eq (show IsxC K (.ref (a 11)) C false from h.cl 11 (by decide))
  have ks := kx_eq h.sl
  have kv := kx_eq h.ve
  have hx := h.fd "place" rfl
  obtain rfl := hf "place" rfl
  have hM := lk_at hM
  have ok : D.Ok (.lst [.bl false, .bl true, .bl false, .bl false, .bl false, .bl false, .bl false, .bl false, .bl false, .bl false, .bl false, .bl false]) := okBl [false, true, false, false, false, false, false, false, false, false, false, false]
  simp [tdKind, ↓hM, ↓ks, ↓kv, ↓k0, ↓k1, ↓k2, ↓k3, ↓k4, ↓k5, ↓k6, ↓k7, ↓k8, ↓k9, ↓k10, ↓k11, ok, ok_bl, eq_bb, hx]
  refine idx_at (j := 1) ok ok_bl rfl (by rw [eq_bb]; rfl) (fun m z hm hz => ?_) ?_
  · have hm' : m < 1 := hm
    match m, hm' with
    | 0, _ => cases hz; rw [eq_bb]; rfl
  · have q : Q (.d (.tup [.str "rule", d])) M := q
    simpa [↓hM, hx] using q
theorem rd_kind_2 (h : KindOf K a s C 2) (hM : M x = some (.exc C fs)) (h0 : kfield 2 = none → d = .int 0) (hf : ∀ f, kfield 2 = some f → fs = [(f, d)]) (q : Q (.d (.tup [.str (kname 2), d])) M) : tdKind K a s (endsD Q E) [some (.d (.ref x)), none, none] M := by
  have k0 := kx_eq (show IsxC K (.ref (a 0)) C false from h.cl 0 (by decide))
  have k1 := kx_eq (show IsxC K (.ref (a 1)) C false from h.cl 1 (by decide))
  have k2 := kx_eq (show IsxC K (.ref (a 2)) C true from h.cl 2 (by decide))
  have k3 := kx_eq (show IsxC K (.ref (a 3)) C false from h.cl 3 (by decide))
  have k4 := kx_eq (show IsxC K (.ref (a 4)) C false from h.cl 4 (by decide))
  have k5 := kx_eq (show IsxC K (.ref (a 5)) C false from h.cl 5 (by decide))
  have k6 := kx_eq (show IsxC K (.ref (a 6)) C false from h.cl 6 (by decide))
  have k7 := kx_eq (show IsxC K (.ref (a 7)) C false from h.cl 7 (by decide))
  have k8 := kx_eq (show IsxC K (.ref (a 8)) C false from h.cl 8 (by decide))
  have k9 := kx_eq (show IsxC K (.ref (a 9)) C false from h.cl 9 (by decide))
  have k10 := kx_eq (show IsxC K (.ref (a 10)) C false from h.cl 10 (by decide))
  have k11 := kx_eq (show IsxC K (.ref (a 11)) C false from h.cl 11 (by decide))
  have ks := kx_eq h.sl
  have kv := kx_eq h.ve
  have hx := h.fd "place" rfl
  obtain rfl := hf "place" rfl
  have hM := lk_at hM
  have ok : D.Ok (.lst [.bl false, .bl false, .bl true, .bl false, .bl false, .bl false, .bl false, .bl false, .bl false, .bl false, .bl false, .bl false]) := okBl [false, false, true, false, false, false, false, false, false, false, false, false]
  simp [tdKind, ↓hM, ↓ks, ↓kv, ↓k0, ↓k1, ↓k2, ↓k3, ↓k4, ↓k5, ↓k6, ↓k7, ↓k8, ↓k9, ↓k10, ↓k11, ok, ok_bl, eq_bb, hx]
  refine idx_at (j := 2) ok ok_bl rfl (by rw [eq_bb]; rfl) (fun m z hm hz => ?_) ?_
  · have hm' : m < 2 := hm
    match m, hm' with
    | 0, _ => cases hz; rw [eq_bb]; rfl
    | 1, _ => cases hz; rw [eq_bb]; rfl
  · have q : Q (.d (.tup [.str "lengths", d])) M := q
    simpa [↓hM, hx] using q
theorem rd_kind_3 (h : KindOf K a s C 3) (hM : M x = some (.exc C fs)) (h0 : kfield 3 = none → d = .int 0) (hf : ∀ f, kfield 3 = some f → fs = [(f, d)]) (q : Q (.d (.tup [.str (kname 3), d])) M) : tdKind K a s (endsD Q E) [some (.d (.ref x)), none, none] M := by
  have k0 := kx_eq (show IsxC K (.ref (a 0)) C false from h.cl 0 (by decide))
  have k1 := kx_eq (show IsxC K (.ref (a 1)) C false from h.cl 1 (by decide))
  have k2 := kx_eq (show IsxC K (.ref (a 2)) C false from h.cl 2 (by decide))
  have k3 := kx_eq (show IsxC K (.ref (a 3)) C true from h.cl 3 (by decide))
  have k4 := kx_eq (show IsxC K (.ref (a 4)) C false from h.cl 4 (by decide))
  have k5 := kx_eq (show IsxC K (.ref (a 5)) C false from h.cl 5 (by decide))
  have k6 := kx_eq (show IsxC K (.ref (a 6)) C false from h.cl 6 (by decide))
  have k7 := kx_eq (show IsxC K (.ref (a 7)) C false from h.cl 7 (by decide))
  have k8 := kx_eq (show IsxC K (.ref (a 8)) C false from h.cl 8 (by decide))
  have k9 := kx_eq (show IsxC K (.ref (a 9)) C false from h.cl 9 (by decide))
  have k10 := kx_eq (show IsxC K (.ref (a 10)) C false from h.cl 10 (by decide))
  have k11 := kx_eq (show IsxC K (.ref (a 11)) C false from h.cl 11 (by decide))
  have ks := kx_eq h.sl
  have kv := kx_eq h.ve
  have hx := h.fd "place" rfl
  obtain rfl := hf "place" rfl
  have hM := lk_at hM
  have ok : D.Ok (.lst [.bl false, .bl false, .bl false, .bl true, .bl false, .bl false, .bl false, .bl false, .bl false, .bl false, .bl false, .bl false]) := okBl [false, false, false, true, false, false, false, false, false, false, false, false]
  simp [tdKind, ↓hM, ↓ks, ↓kv, ↓k0, ↓k1, ↓k2, ↓k3, ↓k4, ↓k5, ↓k6, ↓k7, ↓k8, ↓k9, ↓k10, ↓k11, ok, ok_bl, eq_bb, hx]
  refine idx_at (j := 3) ok ok_bl rfl (by rw [eq_bb]; rfl) (fun m z hm hz => ?_) ?_
  · have hm' : m < 3 := hm
    match m, hm' with
    | 0, _ => cases hz; rw [eq_bb]; rfl
    | 1, _ => cases hz; rw [eq_bb]; rfl
    | 2, _ => cases hz; rw [eq_bb]; rfl
  · have q : Q (.d (.tup [.str "log", d])) M := q
    simpa [↓hM, hx] using q
theorem rd_kind_4 (h : KindOf K a s C 4) (hM : M x = some (.exc C fs)) (h0 : kfield 4 = none → d = .int 0) (hf : ∀ f, kfield 4 = some f → fs = [(f, d)]) (q : Q (.d (.tup [.str (kname 4), d])) M) : tdKind K a s (endsD Q E) [some (.d (.ref x)), none, none] M := by
  have k0 := kx_eq (show IsxC K (.ref (a 0)) C false from h.cl 0 (by decide))
  have k1 := kx_eq (show IsxC K (.ref (a 1)) C false from h.cl 1 (by decide))
  have k2 := kx_eq (show IsxC K (.ref (a 2)) C false from h.cl 2 (by decide))
  have k3 := kx_eq (show IsxC K (.ref (a 3)) C false from h.cl 3 (by decide))
  have k4 := kx_eq (show IsxC K (.ref (a 4)) C true from h.cl 4 (by decide))
  have k5 := kx_eq (show IsxC K (.ref (a 5)) C false from h.cl 5 (by decide))
  have k6 := kx_eq (show IsxC K (.ref (a 6)) C false from h.cl 6 (by decide))
  have k7 := kx_eq (show IsxC K (.ref (a 7)) C false from h.cl 7 (by decide))
  have k8 := kx_eq (show IsxC K (.ref (a 8)) C false from h.cl 8 (by decide))
  have k9 := kx_eq (show IsxC K (.ref (a 9)) C false from h.cl 9 (by decide))
  have k10 := kx_eq (show IsxC K (.ref (a 10)) C false from h.cl 10 (by decide))
  have k11 := kx_eq (show IsxC K (.ref (a 11)) C false from h.cl 11 (by decide))
  have ks := kx_eq h.sl
  have kv := kx_eq h.ve
  have hx := h.fd "place" rfl
  obtain rfl := hf "place" rfl
  have hM := lk_at hM
  have ok : D.Ok (.lst [.bl false, .bl false, .bl false, .bl false, .bl true, .bl false, .bl false, .bl false, .bl false, .bl false, .bl false, .bl false]) := okBl [false, false, false, false, true, false, false, false, false, false, false, false]
  simp [tdKind, ↓hM, ↓ks, ↓kv, ↓k0, ↓k1, ↓k2, ↓k3, ↓k4, ↓k5, ↓k6, ↓k7, ↓k8, ↓k9, ↓k10, ↓k11, ok, ok_bl, eq_bb, hx]
  refine idx_at (j := 4) ok ok_bl rfl (by rw [eq_bb]; rfl) (fun m z hm hz => ?_) ?_
  · have hm' : m < 4 := hm
    match m, hm' with
    | 0, _ => cases hz; rw [eq_bb]; rfl
    | 1, _ => cases hz; rw [eq_bb]; rfl
    | 2, _ => cases hz; rw [eq_bb]; rfl
    | 3, _ => cases hz; rw [eq_bb]; rfl
  · have q : Q (.d (.tup [.str "marks", d])) M := q
    simpa [↓hM, hx] using q
theorem rd_kind_5 (h : KindOf K a s C 5) (hM : M x = some (.exc C fs)) (h0 : kfield 5 = none → d = .int 0) (hf : ∀ f, kfield 5 = some f → fs = [(f, d)]) (q : Q (.d (.tup [.str (kname 5), d])) M) : tdKind K a s (endsD Q E) [some (.d (.ref x)), none, none] M := by
  have k0 := kx_eq (show IsxC K (.ref (a 0)) C false from h.cl 0 (by decide))
  have k1 := kx_eq (show IsxC K (.ref (a 1)) C false from h.cl 1 (by decide))
  have k2 := kx_eq (show IsxC K (.ref (a 2)) C false from h.cl 2 (by decide))
  have k3 := kx_eq (show IsxC K (.ref (a 3)) C false from h.cl 3 (by decide))
  have k4 := kx_eq (show IsxC K (.ref (a 4)) C false from h.cl 4 (by decide))
  have k5 := kx_eq (show IsxC K (.ref (a 5)) C true from h.cl 5 (by decide))
  have k6 := kx_eq (show IsxC K (.ref (a 6)) C false from h.cl 6 (by decide))
  have k7 := kx_eq (show IsxC K (.ref (a 7)) C false from h.cl 7 (by decide))
  have k8 := kx_eq (show IsxC K (.ref (a 8)) C false from h.cl 8 (by decide))
  have k9 := kx_eq (show IsxC K (.ref (a 9)) C false from h.cl 9 (by decide))
  have k10 := kx_eq (show IsxC K (.ref (a 10)) C false from h.cl 10 (by decide))
  have k11 := kx_eq (show IsxC K (.ref (a 11)) C false from h.cl 11 (by decide))
  have ks := kx_eq h.sl
  have kv := kx_eq h.ve
  have hx := h.fd "place" rfl
  obtain rfl := hf "place" rfl
  have hM := lk_at hM
  have ok : D.Ok (.lst [.bl false, .bl false, .bl false, .bl false, .bl false, .bl true, .bl false, .bl false, .bl false, .bl false, .bl false, .bl false]) := okBl [false, false, false, false, false, true, false, false, false, false, false, false]
  simp [tdKind, ↓hM, ↓ks, ↓kv, ↓k0, ↓k1, ↓k2, ↓k3, ↓k4, ↓k5, ↓k6, ↓k7, ↓k8, ↓k9, ↓k10, ↓k11, ok, ok_bl, eq_bb, hx]
  refine idx_at (j := 5) ok ok_bl rfl (by rw [eq_bb]; rfl) (fun m z hm hz => ?_) ?_
  · have hm' : m < 5 := hm
    match m, hm' with
    | 0, _ => cases hz; rw [eq_bb]; rfl
    | 1, _ => cases hz; rw [eq_bb]; rfl
    | 2, _ => cases hz; rw [eq_bb]; rfl
    | 3, _ => cases hz; rw [eq_bb]; rfl
    | 4, _ => cases hz; rw [eq_bb]; rfl
  · have q : Q (.d (.tup [.str "named", d])) M := q
    simpa [↓hM, hx] using q
theorem rd_kind_6 (h : KindOf K a s C 6) (hM : M x = some (.exc C fs)) (h0 : kfield 6 = none → d = .int 0) (hf : ∀ f, kfield 6 = some f → fs = [(f, d)]) (q : Q (.d (.tup [.str (kname 6), d])) M) : tdKind K a s (endsD Q E) [some (.d (.ref x)), none, none] M := by
  have k0 := kx_eq (show IsxC K (.ref (a 0)) C false from h.cl 0 (by decide))
  have k1 := kx_eq (show IsxC K (.ref (a 1)) C false from h.cl 1 (by decide))
  have k2 := kx_eq (show IsxC K (.ref (a 2)) C false from h.cl 2 (by decide))
  have k3 := kx_eq (show IsxC K (.ref (a 3)) C false from h.cl 3 (by decide))
  have k4 := kx_eq (show IsxC K (.ref (a 4)) C false from h.cl 4 (by decide))
  have k5 := kx_eq (show IsxC K (.ref (a 5)) C false from h.cl 5 (by decide))
  have k6 := kx_eq (show IsxC K (.ref (a 6)) C true from h.cl 6 (by decide))
  have k7 := kx_eq (show IsxC K (.ref (a 7)) C false from h.cl 7 (by decide))
  have k8 := kx_eq (show IsxC K (.ref (a 8)) C false from h.cl 8 (by decide))
  have k9 := kx_eq (show IsxC K (.ref (a 9)) C false from h.cl 9 (by decide))
  have k10 := kx_eq (show IsxC K (.ref (a 10)) C false from h.cl 10 (by decide))
  have k11 := kx_eq (show IsxC K (.ref (a 11)) C false from h.cl 11 (by decide))
  have ks := kx_eq h.sl
  have kv := kx_eq h.ve
  have hx := h.fd "place" rfl
  obtain rfl := hf "place" rfl
  have hM := lk_at hM
  have ok : D.Ok (.lst [.bl false, .bl false, .bl false, .bl false, .bl false, .bl false, .bl true, .bl false, .bl false, .bl false, .bl false, .bl false]) := okBl [false, false, false, false, false, false, true, false, false, false, false, false]
  simp [tdKind, ↓hM, ↓ks, ↓kv, ↓k0, ↓k1, ↓k2, ↓k3, ↓k4, ↓k5, ↓k6, ↓k7, ↓k8, ↓k9, ↓k10, ↓k11, ok, ok_bl, eq_bb, hx]
  refine idx_at (j := 6) ok ok_bl rfl (by rw [eq_bb]; rfl) (fun m z hm hz => ?_) ?_
  · have hm' : m < 6 := hm
    match m, hm' with
    | 0, _ => cases hz; rw [eq_bb]; rfl
    | 1, _ => cases hz; rw [eq_bb]; rfl
    | 2, _ => cases hz; rw [eq_bb]; rfl
    | 3, _ => cases hz; rw [eq_bb]; rfl
    | 4, _ => cases hz; rw [eq_bb]; rfl
    | 5, _ => cases hz; rw [eq_bb]; rfl
  · have q : Q (.d (.tup [.str "order", d])) M := q
    simpa [↓hM, hx] using q
theorem rd_kind_7 (h : KindOf K a s C 7) (hM : M x = some (.exc C fs)) (h0 : kfield 7 = none → d = .int 0) (hf : ∀ f, kfield 7 = some f → fs = [(f, d)]) (q : Q (.d (.tup [.str (kname 7), d])) M) : tdKind K a s (endsD Q E) [some (.d (.ref x)), none, none] M := by
  have k0 := kx_eq (show IsxC K (.ref (a 0)) C false from h.cl 0 (by decide))
  have k1 := kx_eq (show IsxC K (.ref (a 1)) C false from h.cl 1 (by decide))
  have k2 := kx_eq (show IsxC K (.ref (a 2)) C false from h.cl 2 (by decide))
  have k3 := kx_eq (show IsxC K (.ref (a 3)) C false from h.cl 3 (by decide))
  have k4 := kx_eq (show IsxC K (.ref (a 4)) C false from h.cl 4 (by decide))
  have k5 := kx_eq (show IsxC K (.ref (a 5)) C false from h.cl 5 (by decide))
  have k6 := kx_eq (show IsxC K (.ref (a 6)) C false from h.cl 6 (by decide))
  have k7 := kx_eq (show IsxC K (.ref (a 7)) C true from h.cl 7 (by decide))
  have k8 := kx_eq (show IsxC K (.ref (a 8)) C false from h.cl 8 (by decide))
  have k9 := kx_eq (show IsxC K (.ref (a 9)) C false from h.cl 9 (by decide))
  have k10 := kx_eq (show IsxC K (.ref (a 10)) C false from h.cl 10 (by decide))
  have k11 := kx_eq (show IsxC K (.ref (a 11)) C false from h.cl 11 (by decide))
  have ks := kx_eq h.sl
  have kv := kx_eq h.ve
  have hx := h.fd "row" rfl
  obtain rfl := hf "row" rfl
  have hM := lk_at hM
  have ok : D.Ok (.lst [.bl false, .bl false, .bl false, .bl false, .bl false, .bl false, .bl false, .bl true, .bl false, .bl false, .bl false, .bl false]) := okBl [false, false, false, false, false, false, false, true, false, false, false, false]
  simp [tdKind, ↓hM, ↓ks, ↓kv, ↓k0, ↓k1, ↓k2, ↓k3, ↓k4, ↓k5, ↓k6, ↓k7, ↓k8, ↓k9, ↓k10, ↓k11, ok, ok_bl, eq_bb, hx]
  refine idx_at (j := 7) ok ok_bl rfl (by rw [eq_bb]; rfl) (fun m z hm hz => ?_) ?_
  · have hm' : m < 7 := hm
    match m, hm' with
    | 0, _ => cases hz; rw [eq_bb]; rfl
    | 1, _ => cases hz; rw [eq_bb]; rfl
    | 2, _ => cases hz; rw [eq_bb]; rfl
    | 3, _ => cases hz; rw [eq_bb]; rfl
    | 4, _ => cases hz; rw [eq_bb]; rfl
    | 5, _ => cases hz; rw [eq_bb]; rfl
    | 6, _ => cases hz; rw [eq_bb]; rfl
  · have q : Q (.d (.tup [.str "text", d])) M := q
    simpa [↓hM, hx] using q
theorem rd_kind_8 (h : KindOf K a s C 8) (hM : M x = some (.exc C fs)) (h0 : kfield 8 = none → d = .int 0) (hf : ∀ f, kfield 8 = some f → fs = [(f, d)]) (q : Q (.d (.tup [.str (kname 8), d])) M) : tdKind K a s (endsD Q E) [some (.d (.ref x)), none, none] M := by
  have k0 := kx_eq (show IsxC K (.ref (a 0)) C false from h.cl 0 (by decide))
  have k1 := kx_eq (show IsxC K (.ref (a 1)) C false from h.cl 1 (by decide))
  have k2 := kx_eq (show IsxC K (.ref (a 2)) C false from h.cl 2 (by decide))
  have k3 := kx_eq (show IsxC K (.ref (a 3)) C false from h.cl 3 (by decide))
  have k4 := kx_eq (show IsxC K (.ref (a 4)) C false from h.cl 4 (by decide))
  have k5 := kx_eq (show IsxC K (.ref (a 5)) C false from h.cl 5 (by decide))
  have k6 := kx_eq (show IsxC K (.ref (a 6)) C false from h.cl 6 (by decide))
  have k7 := kx_eq (show IsxC K (.ref (a 7)) C false from h.cl 7 (by decide))
  have k8 := kx_eq (show IsxC K (.ref (a 8)) C true from h.cl 8 (by decide))
  have k9 := kx_eq (show IsxC K (.ref (a 9)) C false from h.cl 9 (by decide))
  have k10 := kx_eq (show IsxC K (.ref (a 10)) C false from h.cl 10 (by decide))
  have k11 := kx_eq (show IsxC K (.ref (a 11)) C false from h.cl 11 (by decide))
  have ks := kx_eq h.sl
  have kv := kx_eq h.ve
  have hx := h.fd "number" rfl
  obtain rfl := hf "number" rfl
  have hM := lk_at hM
  have ok : D.Ok (.lst [.bl false, .bl false, .bl false, .bl false, .bl false, .bl false, .bl false, .bl false, .bl true, .bl false, .bl false, .bl false]) := okBl [false, false, false, false, false, false, false, false, true, false, false, false]
  simp [tdKind, ↓hM, ↓ks, ↓kv, ↓k0, ↓k1, ↓k2, ↓k3, ↓k4, ↓k5, ↓k6, ↓k7, ↓k8, ↓k9, ↓k10, ↓k11, ok, ok_bl, eq_bb, hx]
  refine idx_at (j := 8) ok ok_bl rfl (by rw [eq_bb]; rfl) (fun m z hm hz => ?_) ?_
  · have hm' : m < 8 := hm
    match m, hm' with
    | 0, _ => cases hz; rw [eq_bb]; rfl
    | 1, _ => cases hz; rw [eq_bb]; rfl
    | 2, _ => cases hz; rw [eq_bb]; rfl
    | 3, _ => cases hz; rw [eq_bb]; rfl
    | 4, _ => cases hz; rw [eq_bb]; rfl
    | 5, _ => cases hz; rw [eq_bb]; rfl
    | 6, _ => cases hz; rw [eq_bb]; rfl
    | 7, _ => cases hz; rw [eq_bb]; rfl
  · have q : Q (.d (.tup [.str "number", d])) M := q
    simpa [↓hM, hx] using q
theorem rd_kind_9 (h : KindOf K a s C 9) (hM : M x = some (.exc C fs)) (h0 : kfield 9 = none → d = .int 0) (hf : ∀ f, kfield 9 = some f → fs = [(f, d)]) (q : Q (.d (.tup [.str (kname 9), d])) M) : tdKind K a s (endsD Q E) [some (.d (.ref x)), none, none] M := by
  have k0 := kx_eq (show IsxC K (.ref (a 0)) C false from h.cl 0 (by decide))
  have k1 := kx_eq (show IsxC K (.ref (a 1)) C false from h.cl 1 (by decide))
  have k2 := kx_eq (show IsxC K (.ref (a 2)) C false from h.cl 2 (by decide))
  have k3 := kx_eq (show IsxC K (.ref (a 3)) C false from h.cl 3 (by decide))
  have k4 := kx_eq (show IsxC K (.ref (a 4)) C false from h.cl 4 (by decide))
  have k5 := kx_eq (show IsxC K (.ref (a 5)) C false from h.cl 5 (by decide))
  have k6 := kx_eq (show IsxC K (.ref (a 6)) C false from h.cl 6 (by decide))
  have k7 := kx_eq (show IsxC K (.ref (a 7)) C false from h.cl 7 (by decide))
  have k8 := kx_eq (show IsxC K (.ref (a 8)) C false from h.cl 8 (by decide))
  have k9 := kx_eq (show IsxC K (.ref (a 9)) C true from h.cl 9 (by decide))
  have k10 := kx_eq (show IsxC K (.ref (a 10)) C false from h.cl 10 (by decide))
  have k11 := kx_eq (show IsxC K (.ref (a 11)) C false from h.cl 11 (by decide))
  have ks := kx_eq h.sl
  have kv := kx_eq h.ve
  have hx := h.fd "name" rfl
  obtain rfl := hf "name" rfl
  have hM := lk_at hM
  have ok : D.Ok (.lst [.bl false, .bl false, .bl false, .bl false, .bl false, .bl false, .bl false, .bl false, .bl false, .bl true, .bl false, .bl false]) := okBl [false, false, false, false, false, false, false, false, false, true, false, false]
  simp [tdKind, ↓hM, ↓ks, ↓kv, ↓k0, ↓k1, ↓k2, ↓k3, ↓k4, ↓k5, ↓k6, ↓k7, ↓k8, ↓k9, ↓k10, ↓k11, ok, ok_bl, eq_bb, hx]
  refine idx_at (j := 9) ok ok_bl rfl (by rw [eq_bb]; rfl) (fun m z hm hz => ?_) ?_
  · have hm' : m < 9 := hm
    match m, hm' with
    | 0, _ => cases hz; rw [eq_bb]; rfl
    | 1, _ => cases hz; rw [eq_bb]; rfl
    | 2, _ => cases hz; rw [eq_bb]; rfl
    | 3, _ => cases hz; rw [eq_bb]; rfl
    | 4, _ => cases hz; rw [eq_bb]; rfl
    | 5, _ => cases hz; rw [eq_bb]; rfl
    | 6, _ => cases hz; rw [eq_bb]; rfl
    | 7, _ => cases hz; rw [eq_bb]; rfl
    | 8, _ => cases hz; rw [eq_bb]; rfl
  · have q : Q (.d (.tup [.str "name", d])) M := q
    simpa [↓hM, hx] using q
theorem rd_kind_10 (h : KindOf K a s C 10) (hM : M x = some (.exc C fs)) (h0 : kfield 10 = none → d = .int 0) (hf : ∀ f, kfield 10 = some f → fs = [(f, d)]) (q : Q (.d (.tup [.str (kname 10), d])) M) : tdKind K a s (endsD Q E) [some (.d (.ref x)), none, none] M := by
  have k0 := kx_eq (show IsxC K (.ref (a 0)) C false from h.cl 0 (by decide))
  have k1 := kx_eq (show IsxC K (.ref (a 1)) C false from h.cl 1 (by decide))
  have k2 := kx_eq (show IsxC K (.ref (a 2)) C false from h.cl 2 (by decide))
  have k3 := kx_eq (show IsxC K (.ref (a 3)) C false from h.cl 3 (by decide))
  have k4 := kx_eq (show IsxC K (.ref (a 4)) C false from h.cl 4 (by decide))
  have k5 := kx_eq (show IsxC K (.ref (a 5)) C false from h.cl 5 (by decide))
  have k6 := kx_eq (show IsxC K (.ref (a 6)) C false from h.cl 6 (by decide))
  have k7 := kx_eq (show IsxC K (.ref (a 7)) C false from h.cl 7 (by decide))
  have k8 := kx_eq (show IsxC K (.ref (a 8)) C false from h.cl 8 (by decide))
  have k9 := kx_eq (show IsxC K (.ref (a 9)) C false from h.cl 9 (by decide))
  have k10 := kx_eq (show IsxC K (.ref (a 10)) C true from h.cl 10 (by decide))
  have k11 := kx_eq (show IsxC K (.ref (a 11)) C false from h.cl 11 (by decide))
  have ks := kx_eq h.sl
  have kv := kx_eq h.ve
  obtain rfl := h0 rfl
  have hM := lk_at hM
  have ok : D.Ok (.lst [.bl false, .bl false, .bl false, .bl false, .bl false, .bl false, .bl false, .bl false, .bl false, .bl false, .bl true, .bl false]) := okBl [false, false, false, false, false, false, false, false, false, false, true, false]
  simp [tdKind, ↓hM, ↓ks, ↓kv, ↓k0, ↓k1, ↓k2, ↓k3, ↓k4, ↓k5, ↓k6, ↓k7, ↓k8, ↓k9, ↓k10, ↓k11, ok, ok_bl, eq_bb]
  refine idx_at (j := 10) ok ok_bl rfl (by rw [eq_bb]; rfl) (fun m z hm hz => ?_) ?_
  · have hm' : m < 10 := hm
    match m, hm' with
    | 0, _ => cases hz; rw [eq_bb]; rfl
    | 1, _ => cases hz; rw [eq_bb]; rfl
    | 2, _ => cases hz; rw [eq_bb]; rfl
    | 3, _ => cases hz; rw [eq_bb]; rfl
    | 4, _ => cases hz; rw [eq_bb]; rfl
    | 5, _ => cases hz; rw [eq_bb]; rfl
    | 6, _ => cases hz; rw [eq_bb]; rfl
    | 7, _ => cases hz; rw [eq_bb]; rfl
    | 8, _ => cases hz; rw [eq_bb]; rfl
    | 9, _ => cases hz; rw [eq_bb]; rfl
  · have q : Q (.d (.tup [.str "undo", .int 0])) M := q
    simpa [↓hM] using q
theorem rd_kind_11 (h : KindOf K a s C 11) (hM : M x = some (.exc C fs)) (h0 : kfield 11 = none → d = .int 0) (hf : ∀ f, kfield 11 = some f → fs = [(f, d)]) (q : Q (.d (.tup [.str (kname 11), d])) M) : tdKind K a s (endsD Q E) [some (.d (.ref x)), none, none] M := by
  have k0 := kx_eq (show IsxC K (.ref (a 0)) C false from h.cl 0 (by decide))
  have k1 := kx_eq (show IsxC K (.ref (a 1)) C false from h.cl 1 (by decide))
  have k2 := kx_eq (show IsxC K (.ref (a 2)) C false from h.cl 2 (by decide))
  have k3 := kx_eq (show IsxC K (.ref (a 3)) C false from h.cl 3 (by decide))
  have k4 := kx_eq (show IsxC K (.ref (a 4)) C false from h.cl 4 (by decide))
  have k5 := kx_eq (show IsxC K (.ref (a 5)) C false from h.cl 5 (by decide))
  have k6 := kx_eq (show IsxC K (.ref (a 6)) C false from h.cl 6 (by decide))
  have k7 := kx_eq (show IsxC K (.ref (a 7)) C false from h.cl 7 (by decide))
  have k8 := kx_eq (show IsxC K (.ref (a 8)) C false from h.cl 8 (by decide))
  have k9 := kx_eq (show IsxC K (.ref (a 9)) C false from h.cl 9 (by decide))
  have k10 := kx_eq (show IsxC K (.ref (a 10)) C false from h.cl 10 (by decide))
  have k11 := kx_eq (show IsxC K (.ref (a 11)) C true from h.cl 11 (by decide))
  have ks := kx_eq h.sl
  have kv := kx_eq h.ve
  obtain rfl := h0 rfl
  have hM := lk_at hM
  have ok : D.Ok (.lst [.bl false, .bl false, .bl false, .bl false, .bl false, .bl false, .bl false, .bl false, .bl false, .bl false, .bl false, .bl true]) := okBl [false, false, false, false, false, false, false, false, false, false, false, true]
  simp [tdKind, ↓hM, ↓ks, ↓kv, ↓k0, ↓k1, ↓k2, ↓k3, ↓k4, ↓k5, ↓k6, ↓k7, ↓k8, ↓k9, ↓k10, ↓k11, ok, ok_bl, eq_bb]
  refine idx_at (j := 11) ok ok_bl rfl (by rw [eq_bb]; rfl) (fun m z hm hz => ?_) ?_
  · have hm' : m < 11 := hm
    match m, hm' with
    | 0, _ => cases hz; rw [eq_bb]; rfl
    | 1, _ => cases hz; rw [eq_bb]; rfl
    | 2, _ => cases hz; rw [eq_bb]; rfl
    | 3, _ => cases hz; rw [eq_bb]; rfl
    | 4, _ => cases hz; rw [eq_bb]; rfl
    | 5, _ => cases hz; rw [eq_bb]; rfl
    | 6, _ => cases hz; rw [eq_bb]; rfl
    | 7, _ => cases hz; rw [eq_bb]; rfl
    | 8, _ => cases hz; rw [eq_bb]; rfl
    | 9, _ => cases hz; rw [eq_bb]; rfl
    | 10, _ => cases hz; rw [eq_bb]; rfl
  · have q : Q (.d (.tup [.str "line", .int 0])) M := q
    simpa [↓hM] using q
theorem rd_kind : ∀ ds M Q E, spKind K a s ds M Q E → tdKind K a s (endsD Q E) (startD ["caught", "kinds", "at"] ds) M := by
  rintro ds M Q E ⟨x, C, fs, j, d, rfl, hM, h, h0, hf, q⟩
  show tdKind K a s (endsD Q E) [some (.d (.ref x)), none, none] M
  match j, h.lt with
  | 0, _ => exact rd_kind_0 h hM h0 hf q
  | 1, _ => exact rd_kind_1 h hM h0 hf q
  | 2, _ => exact rd_kind_2 h hM h0 hf q
  | 3, _ => exact rd_kind_3 h hM h0 hf q
  | 4, _ => exact rd_kind_4 h hM h0 hf q
  | 5, _ => exact rd_kind_5 h hM h0 hf q
  | 6, _ => exact rd_kind_6 h hM h0 hf q
  | 7, _ => exact rd_kind_7 h hM h0 hf q
  | 8, _ => exact rd_kind_8 h hM h0 hf q
  | 9, _ => exact rd_kind_9 h hM h0 hf q
  | 10, _ => exact rd_kind_10 h hM h0 hf q
  | 11, _ => exact rd_kind_11 h hM h0 hf q
end
end DL

set_option Elab.async false
set_option linter.all false
set_option maxRecDepth 100000
set_option maxHeartbeats 2000000
namespace DL
open PySem PySem.Spec PyProof.Rows L2
/-! ### what the top has written -/
section
variable {K : PySem.W.Frag} {C A : Addr}
theorem kit_at {b : Bool} (s : PySem.W.subIn K (.ref C) (.ref C) = some true) (h1 : PySem.W.isClsIn K A = true) (h2 : PySem.W.typeIn K (.ref A) = some (.type "type")) (h3 : PySem.W.subIn K (.ref C) (.ref A) = some b) : PySem.W.kitOne K (.ref C) (.ref A) = some b := by
  unfold PySem.W.kitOne
  by_cases e : ((Value.ref C == Value.ref A) = true)
  · rw [if_pos e]
    have e' : Value.ref C = Value.ref A := beq_iff_eq.mp e
    cases e'
    rw [s] at h3
    exact h3
  · rw [if_neg e]
    show (if ((PySem.W.clsIn K A).isSome && PySem.W.typeIn K (.ref A) == some (.type "type")) = true then PySem.W.subIn K (.ref C) (.ref A) else none) = some b
    have h1' : (PySem.W.clsIn K A).isSome = true := h1
    rw [h1', h2]
    rw [if_pos (show (true && some (Value.type "type") == some (Value.type "type")) = true from rfl)]
    exact h3
theorem kit_ve (s : PySem.W.subIn K (.ref C) (.type "ValueError") = some true) : PySem.W.kitOne K (.ref C) (.type "ValueError") = some true := by
  unfold PySem.W.kitOne
  rw [if_neg (show ¬ (Value.ref C == Value.type "ValueError") = true from fun e => by cases beq_iff_eq.mp e)]
  show (if PySem.W.kitMeta "ValueError" = true then PySem.W.subIn K (.ref C) (.type "ValueError") else none) = some true
  rw [if_pos (by decide +kernel)]
  exact s
/-- a class of errors -/
structure ErrF (K : PySem.W.Frag) (C : Addr) : Prop where
  hg : PySem.W.findIn K (.ref C) "__getattribute__" = some (some (.builtin "BaseException.__getattribute__"))
  hk : PySem.W.findIn K (.ref C) "__getattr__" = some none
  hs : PySem.W.subIn K (.ref C) (.type "BaseException") = some true
  hd : PySem.W.hasDictIn K C = true
  ha : PySem.W.findIn K (.ref C) "__class__" = some (some (.builtin "object.__class__"))
  hn : PySem.W.specialIn K (.builtin "object.__class__") "__get__" = some (some (.builtin "getset_descriptor.__get__"))
  ht : PySem.W.takesIn K (.builtin "object.__class__") = some true
  hm : PySem.W.mroIn K C (.type "object") = some true
  ss : PySem.W.subIn K (.ref C) (.ref C) = some true
  sv : PySem.W.subIn K (.ref C) (.type "ValueError") = some true
theorem ErrF.exc (E : ErrF K C) : ExcC K C := ⟨E.hg, E.hk, E.hs, E.hd, E.ha, E.hn, E.ht, E.hm⟩
theorem ErrF.xfc (E : ErrF K C) : XfC K C := ⟨E.hg, E.hk, E.hs, E.hd⟩
theorem ErrF.is (E : ErrF K C) {b : Bool} (h1 : PySem.W.isClsIn K A = true) (h2 : PySem.W.typeIn K (.ref A) = some (.type "type")) (h3 : PySem.W.subIn K (.ref C) (.ref A) = some b) : IsxC K (.ref A) C b := ⟨E.exc, kit_at E.ss h1 h2 h3⟩
/-- what any law of ints asks -/
theorem CX_none {P : Program} {w : World} {H : Hp} {s s' : Shared} {e : Value} : L2.CX P w [] H s (fun _ _ _ => False) e s' → False := fun ⟨_, _, _, _, _, _, _, _, _, _, _, _, z⟩ => z
theorem isi_in {F : Hp} : ∀ ns : List Int, Rs K F (ns.map V.int) (ns.map D.int)
  | [] => .nil
  | _ :: ns => .cons (.int _) (isi_in ns)
theorem law_in {H : Hp} {a : Addr} {ns : List Int} {sp : SpD} (hS : SqL K H a (ns.map V.int)) (h : ∀ Q E, (∀ M', Q (.d (.bl true)) M') → sp [.lsk (ns.map D.int)] (fun _ => none) Q E) :
    LSp K sp [.ref a] H (fun v _ => v = .bl true) (fun _ _ _ => False) := by
  refine ⟨H, fun _ => none, [.lsk (ns.map D.int)], fun r _ => r = .d (.bl true), fun _ _ _ => False, Ex.refl H, fun _ _ h => (by cases h), .cons (.lsk hS (isi_in ns)) .nil, h _ _ fun _ => rfl, fun r v F' M' H' _ hr e => ?_, fun _ _ _ _ _ _ _ _ _ _ _ h => h⟩
  subst e
  exact hr.bl_inv
end
end DL

set_option Elab.async false
set_option linter.all false
set_option maxRecDepth 100000
set_option maxHeartbeats 2000000
namespace L2
open PySem PySem.Spec PyProof.Rows
/-- {x}: a text, an int or None, as a text -/
def tFmtU (te : TE) : TE := fun σ H Q => te σ H fun x H1 => (∃ y : Str, x = .str y ∧ y.length ≤ sizeLine ∧ Q (.str y) H1) ∨ (∃ i : Int, x = .int i ∧ i.natAbs.log2 < 1920 ∧ Q (.str (toString i)) H1) ∨ (x = .non ∧ Q (.str "None") H1)
theorem pe_fmtU {X : Cx} {e : Expr} {te : TE} {pos : Pos} (he : PE X e te) : PE X (.FormattedValue e (-1) none pos) (tFmtU te) := by
  refine ⟨fun pins s σ H Q I h => ?_⟩
  refine wpAny_FormattedValue_plain (thn (he.run pins s σ H _ I h) fun v s1 hv => ?_)
  obtain ⟨x, H1, I1, r1, q⟩ := hv
  rcases q with ⟨y, rfl, hz, q⟩ | ⟨i, rfl, hz, q⟩ | ⟨rfl, q⟩
  · obtain ⟨t, rfl⟩ := r1
    exact wpAny_formatField_str ⟨.str y, H1, I1, ⟨t, rfl⟩, q⟩ ⟨.str y, H1, I1.tok _, ⟨_, rfl⟩, q⟩ hz
  · obtain ⟨t, rfl⟩ := r1
    exact wpAny_formatField_int hz ⟨.str (toString i), H1, I1.tok _, ⟨_, rfl⟩, q⟩
  · cases r1
    exact wpAny_formatField_none ⟨.str "None", H1, I1.tok _, ⟨_, rfl⟩, q⟩
end L2
namespace DL
open PySem PySem.Spec PyProof.Rows L2
/-! ### f-strings -/
def numI (m : Int) : Str := Str.ofString (toString m)
/-- {x}: a text or an int -/
def fFmt (x : D) (k : Str → Prop) : Prop := (∃ y : Str, x = .str y ∧ y.length ≤ sizeLine ∧ k y) ∨ (∃ i : Int, x = .int i ∧ i.natAbs.log2 < 1920 ∧ k (toString i)) ∨ (x = .non ∧ k "None")
def xFmt (t : DX) : DX := fun δ M Q E => t δ M (fun x M1 => fFmt x fun s => Q (.str s) M1) E
def jsD : List DX → Str → DS → MH → (Str → MH → Prop) → XP → Prop
  | [], acc, _, M, Q, _ => Q acc M
  | t :: ts, acc, δ, M, Q, E => t δ M (fun x M1 => ∃ y, x = .str y ∧ (acc ++ y).length ≤ sizeLine ∧ jsD ts (acc ++ y) δ M1 Q E) E
def dJs (ts : List DX) : DE := fun δ M Q E => jsD ts Str.empty δ M (fun s M' => Q (.d (.str s)) M') E
section
variable {X : Cx} {G : Gd} {W : WX} {e v1 v2 : Expr} {es : List Expr} {pos : Pos} {t : DX} {ts : List DX}
theorem v_fmt (he : PE X e (LO G W t)) : PE X (.FormattedValue e (-1) none pos) (LV G W (xFmt t)) :=
  pe_imp (pe_fmtU he) fun σ H Q ⟨F, δ, M, Qd, Ed, rep, q, k, x⟩ => ⟨F, δ, M, _, Ed, rep, q, fun d v F1 M1 H1 r1 e1 o1 q1 => by
    rcases q1 with ⟨y, hy, hl, q2⟩ | ⟨i, hi, hl, q2⟩ | ⟨hn, q2⟩
    · subst hy
      obtain rfl := opn_str o1
      exact .inl ⟨y, rfl, hl, k _ _ F1 M1 H1 r1 e1 (R.str _) q2⟩
    · subst hi
      obtain rfl := opn_int o1
      exact .inr (.inl ⟨i, rfl, hl, k _ _ F1 M1 H1 r1 e1 (R.str _) q2⟩)
    · subst hn
      obtain rfl := opn_non o1
      exact .inr (.inr ⟨rfl, k _ _ F1 M1 H1 r1 e1 (R.str _) q2⟩), x⟩
theorem js_l : ∀ (ts : List DX) (acc : Str) (σ : L2.St) (H : Hp) (Q : Str → Hp → Prop) (F : Hp) (δ : DS) (M : MH) (Qd : Str → MH → Prop) (Ed : XP), Rep G F δ M σ H → jsD ts acc δ M Qd Ed →
    (∀ s F' M' H', Rep G F' δ M' σ H' → Ex F F' → Qd s M' → Q s H') → XOk G W δ σ Ed → tJs (ts.map (LV G W)) acc σ H Q
  | [], acc, σ, H, Q, F, δ, M, Qd, Ed, rep, q, k, x => k acc F M H rep (Ex.refl F) q
  | t :: ts, acc, σ, H, Q, F, δ, M, Qd, Ed, rep, q, k, x => ⟨F, δ, M, _, Ed, rep, q, fun d v F1 M1 H1 r1 e1 s1 ⟨y, hy, hl, q1⟩ => by
      subst hy
      obtain rfl := s1.str_inv
      exact ⟨y, rfl, hl, js_l ts (acc ++ y) σ H1 Q F1 δ M1 Qd Ed r1 q1 (fun s F' M' H' r e z => k s F' M' H' r (e1.trans e) z) x⟩, x⟩
theorem d_js (h : PJ X (v1 :: v2 :: es) (ts.map (LV G W))) : PE X (.JoinedStr (v1 :: v2 :: es) pos) (LE G W (dJs ts)) :=
  pe_imp (pe_joined h) fun σ H Q ⟨F, δ, M, Qd, Ed, rep, q, k, x⟩ => js_l ts Str.empty σ H _ F δ M _ Ed rep q (fun s F' M' H' r e z => k (.d (.str s)) _ F' M' H' r e (R.str s) z) x
theorem d_js1 (h : PE X e (LV G W t)) : PE X (.JoinedStr [e] pos) (LE G W (dV t)) := d_v (pe_imp (pe_joined1 h) fun _ _ _ h => h)
end
/-! ### text.split(text) -/
def fSplit : FM := fun x ds M Q => ∃ a b, x = .str a ∧ ds = [.str b] ∧ (b.length == 0) = false ∧ a.length + 2 ≤ sizeLine ∧ Q (.own ((Txt.split a b).map D.str)) M
theorem rs_strs {K : PySem.W.Frag} {F : Hp} : ∀ (ns : List Str), Rs K F (ns.map V.str) (ns.map D.str)
  | [] => .nil
  | n :: ns => .cons (.str n) (rs_strs ns)
theorem ml_split {G : Gd} : MtL G (fun x xs H Q => ∃ a b, x = .str a ∧ xs = [.str b] ∧ (b.length == 0) = false ∧ a.length + 2 ≤ sizeLine ∧ rNewStrs (Txt.split a b) H Q) fSplit := by
  rintro F δ M σ H v vs x ds Q Qv rep ho ha ⟨a, b, rfl, rfl, hb, hl, q⟩ k
  obtain rfl := opn_str ho
  obtain ⟨u, rfl, hu⟩ := ha.one
  obtain rfl := opn_str hu
  exact ⟨a, b, rfl, rfl, hb, hl, fun p hp => k _ _ F M _ (rep.addH hp _) (Ex.refl F) (rep.addOwn hp (rs_strs _)) q⟩
section
variable {X : Cx} {G : Gd} {W : WX} {o e : Expr} {apos pos p : Pos} {to : DX} {ta : DA}
theorem d_split (hk : X.K = G.K) (ho : PE X o (LO G W to)) (ha : PA X [e] (LAO G W ta)) (hbase : attributeBase o "split" X.env (eval o X.env) = eval o X.env := by rfl)
    (hfew : ((backTo pos (starEach [e] X.env)).all (fun x => !x.1) && (backToKw pos (keywordEach [] X.env)).all (fun x => x.1.isSome)
      && decide ([e].length + ([] : List Keyword).length + (if ([] : List Keyword).isEmpty then 0 else 1) < 30)) = true := by rfl)
    (hline : (apos.endLine == pos.line) = true := by rfl) (hs : starEach [e] X.env = (false, eval e X.env) :: starEach [] X.env := by rfl) (hplain : (backTo pos (starEach [] X.env)).any (·.1) = false := by rfl) :
    PE X (.Call (.Attribute o "split" apos) [e] [] pos) (LE G W (dM "str" fSplit to ta)) :=
  d_m hk PySem.F.plainAttrs_str PySem.F.slot_str_split PySem.F.type_str_split mt_split ml_split ho ha hbase hfew hline hs hplain
/-! ### int(e): an int, a bool, a text -/
def fIntU : FC := fun ds M Q => fInt ds M Q ∨ ∃ s n, ds = [.str s] ∧ PySem.intText? s = some n ∧ s.length ≤ 640 ∧ Q (.d (.int n)) M
theorem cl_intU {G : Gd} : CallL G (fun xs H Q => ((∃ i, xs = [.int i] ∧ Q (.int i) H) ∨ ∃ k, xs = [.bl k] ∧ Q (.int (if k then 1 else 0)) H) ∨ (∃ a n, xs = [.str a] ∧ PySem.intText? a = some n ∧ a.length ≤ 640 ∧ Q (.int n) H)) fIntU := by
  intro F δ M σ H vs ds Q Qv rep ho h k
  rcases h with h | ⟨s, n, rfl, h1, h2, q⟩
  · exact .inl (cl_int1 F δ M σ H vs ds Q Qv rep ho h k)
  · obtain ⟨u, rfl, hu⟩ := ho.one
    obtain rfl := opn_str hu
    exact .inr ⟨s, n, rfl, h1, h2, k (.d (.int n)) _ F M H rep (Ex.refl F) (R.int n) q⟩
theorem d_intU {t : DA} (hg : Gl X "int") (hm : X.mg "int" = none) (ha : PA X [e] (LAO G W t)) (he : starEach [e] X.env = (false, eval e X.env) :: starEach [] X.env := by rfl) : PE X (.Call (.Name "int" p) [e] [] pos) (LE G W (dCB fIntU t)) :=
  d_callTy (call_int1.or call_int_str) cl_intU hg hm (by decide +kernel) ha (by decide) (by decide) he rfl
end
/-! ### reading -/
section
variable {δ : DS} {M : MH} {E : XP} {A : Sl → MH → Prop} {B : D → MH → Prop} {t : DX} {ts : List DX} {s z acc : Str} {i : Int} {k : Str → Prop} {Q : Str → MH → Prop} {c : Bool}
@[simp ↓] theorem e_xFmt : xFmt t δ M B E = t δ M (fun x M1 => fFmt x fun s => B (.str s) M1) E := rfl
@[simp ↓] theorem fFmt_s : fFmt (.str s) k = (s.length ≤ sizeLine ∧ k s) := propext ⟨fun h => (by
  rcases h with ⟨y, h1, h2⟩ | ⟨_, h1, _⟩ | ⟨h1, _⟩ <;> cases h1
  exact h2), fun h => .inl ⟨s, rfl, h⟩⟩
@[simp ↓] theorem fFmt_i : fFmt (.int i) k = (i.natAbs.log2 < 1920 ∧ k (numI i)) := propext ⟨fun h => (by
  rcases h with ⟨y, h1, h2⟩ | ⟨_, h1, h2⟩ | ⟨h1, _⟩ <;> cases h1
  exact h2), fun h => .inr (.inl ⟨i, rfl, h⟩)⟩
@[simp ↓] theorem fFmt_n : fFmt .non k = k "None" := propext ⟨fun h => (by
  rcases h with ⟨y, h1, h2⟩ | ⟨_, h1, h2⟩ | ⟨_, h2⟩
  · cases h1
  · cases h1
  · exact h2), fun h => .inr (.inr ⟨rfl, h⟩)⟩
def asS (x : D) (k : Str → Prop) : Prop := ∃ y, x = .str y ∧ k y
@[simp ↓] theorem asS_s : asS (.str s) k = k s := propext ⟨fun ⟨_, h, q⟩ => by cases h; exact q, fun q => ⟨s, rfl, q⟩⟩
@[simp ↓] theorem e_dJs : dJs ts δ M A E = jsD ts Str.empty δ M (fun s M' => A (.d (.str s)) M') E := rfl
@[simp ↓] theorem e_jsN : jsD [] acc δ M Q E = Q acc M := rfl
@[simp ↓] theorem e_jsC : jsD (t :: ts) acc δ M Q E = t δ M (fun x M1 => asS x fun y => (acc ++ y).length ≤ sizeLine ∧ jsD ts (acc ++ y) δ M1 Q E) E := rfl
@[simp ↓] theorem e_split : fSplit (.str s) [.str z] M A = ((z.length == 0) = false ∧ s.length + 2 ≤ sizeLine ∧ A (.own ((Txt.split s z).map D.str)) M) := propext ⟨fun ⟨_, _, h1, h2, q⟩ => by cases h1; cases h2; exact q, fun q => ⟨s, z, rfl, rfl, q⟩⟩
@[simp ↓] theorem e_intU_i : fIntU [.int i] M A = A (.d (.int i)) M := propext ⟨fun h => (by
  rcases h with h | ⟨_, _, h, _⟩
  · simpa using h
  · cases h), fun h => .inl (by simpa using h)⟩
@[simp ↓] theorem e_intU_b : fIntU [.bl c] M A = A (.d (.int (if c = true then 1 else 0))) M := propext ⟨fun h => (by
  rcases h with h | ⟨_, _, h, _⟩
  · simpa using h
  · cases h), fun h => .inl (by simpa using h)⟩
@[simp ↓] theorem e_ne_s {a b : Str} {k : Bool → Prop} : fNe (.str a) (.str b) M k = ((PyData.strOk a = true ∧ PyData.strOk b = true) ∧ k (!decide (a = b))) := by
  have e : D.eq (.str a) (.str b) = decide (a = b) := by
    simp only [D.eq, D.toP, PyData.eqv]
    by_cases h : a = b <;> simp [h]
  have o : ∀ s : Str, D.Ok (.str s) ↔ PyData.strOk s = true := fun s => ⟨fun h => by have := h.1; simpa [D.nr] using this, fun h => ⟨by simpa [D.nr] using h, by simp [D.dp]⟩⟩
  unfold fNe
  rw [e]
  exact propext ⟨fun ⟨h1, h2, q⟩ => ⟨⟨(o _).mp h1, (o _).mp h2⟩, q⟩, fun ⟨⟨h1, h2⟩, q⟩ => ⟨(o _).mpr h1, (o _).mpr h2, q⟩⟩
def inK (s : Str) (k : Int → Prop) : Prop := ∃ n, PySem.intText? s = some n ∧ s.length ≤ 640 ∧ k n
@[simp ↓] theorem e_intU_s : fIntU [.str s] M A = inK s fun n => A (.d (.int n)) M := propext ⟨fun h => (by
  rcases h with ⟨_, h, q⟩ | ⟨_, n, h, q⟩
  · cases h; exact q.elim
  · cases h; exact ⟨n, q⟩), fun ⟨n, q⟩ => .inr ⟨s, n, rfl, q⟩⟩
end
end DL

set_option Elab.async false
set_option linter.all false
set_option maxRecDepth 100000
set_option maxHeartbeats 2000000
namespace L2
open PySem PySem.Spec PyProof.Rows
/-! ### calls by keywords, what is raised wished for at the slots -/
def tCallNS (n m : Nat) (sp : Sp) (gV : List V → List V → List V) (E : St → XK) (t tk : TA) : TE := fun σ H Q => t σ H fun vs H1 => tk σ H1 fun zs H2 => vs.length = n ∧ zs.length = m ∧ sp (gV vs zs) H2 Q (E σ)
section
variable {X : Cx} {CX : CXT} {k n : Nat} {f : Addr} {fd : FuncData} {ps ks : List Str} {sp : Sp} {E : St → XK} {x : Str} {p pos : Pos} {e : Expr} {es : List Expr} {kws : List Keyword} {t tk : TA} {g : List Value → List Value → List Value} {gV : List V → List V → List V}
theorem run_fnNS {pins : List (Addr × Obj)} {σ : St} {H : Hp} {s : Shared} {Q : VK} {us ws : List Value} {vs zs : List V} (F : FnOk X.prog X.w X.K X.mg X.base CX k f fd ps sp) (hr : Room k X.A) (hb : KBn X.K fd ps n ks g gV) (hx : PassesAt CX X σ (E σ))
    (I : Inv X pins σ H s) (r : Vals vs us) (rz : Vals zs ws) (l1 : vs.length = n) (l2 : zs.length = ks.length) (h : sp (gV vs zs) H Q (E σ)) : wpAny (model X.prog X.w) X.A (call (.ref f) us (ks.zip ws)) (EP X pins σ Q) X.xe s := by
  have r2 := hb.rel r rz
  refine wpAny_call (codeAny_mono (F.run X.A X.stack s H ⟨us, ks.zip ws⟩ (g us ws) (gV vs zs) Q (E σ) hr I.env0 (hb.to s us ws I.kIn (r.length.symm.trans l1) (rz.length.symm.trans l2)) r2 h) fun r s' hq => ?_)
  cases r with
  | error e => exact hx pins H s e s' I hq
  | ok fl =>
    cases fl with
    | ret u => exact I.after hq
    | next => exact False.elim hq
    | brk => exact False.elim hq
    | cont => exact False.elim hq
theorem pe_callNS (F : FnOk X.prog X.w X.K X.mg X.base CX k f fd ps sp) (hr : Room k X.A) (hg : Gl X x) (hm : X.mg x = some (.ref f)) (hk : PySem.W.keepIn X.K (.ref f) = true) (hb : KBn X.K fd ps n ks g gV) (hx : ∀ σ, PassesAt CX X σ (E σ))
    (ha : PA X (e :: es) t) (hkw : PK X kws tk) (hall : (backToKw pos (keywordEach kws X.env)).all (·.1.isSome) = true := by rfl) (hks : (backToKw pos (keywordEach kws X.env)).filterMap (·.1) = ks := by rfl)
    (hdb : (x == ("__debug__" : Str)) = false := by decide) (he : starEach (e :: es) X.env = (false, eval e X.env) :: starEach es X.env := by rfl)
    (hpl : ((backTo pos (starEach (e :: es) X.env)).any (·.1) || (backToKw pos (keywordEach kws X.env)).any (·.1.isNone)) = false := by rfl) :
    PE X (.Call (.Name x p) (e :: es) kws pos) (tCallNS n ks.length sp gV E t tk) := by
  refine ⟨fun pins s σ H Q I h => ?_⟩
  refine wpAny_Call_Name_kw (ld_glob I hg hm ?_ hdb)
  refine PySem.W.callWith_KW (h₀ := X.base) I.ok.mod.kin hk hall (thn (ha.run pos pins s σ H _ I h) fun us s1 ⟨vs, H1, I1, r, q⟩ => ?_) hpl he
  refine thn (hkw.run pos pins s1 σ H1 _ I1 q) fun ws s2 ⟨zs, H2, I2, rz, l1, l2, q2⟩ => ⟨I2.kIn, ?_⟩
  rw [hks]
  exact run_fnNS F hr hb (hx σ) I2 r rz l1 l2 q2
end
end L2
namespace DL
open PySem PySem.Spec PyProof.Rows L2
/-! ### a def called by n values and keywords ks, the rest by its keyword-only defaults -/
structure CalK (P : Program) (w : World) (K : PySem.W.Frag) (mg : Str → Option Value) (base : Heap) (k : Nat) (x : Str) (n : Nat) (ks : List Str) (sp : SpD) : Prop where
  ex : ∃ (f : Addr) (fd : FuncData) (ps : List Str) (spf : SpD) (g : List Value → List Value → List Value) (gV : List V → List V → List V), FnOk P w K mg base (L2.CX P w) k f fd ps (LSp K spf) ∧ mg x = some (.ref f) ∧ PySem.W.keepIn K (.ref f) = true ∧ KBn K fd ps n ks g gV ∧
    ∀ (ds zs : List D) (M : MH) Q E, ds.length = n → zs.length = ks.length → sp (ds ++ zs) M Q E → ∃ es, spf es M Q E ∧ ∀ (F : Hp) vs ws, Rs K F vs ds → Rs K F ws zs → Rs K F (gV vs ws) es
def dCallK (n m : Nat) (sp : SpD) (t tk : DA) : DE := fun δ M Q E => t δ M (fun ds M1 => tk δ M1 (fun zs M2 => ds.length = n ∧ zs.length = m ∧ sp (ds ++ zs) M2 Q (fun C fs M3 => E C fs δ M3)) E) E
theorem Rs.mono' {K : PySem.W.Frag} {F F' : Hp} (e : Ex F F') {vs : List V} {ds : List D} (h : Rs K F vs ds) : Rs K F' vs ds := Rs.mono e h
section
variable {X : Cx} {G : Gd} {W : WX} {e : Expr} {es : List Expr} {pos p kpos : Pos} {t tk : DA} {kws : List Keyword} {nm : Option Str} {td : DX}
theorem pk_imp {t t' : TA} (h : PK X kws t) (k : ∀ σ H Q, t' σ H Q → t σ H Q) : PK X kws t' := ⟨fun pos pins s σ H Q I z => h.run pos pins s σ H Q I (k σ H Q z)⟩
theorem k_nil : PK X [] (LA G W aNil) := pk_imp pk_nil fun σ H Q ⟨F, δ, M, Qd, Ed, rep, q, k, x⟩ => k [] [] F M H rep (Ex.refl F) .nil q
theorem k_cons (ha : PE X e (LV G W td)) (hr : PK X kws (LA G W tk)) : PK X (⟨nm, e, kpos⟩ :: kws) (LA G W (aCons td tk)) :=
  pk_imp (pk_cons ha hr) fun σ H Q ⟨F, δ, M, Qd, Ed, rep, q, k, x⟩ => ⟨F, δ, M, _, Ed, rep, q, fun d v F1 M1 H1 rep1 e1 s1 q1 =>
    ⟨F1, δ, M1, _, Ed, rep1, q1, fun ds vs F2 M2 H2 rep2 e2 s2 q2 => k _ _ F2 M2 H2 rep2 (e1.trans e2) (.cons (s1.mono e2) s2) q2, x⟩, x⟩
theorem d_calK {k n : Nat} {ks : List Str} {sp : SpD} {x : Str} (Y : CalK X.prog X.w X.K X.mg X.base k x n ks sp) (hK : X.K = G.K) (hr : Room k X.A) (hg : Gl X x) (tx : Takes X W) (ha : PA X (e :: es) (LA G W t)) (hkw : PK X kws (LA G W tk))
    (hall : (backToKw pos (keywordEach kws X.env)).all (·.1.isSome) = true := by rfl) (hks : (backToKw pos (keywordEach kws X.env)).filterMap (·.1) = ks := by rfl)
    (hdb : (x == ("__debug__" : Str)) = false := by decide) (he : starEach (e :: es) X.env = (false, eval e X.env) :: starEach es X.env := by rfl)
    (hpl : ((backTo pos (starEach (e :: es) X.env)).any (·.1) || (backToKw pos (keywordEach kws X.env)).any (·.1.isNone)) = false := by rfl) :
    PE X (.Call (.Name x p) (e :: es) kws pos) (LE G W (dCallK n ks.length sp t tk)) := by
  obtain ⟨f, fd, ps, spf, g, gV, FO, hm, hk, hb, hp⟩ := Y.ex
  refine pe_imp (pe_callNS FO hr hg hm hk hb (fun σ => passAt tx σ) ha hkw hall hks hdb he hpl) fun σ H Q ⟨F, δ, M, Qd, Ed, rep, q, kk, x⟩ => ⟨F, δ, M, _, Ed, rep, q, fun ds vs F1 M1 H1 rep1 e1 s1 q1 =>
    ⟨F1, δ, M1, _, Ed, rep1, q1, fun zs ws F2 M2 H2 rep2 e2 s2 ⟨l1, l2, q2⟩ => ?_, x⟩, x⟩
  obtain ⟨es', q3, hr'⟩ := hp ds zs M2 _ _ l1 l2 q2
  refine ⟨by rw [s1.length]; exact l1, by rw [s2.length]; exact l2, ?_⟩
  rw [hK] at hr' ⊢
  exact ⟨F2, M2, es', Qd, _, rep2.fr.ex, rep2.fr.mem, hr' F2 vs ws (s1.mono e2) s2, q3,
    fun r v F' M' H' f ret q' => kk r v F' M' H' (rep2.call f) (e1.trans (e2.trans f.ex0)) (ret.sv rep2) q',
    fun C fs F' M' H' dx fv f hd hf h0 q' => x C fs F' M' H' dx fv (rep2.call f) hd hf (rep2.fr.h0 h0) q'⟩
end
section
variable {δ : DS} {M : MH} {X : XP} {A : Sl → MH → Prop} {t tk : DA} {n m : Nat} {sp : SpD}
@[simp ↓] theorem e_dCallK : dCallK n m sp t tk δ M A X = t δ M (fun ds M1 => tk δ M1 (fun zs M2 => ds.length = n ∧ zs.length = m ∧ sp (ds ++ zs) M2 A (fun C fs M3 => X C fs δ M3)) X) X := rfl
end
/-! ### how a def's arguments bind by keywords: the positional ones, then keywords and defaults by place -/
inductive Sr (α : Type) where
  | kw (j : Nat) | df (a : α)
def put {α : Type} (src : List (Sr α)) (ws : List α) : List α := src.filterMap fun s => match s with
  | .kw j => ws[j]?
  | .df a => some a
inductive Srs {α β : Type} (r : α → β → Prop) : List (Sr α) → List (Sr β) → Prop
  | nil : Srs r [] []
  | kw {j : Nat} {a : List (Sr α)} {b : List (Sr β)} : Srs r a b → Srs r (.kw j :: a) (.kw j :: b)
  | df {x : α} {y : β} {a : List (Sr α)} {b : List (Sr β)} : r x y → Srs r a b → Srs r (.df x :: a) (.df y :: b)
theorem vals_get : ∀ {vs : List V} {us : List Value} (j : Nat), Vals vs us → (vs[j]? = none ∧ us[j]? = none) ∨ ∃ v u, vs[j]? = some v ∧ us[j]? = some u ∧ RelV v u
  | _, _, _, .nil => .inl ⟨rfl, rfl⟩
  | _, _, 0, .cons h _ => .inr ⟨_, _, rfl, rfl, h⟩
  | _, _, j + 1, .cons _ r => by simpa using vals_get j r
theorem vals_put {zs : List V} {ws : List Value} (h : Vals zs ws) : ∀ {a : List (Sr V)} {b : List (Sr Value)}, Srs RelV a b → Vals (put a zs) (put b ws)
  | _, _, .nil => .nil
  | _, _, .kw (j := j) r => by
    rcases vals_get j h with ⟨h1, h2⟩ | ⟨v, u, h1, h2, h3⟩
    · have := vals_put h r
      simpa [put, h1, h2] using this
    · have := vals_put h r
      simpa [put, h1, h2] using (Paired.cons h3 this : Vals _ _)
  | _, _, .df q r => by
    have := vals_put h r
    simpa [put] using (Paired.cons q this : Vals _ _)
theorem rs_getD {K : PySem.W.Frag} {F : Hp} : ∀ {vs : List V} {ds : List D} (j : Nat), Rs K F vs ds → (vs[j]? = none ∧ ds[j]? = none) ∨ ∃ v d, vs[j]? = some v ∧ ds[j]? = some d ∧ R K F v d
  | _, _, _, .nil => .inl ⟨rfl, rfl⟩
  | _, _, 0, .cons h _ => .inr ⟨_, _, rfl, rfl, h⟩
  | _, _, j + 1, .cons _ r => by simpa using rs_getD j r
theorem rs_put {K : PySem.W.Frag} {F : Hp} {zs : List V} {ws : List D} (h : Rs K F zs ws) : ∀ {a : List (Sr V)} {b : List (Sr D)}, Srs (R K F) a b → Rs K F (put a zs) (put b ws)
  | _, _, .nil => .nil
  | _, _, .kw (j := j) r => by
    rcases rs_getD j h with ⟨h1, h2⟩ | ⟨v, u, h1, h2, h3⟩
    · have := rs_put h r
      simpa [put, h1, h2] using this
    · have := rs_put h r
      simpa [put, h1, h2] using Rs.cons h3 this
  | _, _, .df q r => by
    have := rs_put h r
    simpa [put] using Rs.cons q this
theorem vals_app {a b : List V} {c d : List Value} (h : Vals a c) (h2 : Vals b d) : Vals (a ++ b) (c ++ d) := h.append h2
section
variable {K : PySem.W.Frag} {fd : FuncData} {ps ks : List Str} {n : Nat}
theorem kbn_mk {D : Addr} {l : List (Str × Value)} {src : List (Sr Value)} {srcV : List (Sr V)} (hr : Srs RelV srcV src) (hl : ∀ q ∈ l, PySem.W.nsIn K D q.1 = some (some q.2))
    (h : ∀ us ws : List Value, us.length = n → ws.length = ks.length → KwChain D l (bindArgs fd ⟨us, ks.zip ws⟩) (ps.zip (us ++ put src ws))) : KBn K fd ps n ks (fun us ws => us ++ put src ws) (fun vs zs => vs ++ put srcV zs) :=
  ⟨fun s us ws X l1 l2 => BindsTo.of_looks fun M => KwChain.looks X hl (h us ws l1 l2), fun r1 r2 => vals_app r1 (vals_put r2 hr)⟩
theorem calK_mk {P : Program} {w : World} {mg : Str → Option Value} {base : Heap} {k : Nat} {x : Str} {f : Addr} {sp spf : SpD} {src : List (Sr Value)} {srcV : List (Sr V)} {srcD : List (Sr D)}
    (Y : FnOk P w K mg base (L2.CX P w) k f fd ps (LSp K spf)) (hm : mg x = some (.ref f)) (hk : PySem.W.keepIn K (.ref f) = true) (kb : KBn K fd ps n ks (fun us ws => us ++ put src ws) (fun vs zs => vs ++ put srcV zs))
    (hR : ∀ F : Hp, Srs (R K F) srcV srcD) (hsp : ∀ (ds zs : List D) (M : MH) Q E, ds.length = n → zs.length = ks.length → sp (ds ++ zs) M Q E → spf (ds ++ put srcD zs) M Q E) : CalK P w K mg base k x n ks sp :=
  ⟨f, fd, ps, spf, _, _, Y, hm, hk, kb, fun ds zs M Q E l1 l2 h => ⟨_, hsp ds zs M Q E l1 l2 h, fun F vs ws r1 r2 => r1.append (rs_put r2 (hR F))⟩⟩
end
end DL

set_option Elab.async false
set_option linter.all false
set_option maxRecDepth 100000
set_option maxHeartbeats 2000000
namespace HT
open PySem PySem.Spec PyProof.Rows
section
variable {prog : Program} {w : World} {A : Around} {E : Value → Shared → Prop} {s : Shared}
theorem fm_congr {α β : Type} {f g : α → Option β} : ∀ {l : List α}, (∀ x ∈ l, f x = g x) → l.filterMap f = l.filterMap g
  | [], _ => rfl
  | x :: l, h => by
    rw [List.filterMap_cons, List.filterMap_cons, h x (List.mem_cons_self ..), fm_congr fun y hy => h y (List.mem_cons_of_mem _ hy)]
theorem adjust_rev (n : Nat) : Builtin.Slice.sliceAdjust none none (-1) (n : Int) = ((n : Int) - 1, -1) := by
  unfold Builtin.Slice.sliceAdjust
  have h1 : ((-1 : Int) < 0) := by omega
  simp only [h1, if_true]
theorem places_rev (n : Nat) : Builtin.Slice.slicePlaces ((n : Int) - 1) (-1) (-1) = n := by
  unfold Builtin.Slice.slicePlaces
  have h1 : ¬ ((-1 : Int) > 0) := by omega
  simp only [h1, if_false]
  split <;> simp <;> omega
theorem pick_rev (xs : Array Value) : ((List.range xs.size).filterMap fun (m : Nat) => xs[((xs.size : Int) - 1 + (m : Int) * -1).toNat]?).toArray = xs.toList.reverse.toArray := by
  have e : ((List.range xs.size).filterMap fun (m : Nat) => xs[((xs.size : Int) - 1 + (m : Int) * -1).toNat]?) = ((List.range xs.size).map fun k => xs.size - 1 - k).filterMap (xs[·]?) := by
    rw [List.filterMap_map]
    apply fm_congr
    intro m hm
    have := List.mem_range.mp hm
    show _ = xs[xs.size - 1 - m]?
    congr 1
    omega
  rw [e, PySem.W.krv_range, List.filterMap_reverse, PySem.W.krv_all]
theorem sliceApplied_rev {sl : Addr} {vs : Value} {n : Nat} {Q : Int × Int × Nat → Shared → Prop} (hs : s.heap.IsSliceOf sl .none .none vs) (ps : IsPart vs (some (-1)))
    (h : Q ((n : Int) - 1, -1, n) s) : wpAny (model prog w) A (Builtin.Slice.sliceApplied (.ref sl) (pure (n : Int))) Q E s := by
  obtain ⟨os, hos, hcs, hds⟩ := id hs
  unfold Builtin.Slice.sliceApplied Builtin.Slice.sliceFields
  refine wpAny_bind (wpAny_bind (wpAny_field hos hds (x := .none) rfl (wpAny_bind (wpAny_field hos hds (x := .none) rfl (wpAny_bind (wpAny_field hos hds (x := vs) rfl (wpAny_pure ?_)))))))
  refine wpAny_bind (slicePart_ ps ?_)
  show wpAny _ _ (if ((-1 : Int) == 0) = true then _ else _) _ _ s
  rw [if_neg (by decide)]
  refine wpAny_bind (slicePart_none (wpAny_bind (slicePart_none (wpAny_bind (wpAny_pure ?_)))))
  show wpAny _ _ (match Builtin.Slice.sliceAdjust none none (-1) (n : Int) with | (lo, hi) => pure (lo, (-1 : Int), Builtin.Slice.slicePlaces lo hi (-1))) _ _ s
  rw [adjust_rev n]
  show wpAny _ _ (pure ((n : Int) - 1, (-1 : Int), Builtin.Slice.slicePlaces ((n : Int) - 1) (-1) (-1))) _ _ s
  rw [places_rev]
  exact wpAny_pure h
theorem getItem_tuple_rev {t sl : Addr} {items : Array Value} {vs : Value} {Q : Value → Shared → Prop} (ht : IsTup s.heap t items) (hs : s.heap.IsSliceOf sl .none .none vs) (ps : IsPart vs (some (-1)))
    (h : Q (.ref s.heap.objs.size) { s with heap := s.heap.push { cls := .type "tuple", data := .seq items.toList.reverse.toArray } })
    (hsz : items.size ≤ sizeLine) : wpAny (model prog w) A (getItem (.ref t) (.ref sl)) Q E s := by
  have htake : sizeOk (.seq items.toList.reverse.toArray) := by
    show items.toList.reverse.toArray.size ≤ sizeLine
    rw [List.size_toArray, List.length_reverse, Array.length_toList]
    exact hsz
  obtain ⟨os, hos, hcs, hds⟩ := id hs
  have hTs : s.TypeIs (.ref sl) "slice" := ⟨os, hos, hcs⟩
  unfold getItem
  try with_reducible refine wpAny_holding ?_
  first | refine wpAny_bind (wpAny_pure ?_) | skip
  refine wpAny_bind (wpAny_sequenceKey ht.typeIs (by decide) ?_)
  refine wpAny_bind (wpAny_callSpecial?_slot (name := Str.ofString "__getitem__") ht.typeIs PyProof.Rows.slot_tuple_getitem
    (wpAny_call_entry PyProof.Rows.slot_tuple_getitem ht.typeIs entry_tuple_getitem ?_ (args_tuple_getitem _ _)))
  show wpAny _ _ (Builtin.Tuple.tupleItemsOf (.ref t) >>= _) _ _ s
  refine wpAny_bind (tupleItemsOf_ ht ?_)
  refine wpAny_bind (wpAny_typeOf hTs ?_)
  rw [if_pos (by decide)]
  refine wpAny_bind (sliceApplied_rev hs ps ?_)
  have hno : ¬ (((items.size : Int) - 1 == 0 && (-1 : Int) == 1 && items.size == items.size) = true) := by simp
  show wpAny _ _ (if ((items.size : Int) - 1 == 0 && (-1 : Int) == 1 && items.size == items.size) = true then _ else _) _ _ s
  rw [if_neg hno, pick_rev]
  first
    | exact wpAny_bind (m := Builtin.Tuple.tupleExact _) (wpAny_newObj_type (wpAny_pure ⟨_, rfl, wpAny_pure h⟩) htake)
    | exact wpAny_bind (m := Builtin.Tuple.tupleExact _) (wpAny_newObj_type (wpAny_bind (wpAny_pure (wpAny_pure ⟨_, rfl, wpAny_pure h⟩))) htake)
    | exact wpAny_bind (wpAny_bind (m := Builtin.Tuple.tupleExact _) (wpAny_newObj_type (wpAny_pure (wpAny_pure ⟨_, rfl, wpAny_pure h⟩)) htake))
    | exact wpAny_bind (wpAny_bind (m := Builtin.Tuple.tupleExact _) (wpAny_newObj_type (wpAny_pure ⟨_, rfl, wpAny_pure h⟩) htake))
end
end HT
namespace L2
open PySem PySem.Spec PyProof.Rows
def tRevU (K : PySem.W.Frag) (te : TE) : TE := fun σ H Q => te σ H fun x H1 => ∃ a xs, x = .ref a ∧ ((SqT K H1 a xs ∧ ∀ p, H1 p = none → Q (.ref p) (upd H1 p (.tup xs.reverse))) ∨ (SqL K H1 a xs ∧ ∀ p, H1 p = none → Q (.ref p) (upd H1 p (.lst xs.reverse))))
theorem pe_revU {X : Cx} {e : Expr} {te : TE} {k : Nat} {p1 p2 p3 pos : Pos} (he : PE X e te) : PE X (.Subscript e (.Slice none none (some (.UnaryOp .USub (.Constant (.int 1) k p1) p2)) p3) pos) (tRevU X.K te) := by
  refine ⟨fun pins s σ H Q I h => ?_⟩
  refine Subscript_ (thn (he.run pins s σ H _ I h) fun v s1 ⟨x, H1, I1, r1, q1⟩ => ?_)
  obtain ⟨a, xs, ex, q⟩ := q1
  subst ex
  cases r1
  have hst : PO X (some (.UnaryOp .USub (.Constant (.int 1) k p1) p2)) (tPart (tUn (rU fun i => .int (-i)) (tC (.int 1)))) := po_some (pe_un un_neg pe_int)
  refine wpAny_Slice (thn (po_none.run pins s1 σ H1 (fun o H2 => o = none ∧ H2 = H1) I1 ⟨rfl, rfl⟩) fun vl s2 ⟨l, H2, I2, pl, el, e2⟩ => ?_)
  subst el e2
  refine thn (po_none.run pins s2 σ H2 (fun o H3 => o = none ∧ H3 = H2) I2 ⟨rfl, rfl⟩) fun vu s3 ⟨u, H3, I3, pu, eu, e3⟩ => ?_
  subst eu e3
  refine thn (hst.run pins s3 σ H3 (fun o H4 => o = some (-1) ∧ H4 = H3) I3 ⟨1, rfl, -1, rfl, rfl, rfl⟩) fun vs s4 ⟨o, H4, I4, ps, eo, e4⟩ => ?_
  subst eo e4
  have I5 : Inv X pins σ H4 { s4 with heap := s4.heap.push { cls := .type "slice", data := .fields #[vl, vu, vs] } } := I4.kept (t' := s4.toks) fun b ob q => Heap.get?_push_of_some _ q
  rcases q with ⟨hx, q⟩ | ⟨hx, q⟩
  · obtain ⟨its, r, ht, hz⟩ := I5.tuple hx
    have hlen := r.length
    cases pl
    cases pu
    show wpAny (model X.prog X.w) X.A (subscriptTail e (.Slice none none (some (.UnaryOp .USub (.Constant (.int 1) k p1) p2)) p3) (.ref a) (.ref s4.heap.objs.size)) (EP X pins σ Q) X.xe { s4 with heap := s4.heap.push { cls := .type "slice", data := .fields #[.none, .none, vs] } }
    refine tail_any (ops := [.ref a, .ref s4.heap.objs.size]) ht.typeIs (PyProof.Rows.slot_tuple_getitem.lookup) ?_ (by with_unfolding_all rfl)
    refine HT.getItem_tuple_rev ht (Heap.IsSliceOf.new _ .none .none vs) ps ?_ (by rw [List.size_toArray]; omega)
    refine ⟨.ref _, _, I5.laid (t' := s4.toks) (o := .tup xs.reverse) (fun b ob q => Heap.get?_push_of_some _ q) (Nat.le_refl _) ?_, rfl, q _ (I5.hok.fresh (Nat.le_refl _))⟩
    refine ⟨by rw [List.length_reverse]; omega, _, r.reverse, ?_⟩
    exact IsTup.new _ _
  · obtain ⟨its, r, ht, hz⟩ := I5.list hx
    have hlen := r.length
    show wpAny (model X.prog X.w) X.A (subscriptTail e (.Slice none none (some (.UnaryOp .USub (.Constant (.int 1) k p1) p2)) p3) (.ref a) (.ref s4.heap.objs.size)) (EP X pins σ Q) X.xe { s4 with heap := s4.heap.push { cls := .type "slice", data := .fields #[vl, vu, vs] } }
    refine tail_any (ops := [.ref a, .ref s4.heap.objs.size]) ht.isList.typeIs (PySem.slot_list_getitem.lookup) ?_ (by with_unfolding_all rfl)
    refine wpAny_getItem_list_slice ht.isList (Heap.IsSliceOf.new _ vl vu vs) pl pu ps (by decide) ?_ (by rw [List.size_toArray]; omega)
    rw [PySem.W.krv_pick]
    refine ⟨.ref _, _, I5.laid (t' := s4.toks) (o := .lst xs.reverse) (fun b ob q => Heap.get?_push_of_some _ q) (Nat.le_refl _) ?_, rfl, q _ (I5.hok.fresh (Nat.le_refl _))⟩
    exact ⟨by rw [List.length_reverse]; exact hz, _, 0, r.reverse, Heap.get?_push_size _ rfl⟩
end L2
namespace DL
open PySem PySem.Spec PyProof.Rows L2
/-! ### xs[::-1] -/
def fRev (x : D) (M : MH) (Q : Sl → MH → Prop) : Prop := (∃ xs, x = .tup xs ∧ Q (.d (.tup xs.reverse)) M) ∨ ∃ xs, seqOf M x = some xs ∧ Q (.own xs.reverse) M
def dRev (t : DX) : DE := fun δ M Q E => t δ M (fun x M1 => fRev x M1 Q) E
section
variable {X : Cx} {G : Gd} {W : WX} {e : Expr} {k : Nat} {p1 p2 p3 pos : Pos} {t : DX}
theorem d_rev (hk : X.K = G.K) (he : PE X e (LO G W t)) : PE X (.Subscript e (.Slice none none (some (.UnaryOp .USub (.Constant (.int 1) k p1) p2)) p3) pos) (LE G W (dRev t)) :=
  pe_imp (pe_revU he) fun σ H Q ⟨F, δ, M, Qd, Ed, rep, q, k, x⟩ => ⟨F, δ, M, _, Ed, rep, q, fun d v F1 M1 H1 r1 e1 o1 q1 => by
    rw [hk]
    rcases q1 with ⟨xs, hx, q1⟩ | ⟨xs, hx, q1⟩
    · subst hx
      obtain ⟨a, vs, rfl, h1, h2⟩ := o1.tup r1
      refine ⟨a, vs, rfl, .inl ⟨h1, fun p hp => ?_⟩⟩
      have e := Ex.new (o := HO.tup vs.reverse) (r1.fr.f_none hp)
      exact k (.d (.tup _)) _ _ M1 _ (r1.addF hp (.tup vs.reverse)) (e1.trans e) (R.tup (.inl (.inl upd_same)) (h2.reverse.mono e)) q1
    · obtain ⟨a, vs, rfl, h1, h2⟩ := seqOf_at r1 o1 hx
      exact ⟨a, vs, rfl, .inr ⟨h1, fun p hp => k _ _ F1 M1 _ (r1.addH hp (.lst vs.reverse)) e1 (r1.addOwn hp h2.reverse) q1⟩⟩, x⟩
end
section
variable {δ : DS} {M : MH} {X : XP} {A : Sl → MH → Prop} {t : DX} {r : List D}
@[simp ↓] theorem e_dRev : dRev t δ M A X = t δ M (fun x M1 => fRev x M1 A) X := rfl
@[simp ↓] theorem fRev_t : fRev (.tup r) M A = A (.d (.tup r.reverse)) M := propext ⟨fun h => (by
  rcases h with ⟨_, h, q⟩ | ⟨_, h, q⟩ <;> cases h
  exact q), fun q => .inl ⟨r, rfl, q⟩⟩
@[simp ↓] theorem fRev_l : fRev (.lst r) M A = A (.own r.reverse) M := propext ⟨fun h => (by
  rcases h with ⟨_, h, q⟩ | ⟨_, h, q⟩ <;> cases h
  exact q), fun q => .inr ⟨r, rfl, q⟩⟩
end
end DL

set_option Elab.async false
set_option linter.all false
set_option maxRecDepth 100000
set_option maxHeartbeats 2000000
namespace DL
open PySem PySem.Spec PyProof.Rows L2
/-! ### methods that take values, of a shared list -/
def MtV (G : Gd) (r : V → List V → Hp → VK → Prop) (f : FM) : Prop := ∀ F δ M σ H v vs x ds Q Qv, Rep G F δ M σ H → Opn G F δ σ v x → Rs G.K F vs ds → f x ds M Q →
  (∀ z w F' M' H', Rep G F' δ M' σ H' → Ex F F' → SvR G F' δ M' σ H' w z → Q z M' → Qv w H') → r v vs H Qv
theorem m_lV {G : Gd} {W : WX} {T : String} {r : V → List V → Hp → VK → Prop} {f : FM} {to : DX} {ta : DA} (hl : MtV G r f) {σ : L2.St} {H : Hp} {Q : VK} (h : LE G W (dM T f to ta) σ H Q) : tBM G.K T r (LO G W to) (LA G W ta) σ H Q := by
  obtain ⟨F, δ, M, Qd, Ed, rep, q, k, x⟩ := h
  exact ⟨F, δ, M, _, Ed, rep, q, fun d v F1 M1 H1 r1 e1 o1 ⟨t1, q1⟩ => ⟨tyD_v r1 o1 t1, F1, δ, M1, _, Ed, r1, q1, fun ds vs F2 M2 H2 r2 e2 o2 q2 =>
    hl F2 δ M2 σ H2 v vs d ds Qd Q r2 (o1.mono e2) o2 q2 fun z w F3 M3 H3 r3 e3 s3 q3 => k z w F3 M3 H3 r3 (e1.trans (e2.trans e3)) s3 q3, x⟩, x⟩
theorem Opn.ref {G : Gd} {F : Hp} {δ : DS} {σ : L2.St} {v : V} {a : Addr} (h : Opn G F δ σ v (.ref a)) : v = .ref a := (h.val (fun _ z => by cases z)).ref_inv
theorem Rep.shared {G : Gd} {F : Hp} {δ : DS} {M : MH} {σ : L2.St} {H : Hp} {a : Addr} {xs : List D} (r : Rep G F δ M σ H) (h : M a = some (.lst xs)) : ∃ vs, H a = some (.lst vs) ∧ Rs G.K F vs xs := (r.fr.mem a _ h).2
theorem Rep.chgL {G : Gd} {F : Hp} {δ : DS} {M : MH} {σ : L2.St} {H : Hp} {a : Addr} {xs ys : List D} {vs : List V} (r : Rep G F δ M σ H) (h : M a = some (.lst xs)) (rs : Rs G.K F vs ys) : Rep G F δ (mu M a (.lst ys)) σ (upd H a (.lst vs)) := by
  obtain ⟨us, hu, _⟩ := r.shared h
  exact r.chgM h (fun fv z => by rw [hu] at z; cases z) ⟨vs, upd_same, rs⟩
def fApp : FM := fun x ds M Q => ∃ a xs d, x = .ref a ∧ ds = [d] ∧ M a = some (.lst xs) ∧ xs.length < sizeLine ∧ Q (.d .non) (mu M a (.lst (xs ++ [d])))
def fIns : FM := fun x ds M Q => ∃ a xs i d, x = .ref a ∧ ds = [.int i, d] ∧ M a = some (.lst xs) ∧ xs.length < sizeLine ∧ 0 ≤ i ∧ i < 2 ^ 63 ∧ Q (.d .non) (mu M a (.lst (xs.take i.toNat ++ [d] ++ xs.drop i.toNat)))
def fPopAt : FM := fun x ds M Q => ∃ a xs i k d, x = .ref a ∧ ds = [.int i] ∧ M a = some (.lst xs) ∧ -(2 ^ 63) ≤ i ∧ i < 2 ^ 63 ∧ seqIndex? i xs.length = some k ∧ xs[k]? = some d ∧ Q (.d d) (mu M a (.lst (xs.eraseIdx k)))
def fPop : FM := fun x ds M Q => ∃ a xs d, x = .ref a ∧ ds = [] ∧ M a = some (.lst xs) ∧ xs[xs.length - 1]? = some d ∧ Q (.d d) (mu M a (.lst xs.dropLast))
section
variable {G : Gd}
theorem mv_app : MtV G rAppend fApp := by
  rintro F δ M σ H v vs x ds Q Qv rep ho hs ⟨a, xs, d, rfl, rfl, hm, hl, q⟩ k
  obtain rfl := ho.ref
  obtain ⟨us, hu, hr⟩ := rep.shared hm
  cases hs with
  | cons h1 h2 =>
    cases h2
    exact ⟨a, us, _, rfl, rfl, hu, by rw [hr.length]; exact hl, k (.d .non) _ F _ _ (rep.chgL hm (hr.append (.cons h1 .nil))) (Ex.refl F) R.non q⟩
theorem mv_ins : MtV G (fun x vs H Q => ∃ (l : Addr) (xs : List V) (i : Int) (y : V), x = .ref l ∧ vs = [.int i, y] ∧ H l = some (.lst xs) ∧ xs.length < sizeLine ∧ 0 ≤ i ∧ i < 2 ^ 63 ∧ Q .non (upd H l (.lst (xs.take i.toNat ++ [y] ++ xs.drop i.toNat)))) fIns := by
  rintro F δ M σ H v vs x ds Q Qv rep ho hs ⟨a, xs, i, d, rfl, rfl, hm, hl, h0, h1, q⟩ k
  obtain rfl := ho.ref
  obtain ⟨us, hu, hr⟩ := rep.shared hm
  cases hs with
  | cons g1 g2 =>
    obtain rfl := g1.int_inv
    cases g2 with
    | cons g3 g4 =>
      cases g4
      exact ⟨a, us, i, _, rfl, rfl, hu, by rw [hr.length]; exact hl, h0, h1, k (.d .non) _ F _ _ (rep.chgL hm (((hr.take _).append (.cons g3 .nil)).append (hr.drop _))) (Ex.refl F) R.non q⟩
theorem mv_popAt : MtV G rPopAt fPopAt := by
  rintro F δ M σ H v vs x ds Q Qv rep ho hs ⟨a, xs, i, n, d, rfl, rfl, hm, h0, h1, hn, hd, q⟩ k
  obtain rfl := ho.ref
  obtain ⟨us, hu, hr⟩ := rep.shared hm
  cases hs with
  | cons g1 g2 =>
    obtain rfl := g1.int_inv
    cases g2
    obtain ⟨w, hw, hv⟩ := hr.get hd
    exact ⟨a, us, i, n, w, rfl, rfl, hu, h0, h1, by rw [hr.length]; exact hn, hw, k (.d d) _ F _ _ (rep.chgL hm (hr.eraseIdx n)) (Ex.refl F) hv q⟩
theorem Rs.dropLast {K : PySem.W.Frag} {F : Hp} {vs : List V} {ds : List D} (r : Rs K F vs ds) : Rs K F vs.dropLast ds.dropLast := by
  rw [List.dropLast_eq_take, List.dropLast_eq_take, r.length]
  exact r.take _
theorem mv_pop : MtV G rPop fPop := by
  rintro F δ M σ H v vs x ds Q Qv rep ho hs ⟨a, xs, d, rfl, rfl, hm, hd, q⟩ k
  obtain rfl := ho.ref
  obtain ⟨us, hu, hr⟩ := rep.shared hm
  cases hs
  obtain ⟨w, hw, hv⟩ := hr.get hd
  exact ⟨a, us, w, rfl, rfl, hu, by rw [hr.length]; exact hw, k (.d d) _ F _ _ (rep.chgL hm hr.dropLast) (Ex.refl F) hv q⟩
end
section
variable {X : Cx} {G : Gd} {W : WX} {o e : Expr} {es : List Expr} {name : Str} {apos cpos : Pos} {T id : String} {r : V → List V → Hp → VK → Prop} {f : FM} {to : DX} {ta : DA}
theorem d_mV (hk : X.K = G.K) (pa : PlainAttrs T) (slot : Slot T name id) (hty : typeOf (.builtin id) = pure (.type "method_descriptor")) (hm : MtR X id r) (hl : MtV G r f) (ho : PE X o (LO G W to)) (ha : PA X (e :: es) (LA G W ta))
    (hbase : attributeBase o name X.env (eval o X.env) = eval o X.env)
    (hfew : ((backTo cpos (starEach (e :: es) X.env)).all (fun x => !x.1) && (backToKw cpos (keywordEach [] X.env)).all (fun x => x.1.isSome)
      && decide ((e :: es).length + ([] : List Keyword).length + (if ([] : List Keyword).isEmpty then 0 else 1) < 30)) = true)
    (hline : (apos.endLine == cpos.line) = true) (hs : starEach (e :: es) X.env = (false, eval e X.env) :: starEach es X.env) (hplain : (backTo cpos (starEach es X.env)).any (·.1) = false) :
    PE X (.Call (.Attribute o name apos) (e :: es) [] cpos) (LE G W (dM T f to ta)) :=
  pe_imp (pe_bm pa slot hty hm ho ha hbase hfew hline hs hplain) fun _ _ _ h => by rw [hk]; exact m_lV hl h
theorem d_append (hk : X.K = G.K) (ho : PE X o (LO G W to)) (ha : PA X [e] (LA G W ta)) (hbase : attributeBase o "append" X.env (eval o X.env) = eval o X.env := by rfl)
    (hfew : ((backTo cpos (starEach [e] X.env)).all (fun x => !x.1) && (backToKw cpos (keywordEach [] X.env)).all (fun x => x.1.isSome)
      && decide ([e].length + ([] : List Keyword).length + (if ([] : List Keyword).isEmpty then 0 else 1) < 30)) = true := by rfl)
    (hline : (apos.endLine == cpos.line) = true := by rfl) (hs : starEach [e] X.env = (false, eval e X.env) :: starEach [] X.env := by rfl) (hplain : (backTo cpos (starEach [] X.env)).any (·.1) = false := by rfl) :
    PE X (.Call (.Attribute o "append" apos) [e] [] cpos) (LE G W (dM "list" fApp to ta)) :=
  d_mV hk PySem.F.plainAttrs_list PySem.F.slot_list_append PySem.F.type_list_append mt_append mv_app ho ha hbase hfew hline hs hplain
theorem d_popAt (hk : X.K = G.K) (ho : PE X o (LO G W to)) (ha : PA X [e] (LA G W ta)) (hbase : attributeBase o "pop" X.env (eval o X.env) = eval o X.env := by rfl)
    (hfew : ((backTo cpos (starEach [e] X.env)).all (fun x => !x.1) && (backToKw cpos (keywordEach [] X.env)).all (fun x => x.1.isSome)
      && decide ([e].length + ([] : List Keyword).length + (if ([] : List Keyword).isEmpty then 0 else 1) < 30)) = true := by rfl)
    (hline : (apos.endLine == cpos.line) = true := by rfl) (hs : starEach [e] X.env = (false, eval e X.env) :: starEach [] X.env := by rfl) (hplain : (backTo cpos (starEach [] X.env)).any (·.1) = false := by rfl) :
    PE X (.Call (.Attribute o "pop" apos) [e] [] cpos) (LE G W (dM "list" fPopAt to ta)) :=
  d_mV hk PySem.F.plainAttrs_list PySem.F.slot_list_pop PySem.F.type_list_pop mt_popAt mv_popAt ho ha hbase hfew hline hs hplain
theorem d_insert {e2 : Expr} (hk : X.K = G.K) (ho : PE X o (LO G W to)) (ha : PA X [e, e2] (LA G W ta)) (hbase : attributeBase o "insert" X.env (eval o X.env) = eval o X.env := by rfl)
    (hfew : ((backTo cpos (starEach [e, e2] X.env)).all (fun x => !x.1) && (backToKw cpos (keywordEach [] X.env)).all (fun x => x.1.isSome)
      && decide ([e, e2].length + ([] : List Keyword).length + (if ([] : List Keyword).isEmpty then 0 else 1) < 30)) = true := by rfl)
    (hline : (apos.endLine == cpos.line) = true := by rfl) (hs : starEach [e, e2] X.env = (false, eval e X.env) :: starEach [e2] X.env := by rfl) (hplain : (backTo cpos (starEach [e2] X.env)).any (·.1) = false := by rfl) :
    PE X (.Call (.Attribute o "insert" apos) [e, e2] [] cpos) (LE G W (dM "list" fIns to ta)) :=
  d_mV hk PySem.F.plainAttrs_list PySem.F.slot_list_insert PySem.F.type_list_insert mt_insert mv_ins ho ha hbase hfew hline hs hplain
end
section
variable {δ : DS} {M : MH} {X : XP} {A : Sl → MH → Prop} {a : Addr} {d : D} {i : Int}
@[simp ↓] theorem ty_r : TyD "list" (.ref a) M = lk M a (fun o => asL o fun _ => True) := propext ⟨fun h => by
  rcases h with ⟨_, xs, h⟩ | ⟨h, _⟩
  · exact ⟨_, seq_ref.mp h, xs, rfl, trivial⟩
  · exact absurd h (by decide), fun ⟨o, h, xs, e, _⟩ => .inl ⟨rfl, xs, seq_ref.mpr (by rw [h, e])⟩⟩
@[simp ↓] theorem e_app_r : fApp (.ref a) [d] M A = lk M a (fun o => asL o fun xs => xs.length < sizeLine ∧ A (.d .non) (mu M a (.lst (xs ++ [d])))) := propext
  ⟨fun ⟨_, xs, _, h1, h2, h3, q⟩ => by cases h1; cases h2; exact ⟨_, h3, xs, rfl, q⟩, fun ⟨o, h, xs, e, q⟩ => ⟨a, xs, d, rfl, rfl, by rw [h, e], q⟩⟩
@[simp ↓] theorem e_ins_r : fIns (.ref a) [.int i, d] M A = lk M a (fun o => asL o fun xs => xs.length < sizeLine ∧ 0 ≤ i ∧ i < 2 ^ 63 ∧ A (.d .non) (mu M a (.lst (xs.take i.toNat ++ [d] ++ xs.drop i.toNat)))) := propext
  ⟨fun ⟨_, xs, _, _, h1, h2, h3, q⟩ => by cases h1; cases h2; exact ⟨_, h3, xs, rfl, q⟩, fun ⟨o, h, xs, e, q⟩ => ⟨a, xs, i, d, rfl, rfl, by rw [h, e], q⟩⟩
def poI (xs : List D) (i : Int) (k : D → List D → Prop) : Prop := ∃ n d, -(2 ^ 63) ≤ i ∧ i < 2 ^ 63 ∧ seqIndex? i xs.length = some n ∧ xs[n]? = some d ∧ k d (xs.eraseIdx n)
@[simp ↓] theorem e_popAt_r : fPopAt (.ref a) [.int i] M A = lk M a (fun o => asL o fun xs => poI xs i fun d ys => A (.d d) (mu M a (.lst ys))) := propext
  ⟨fun ⟨_, xs, _, n, d, h1, h2, h3, h4, h5, h6, h7, q⟩ => by cases h1; cases h2; exact ⟨_, h3, xs, rfl, n, d, h4, h5, h6, h7, q⟩, fun ⟨o, h, xs, e, n, d, h4, h5, h6, h7, q⟩ => ⟨a, xs, i, n, d, rfl, rfl, by rw [h, e], h4, h5, h6, h7, q⟩⟩
theorem poI_at {xs : List D} {k : D → List D → Prop} (h0 : 0 ≤ i) (h1 : i < xs.length) (h2 : xs.length ≤ 16777216) : poI xs i k = k (xs.getD i.toNat .non) (xs.eraseIdx i.toNat) := by
  have hs : seqIndex? i xs.length = some i.toNat := by
    have hi : ixN xs.length i = some i.toNat := by
      unfold ixN
      rw [if_pos h0, if_pos h1]
    exact (ixN_seq hi).1
  have hg : xs[i.toNat]? = some (xs.getD i.toNat .non) := by
    rw [List.getD_eq_getElem?_getD, List.getElem?_eq_getElem (by omega)]
    rfl
  refine propext ⟨fun ⟨n, d, _, _, h, h', q⟩ => ?_, fun q => ⟨_, _, by omega, by omega, hs, hg, q⟩⟩
  rw [hs] at h
  cases h
  rw [hg] at h'
  cases h'
  exact q
end
/-! ### o[i], p[j] = a, b -/
def LGM (G : Gd) (tg : DG) : TG := fun v σ H Q => ∃ F δ M d Qd, Rep G F δ M σ H ∧ R G.K F v d ∧ tg d δ M Qd ∧ ∀ F' δ' M' H' σ', Rep G F' δ' M' σ' H' → Ex F F' → Qd δ' M' → Q σ' H'
def LGMs (G : Gd) (tg : DGs) : TGs := fun vs σ H Q => ∃ F δ M ds Qd, Rep G F δ M σ H ∧ Rs G.K F vs ds ∧ tg ds δ M Qd ∧ ∀ F' δ' M' H' σ', Rep G F' δ' M' σ' H' → Ex F F' → Qd δ' M' → Q σ' H'
def gSubM (to ti : DX) : DG := fun d δ M Q => to δ M (fun y M2 => ti δ M2 (fun x M3 => stM y x d M3 fun M4 => Q δ M4) NoX) NoX
section
variable {X : Cx} {G : Gd} {e o i : Expr} {es : List Expr} {pos : Pos} {to ti : DX}
theorem xokN {W : WX} {δ : DS} {σ : L2.St} : XOk G W δ σ NoX := fun _ _ _ _ _ _ _ _ _ _ _ h => h.elim
theorem gM_sub (ho : PE X o (LO G W0 to)) (hi : PE X i (LO G W0 ti))
    (ha : ∀ v, assign (.Subscript o i pos) X.env v = (do
      let ov ← holding [v] (eval o X.env)
      let iv ← holding [v, ov] (eval i X.env)
      standAt pos
      holding [v, ov, iv] (setItem ov iv v)
      release [v, ov, iv] []) := by intro _; rfl) : PG X (.Subscript o i pos) (LGM G (gSubM to ti)) :=
  pg_imp (pg_sub ho hi set_list ha) fun v σ H Q ⟨F, δ, M, d, Qd, rep, r, q, k⟩ => ⟨F, δ, M, _, NoX, rep, q, fun y u F1 M1 H1 r1 e1 o1 q1 => ⟨F1, δ, M1, _, NoX, r1, q1, fun x w F2 M2 H2 r2 e2 o2 q2 => by
    obtain ⟨a, xs, i, n, rfl, hm, rfl, hn, q2⟩ := q2
    obtain rfl := (o1.mono e2).ref
    obtain rfl := opn_int o2
    obtain ⟨us, hu, hr⟩ := r2.shared hm
    exact ⟨a, us, i, n, rfl, rfl, hu, by rw [hr.length]; exact hn, k F2 δ _ _ σ (r2.chgL hm (Rs.set (r.mono (e1.trans e2)) n hr)) (e1.trans e2) q2⟩, xokN⟩, xokN⟩
theorem gMs_nil : PGs X [] (LGMs G gNilD) := pgs_imp pgs_nil fun vs σ H Q ⟨F, δ, M, ds, Qd, rep, r, ⟨h1, q⟩, k⟩ => by
  subst h1
  cases r
  exact ⟨rfl, k F δ M H σ rep (Ex.refl F) q⟩
theorem gMs_cons {t : DG} {u : DGs} (h1 : PG X e (LGM G t)) (h2 : PGs X es (LGMs G u))
    (hs : (assignEach (e :: es) X.env).map (·.2) = assign e X.env :: (assignEach es X.env).map (·.2) := by rfl) : PGs X (e :: es) (LGMs G (gConsD t u)) :=
  pgs_imp (pgs_cons h1 h2 hs) fun vs σ H Q ⟨F, δ, M, ds, Qd, rep, r, ⟨d, rs, h1, q⟩, k⟩ => by
    subst h1
    cases r with
    | cons r1 r2 =>
      exact ⟨_, _, rfl, F, δ, M, d, _, rep, r1, q, fun F1 δ1 M1 H1 σ1 rep1 e1 q1 => ⟨F1, δ1, M1, rs, Qd, rep1, r2.mono e1, q1, fun F2 δ2 M2 H2 σ2 rep2 e2 q2 =>
        k F2 δ2 M2 H2 σ2 rep2 (e1.trans e2) q2⟩⟩
theorem gM_tup {k : Nat} {t : DGs} {n : Nat} (hK : X.K = G.K) (hc : X.calm = true) (h : PGs X es (LGMs G t))
    (hn : (assignEach es X.env).length = n := by rfl) (hst : (assignEach es X.env).findIdx? (·.1) = none := by rfl) : PG X (.Tuple es k pos) (LGM G (gTupD n t)) :=
  pg_imp (pg_or (pg_tup hc h hn hst) (pg_lst hc h hn hst)) fun v σ H Q ⟨F, δ, M, d, Qd, rep, r, ⟨xs, hd, hl, q⟩, k⟩ => by
    rcases hd with rfl | rfl
    · obtain ⟨a, vs, rfl, h1, h2⟩ := r.tup_inv
      exact .inl ⟨a, vs, rfl, by rw [hK]; exact ex_t rep.fr.ex h1, h2.length.trans hl, F, δ, M, xs, Qd, rep, h2, q, k⟩
    · obtain ⟨a, vs, rfl, h1, h2⟩ := r.lst_inv
      exact .inr ⟨a, vs, rfl, by rw [hK]; exact .inl (.inl (rep.fr.ex _ _ h1)), h2.length.trans hl, F, δ, M, xs, Qd, rep, h2, q, k⟩
theorem s_asgTM {W : WX} {tg : Expr} {t : DX} {g : DG} (he : PE X e (LV G W t)) (hg : PG X tg (LGM G g)) (hs : swapsWithSole [tg] e pos.line X.env = pure false := by rfl) (hw : swappedStores [tg] e X.env = pure none := by rfl)
    (h1 : (assignEach [tg] X.env).map (·.2) = [assign tg X.env] := by rfl) : PS X (.Assign [tg] e pos) (LS G W (sAsgT t g)) :=
  ps_imp (ps_asg he hg hs hw h1) fun D σ H ⟨F, δ, M, E, rep, q, ok⟩ => ⟨F, δ, M, _, _, rep, q, fun d v F1 M1 H1 rep1 e1 r1 q1 => ⟨F1, δ, M1, d, E.nx, rep1, r1, q1, fun F2 δ2 M2 H2 σ2 rep2 e2 q2 => ok.nx F2 δ2 M2 σ2 H2 rep2 (e1.trans e2) q2⟩, ok.ex δ σ⟩
end
section
variable {δ : DS} {M : MH} {d : D} {to ti : DX} {k : DS → MH → Prop}
@[simp ↓] theorem e_gSubM : gSubM to ti d δ M k = to δ M (fun y M2 => ti δ M2 (fun x M3 => stM y x d M3 fun M4 => k δ M4) NoX) NoX := rfl
end
/-! ### text * int -/
def rMulS : R2 := fun x y H Q => ∃ s i, x = V.str s ∧ y = V.int i ∧ s.length ≤ 16 ∧ 0 ≤ i ∧ i ≤ 1048576 ∧ Q (.str (Txt.mul s i)) H
theorem op_mulS {X : Cx} : OpR X (binaryOp .Mult) rMulS := by
  intro pins s σ H x y v u Q I rx ry h
  obtain ⟨a, i, rfl, rfl, h1, h2, h3, q⟩ := h
  obtain ⟨t, rfl⟩ := rx
  obtain ⟨t', rfl⟩ := ry
  exact PySem.W.KXi.mul rfl h1 (by omega) (by omega) fun t' k _ _ => ⟨.str (Txt.mul a i), H, I.tok _, ⟨_, rfl⟩, q⟩
def fMulS : F2 := fun x y M Q => ∃ s i, x = .str s ∧ y = .int i ∧ s.length ≤ 16 ∧ 0 ≤ i ∧ i ≤ 1048576 ∧ Q (.d (.str (Txt.mul s i))) M
theorem opl_mulS {G : Gd} : OpL G rMulS fMulS := by
  intro F δ M σ H v u x y Q Qv rep hx hy h k
  obtain ⟨s, i, rfl, rfl, h1, h2, h3, q⟩ := h
  exact ⟨s, i, opn_str hx, opn_int hy, h1, h2, h3, OpL.done rep k (.str _) q⟩
theorem d_mulS {X : Cx} {G : Gd} {W : WX} {a b : Expr} {ta tb : DX} {pos : Pos} (ha : PE X a (LO G W ta)) (hb : PE X b (LO G W tb)) : PE X (.BinOp a .Mult b pos) (LE G W (dBin fMulS ta tb)) := d_bin op_mulS opl_mulS ha hb
@[simp ↓] theorem e_mulS {s : Str} {i : Int} {M : MH} {A : Sl → MH → Prop} : fMulS (.str s) (.int i) M A = (s.length ≤ 16 ∧ 0 ≤ i ∧ i ≤ 1048576 ∧ A (.d (.str (Txt.mul s i))) M) :=
  propext ⟨fun ⟨_, _, h1, h2, q⟩ => by cases h1; cases h2; exact q, fun q => ⟨s, i, rfl, rfl, q⟩⟩
/-! ### lists + lists, shared ones among them -/
def lsOf (M : MH) : D → Option (List D)
  | .lst xs => some xs
  | .ref a => match M a with
    | some (.lst xs) => some xs
    | _ => none
  | _ => none
theorem ls_at {G : Gd} {F : Hp} {δ : DS} {M : MH} {σ : L2.St} {H : Hp} {v : V} {x : D} {xs : List D} (rep : Rep G F δ M σ H) (h : Opn G F δ σ v x) (q : lsOf M x = some xs) : ∃ a vs, v = .ref a ∧ H a = some (.lst vs) ∧ Rs G.K F vs xs := by
  cases x with
  | lst ys =>
    cases q
    exact h.lst rep
  | ref a =>
    have e : lsOf M (.ref a) = match M a with
      | some (.lst xs) => some xs
      | _ => none := rfl
    rw [e] at q
    split at q
    · rename_i ys hm
      cases q
      obtain rfl := h.ref
      obtain ⟨vs, h1, h2⟩ := rep.shared hm
      exact ⟨a, vs, rfl, h1, h2⟩
    · cases q
  | _ => cases q
theorem ls_ref {M : MH} {a : Addr} {xs : List D} : lsOf M (.ref a) = some xs ↔ M a = some (.lst xs) := by
  have e : lsOf M (.ref a) = match M a with
    | some (.lst xs) => some xs
    | _ => none := rfl
  rw [e]
  constructor
  · intro h
    split at h
    · rename_i ys hm
      cases h
      exact hm
    · cases h
  · intro h
    rw [h]
def fAddL : F2 := fun x y M Q => ∃ xs ys, lsOf M x = some xs ∧ lsOf M y = some ys ∧ xs.length + ys.length ≤ sizeLine ∧ Q (.own (xs ++ ys)) M
theorem opl_addL {G : Gd} : OpL G rCat fAddL := by
  intro F δ M σ H v u x y Q Qv rep hx hy h k
  obtain ⟨xs, ys, h1, h2, h3, q⟩ := h
  obtain ⟨a, vs, rfl, g1, g2⟩ := ls_at rep hx h1
  obtain ⟨b, us, rfl, g3, g4⟩ := ls_at rep hy h2
  exact ⟨a, b, vs, us, rfl, rfl, g1, g3, by rw [g2.length, g4.length]; exact h3, fun p hp => k _ _ F M _ (rep.addH hp (.lst (vs ++ us))) (Ex.refl F) (rep.addOwn hp (g2.append g4)) q⟩
theorem d_addL {X : Cx} {G : Gd} {W : WX} {a b : Expr} {ta tb : DX} {pos : Pos} (ha : PE X a (LO G W ta)) (hb : PE X b (LO G W tb)) : PE X (.BinOp a .Add b pos) (LE G W (dBin fAddL ta tb)) := d_bin op_cat opl_addL ha hb
@[simp ↓] theorem e_addL_rl {a : Addr} {ys : List D} {M : MH} {A : Sl → MH → Prop} : fAddL (.ref a) (.lst ys) M A = lk M a (fun o => asL o fun xs => xs.length + ys.length ≤ sizeLine ∧ A (.own (xs ++ ys)) M) :=
  propext ⟨fun ⟨xs, zs, h1, h2, q⟩ => by cases h2; exact ⟨_, ls_ref.mp h1, xs, rfl, q⟩, fun ⟨o, h, xs, e, q⟩ => ⟨xs, ys, ls_ref.mpr (by rw [h, e]), rfl, q⟩⟩
@[simp ↓] theorem e_addL_ll {xs ys : List D} {M : MH} {A : Sl → MH → Prop} : fAddL (.lst xs) (.lst ys) M A = (xs.length + ys.length ≤ sizeLine ∧ A (.own (xs ++ ys)) M) :=
  propext ⟨fun ⟨_, _, h1, h2, q⟩ => by cases h1; cases h2; exact q, fun q => ⟨xs, ys, rfl, rfl, q⟩⟩
@[simp ↓] theorem fRev_r {a : Addr} {M : MH} {A : Sl → MH → Prop} : fRev (.ref a) M A = lk M a (fun o => asL o fun xs => A (.own xs.reverse) M) := propext ⟨fun h => (by
  rcases h with ⟨_, h, q⟩ | ⟨xs, h, q⟩
  · cases h
  · exact ⟨_, seq_ref.mp h, xs, rfl, q⟩), fun ⟨o, h, xs, e, q⟩ => .inr ⟨xs, seq_ref.mpr (by rw [h, e]), q⟩⟩
end DL

set_option Elab.async false
set_option linter.all false
set_option maxRecDepth 100000
set_option maxHeartbeats 3200000
/-! ### set(xs) of a list of ints, sorted(set(xs)), min(xs) -/
namespace L2
open PySem PySem.Spec PyProof.Rows
section
variable {P : Program} {w : World} {A : Around} {E : Value → Shared → Prop} {s : Shared}
theorem call_set_lstI {l : Addr} {items : Array Value} (ns : List Int) {Q : Value → Shared → Prop} (hh : A.handled = none) (hl : s.heap.IsList l items) (hit : IntsAre items.toList ns) (hb : ns.length + 1 < scanBound)
    (h : ∀ (h' : Heap) (tk c : Nat), SetR w h' s.heap.objs.size (fun j => decide (j ∈ ns)) c → c ≤ ns.length → (∀ b o, s.heap.get? b = some o → h'.get? b = some o) → Q (.ref s.heap.objs.size) { s with heap := h', toks := tk }) :
    wpAny (model P w) A (call (.type "set") [.ref l]) Q E s := by
  have hisz : items.size = ns.length := by
    have q := IntsAre.length hit
    rwa [Array.length_toList] at q
  obtain ⟨c, tl, hmro⟩ := F.called_set.mro
  have hmade := F.called_set.made
  have hsub := F.called_set.sub
  refine wpAny_call (codeAny_of_tree ?_)
  show wpAny _ _ (callAny (.type "set") _) _ _ _
  refine wpAny_pure ⟨Code.quiet_builtin _ (by decide +kernel), codeAny_builtin F.entry_type_call ?_⟩
  rw [Around.under_plain (weight_type_call_type "set" [.ref l] []) rfl]
  have h1 := F.called_set.notType
  have h2 := F.called_set.canCreate
  have hct := F.typeCall_set_1 (.ref l)
  repeat (any_goals (first | assumption | wp_step))
  refine codeAny_mono (code_set_led1 (.ref l) (E := E) (Q₁ := fun obj s₁ => obj = .ref s.heap.objs.size ∧ s₁ = { s with heap := s.heap.push { cls := .type "set", dict := none, data := .set #[] 0 (.fresh 0 0 (!w.params.followText "set-order")) } }) ⟨rfl, rfl⟩) fun r s₁ hr => ?_
  cases r with
  | error e => exact hr
  | ok fl =>
    cases fl with
    | ret obj =>
      obtain ⟨rfl, rfl⟩ := hr
      have hS : (s.heap.push { cls := .type "set", dict := none, data := .set #[] 0 (.fresh 0 0 (!w.params.followText "set-order")) }).get? s.heap.objs.size = some { cls := .type "set", dict := none, data := .set #[] 0 (.fresh 0 0 (!w.params.followText "set-order")) } := Heap.get?_push_size _ rfl
      have hT : Shared.TypeIs { s with heap := s.heap.push { cls := .type "set", dict := none, data := .set #[] 0 (.fresh 0 0 (!w.params.followText "set-order")) } } (.ref s.heap.objs.size) "set" := ⟨_, hS, rfl⟩
      have hli := F.called_set.init.lookup
      have hbi := F.called_set.init.bind (.ref s.heap.objs.size)
      repeat (any_goals (first | assumption | wp_step))
      refine codeAny_mono (codeAny_call_builtin (R := wants (fun r s₂ => r = .none ∧ ∃ h' tk c, s₂ = { s with heap := h', toks := tk } ∧ SetR w h' s.heap.objs.size (fun j => decide (j ∈ ns)) c ∧ c ≤ ns.length ∧
          (∀ b o, s.heap.get? b = some o → h'.get? b = some o)) E) F.called_set.init.plain F.entry_set_init (check_set_init_1 hT ?_)) fun r₂ s₂ hr₂ => ?_
      · obtain ⟨⟨ocls, odict, odata, oslots⟩, hol, hcl, nl, hdl⟩ := hl
        simp only at hcl hdl
        subst hcl; subst hdl
        have hol' : (s.heap.push { cls := .type "set", dict := none, data := .set #[] 0 (.fresh 0 0 (!w.params.followText "set-order")) }).get? l = some { cls := .type "list", dict := odict, data := .seq items nl, slots := oslots } := Heap.get?_push_of_some _ hol
        have hsls := F.sub_list_set
        have hslf := F.sub_list_frozenset
        have hne : (Value.type "list" == Value.type "dict") = false := by decide
        have hl1 : (s.heap.push { cls := .type "set", dict := none, data := .set #[] 0 (.fresh 0 0 (!w.params.followText "set-order")) }).IsList l items := ⟨_, hol', rfl, nl, rfl⟩
        unfold Builtin.«set.__init__» noKeywords Builtin.Frozenset.updateFrom
        generalize hPI : pyIter = PI
        wp_walk
        subst hPI
        refine wpAny_pyIter_list hl1 ?_
        refine wpAny_bind (wpAny_runValue ?_)
        have hlS : l < s.heap.objs.size := Heap.lt_size hol
        have hh3 : A.in1.in1.in1.handled = none := by simp [hh]
        have hneI : l ≠ (s.heap.push { cls := .type "set", dict := none, data := .set #[] 0 (.fresh 0 0 (!w.params.followText "set-order")) }).objs.size := by rw [Heap.size_push]; exact Nat.ne_of_lt (Nat.lt_succ_of_lt hlS)
        have hSf : s.heap.objs.size ∉ [(s.heap.push { cls := .type "set", dict := none, data := .set #[] 0 (.fresh 0 0 (!w.params.followText "set-order")) }).objs.size, l] := by
          rw [Heap.size_push]
          simp only [List.mem_cons, List.not_mem_nil, or_false, not_or]
          exact ⟨Nat.ne_of_lt (Nat.lt_succ_self _), Nat.ne_of_gt hlS⟩
        have hval : ∀ (i : Nat) (v : Value), items[i]? = some v → ∃ k t, ns[i]? = some k ∧ v = .int k t := fun i v hv => by
          have hi : i < ns.length := by rw [← hisz]; exact (Array.getElem?_eq_some_iff.mp hv).1
          obtain ⟨t, e⟩ := PyProof.Rows.IntsAre.int_at hit i v (by rw [Array.getElem?_toList]; exact hv)
          refine ⟨ns[i], t, List.getElem?_eq_getElem hi, ?_⟩
          rw [e, List.getD_eq_getElem?_getD, List.getElem?_eq_getElem hi] <;> rfl
        refine set_update_ints ((Walks.list hh3 _ l hneI items).toS) s.heap.objs.size hSf ns hisz hb hval (items.size - 0) 0 _ (by omega) (Nat.zero_le _) ⟨⟨_, Heap.get?_push_size _ rfl, rfl, rfl⟩, (hl1.push _)⟩ ⟨0, Nat.le_refl 0, setR_new_at (Heap.get?_push_of_some _ hS)⟩ ?_
        intro s' c' hm hc' hS'
        obtain ⟨h', g2, d', tk', os'⟩ := s'
        obtain rfl : g2 = s.gens := hm.gens
        obtain rfl : d' = s.drawn := hm.drawn
        obtain rfl : os' = s.os := hm.os
        show wpAny _ _ _ _ _ _
        refine wpAny_pure ?_
        show wpAny _ _ (ret Value.none) _ _ _
        rw [hisz] at hc'
        refine wpAny_pure ⟨rfl, h', tk', c', rfl, hS', hc', fun b o e => ?_⟩
        have hb0 := Heap.lt_size e
        exact hm.heap b o (by simp only [List.mem_cons, List.not_mem_nil, or_false, not_or]; rw [Heap.size_push]; exact ⟨Nat.ne_of_lt hb0, Nat.ne_of_lt (Nat.lt_succ_of_lt hb0)⟩) (Heap.get?_push_of_some _ (Heap.get?_push_of_some _ e))
      · cases r₂ with
        | error e => exact hr₂
        | ok fl₂ =>
          cases fl₂ with
          | ret r =>
            obtain ⟨rfl, h', tk, c', rfl, hS', hc', hk'⟩ := hr₂
            repeat (any_goals (first | assumption | wp_step))
            exact h _ _ _ hS' hc' hk'
          | _ => exact hr₂.elim
    | _ => exact hr.elim
end
section
variable {X : Cx}
/-- set(xs), xs a list of ints -/
def rSetLI (K : PySem.W.Frag) (w : World) : List V → Hp → VK → Prop := fun xs H Q => ∃ (l : Addr) (ns : List Int), xs = [V.ref l] ∧ SqL K H l (ns.map V.int) ∧ ns.length + 1 < scanBound ∧
  ∀ p c, H p = none → c ≤ ns.length → Q (.ref p) (upd H p (SetO w p (fun j => decide (j ∈ ns)) c))
theorem cr_setL (hc : X.calm = true) : CallR X (.type "set") (rSetLI X.K X.w) := by
  intro pins s σ H xs us Q I r h
  obtain ⟨l, ns, rfl, hl, hb, q⟩ := h
  obtain ⟨its, rv, pl, _⟩ := I.list hl
  rw [Vals.ref1 r]
  refine call_set_lstI ns (I.ok.hd hc) pl.isList rv.ints hb fun h' tk c R hcn hk => ?_
  exact ⟨.ref s.heap.objs.size, _, I.laid (t' := tk) hk (Nat.le_refl _) (setO_new R), rfl, q _ c (I.hok.fresh (Nat.le_refl _)) hcn⟩
end
end L2
namespace DL
open PySem PySem.Spec PyProof.Rows L2
section
variable {X : Cx} {G : Gd} {W : WX} {a : Expr} {pos p p' pos' : Pos} {t : DA}
/-- sorted(set(xs)), at most 62 ints -/
def fSrtS : FC := fun ds M Q => ∃ (d : D) (ns : List Int), ds = [d] ∧ seqOf M d = some (ns.map D.int) ∧ ns.length < 63 ∧ ∀ zs : List Int, zs.Pairwise (· < ·) → (∀ k, k ∈ zs ↔ k ∈ ns) → Q (.own (zs.map D.int)) M
theorem d_sortset (hK : X.K = G.K) (hc : X.calm = true) (hg : Gl X "sorted") (hm : X.mg "sorted" = none) (hg' : Gl X "set") (hm' : X.mg "set" = none) (ha : PA X [a] (LAO G W t))
    (he : starEach [a] X.env = (false, eval a X.env) :: starEach [] X.env := by rfl) : PE X (.Call (.Name "sorted" p) [.Call (.Name "set" p') [a] [] pos'] [] pos) (LE G W (dCB fSrtS t)) :=
  pe_imp (pe_callB (cr_sortedSet hc) hg hm (by decide +kernel) (pa_cons (pe_callTy (cr_setL hc) hg' hm' (by decide +kernel) ha (by decide) (by decide) he rfl) pa_nil) (by decide) (by decide) rfl rfl)
    fun σ H Q ⟨F, δ, M, Qd, Ed, rep, q, k, x⟩ => ⟨F, δ, M, _, Ed, rep, q, fun ds vs F1 M1 H1 rep1 e1 s1 q1 => by
      obtain ⟨d, ns, rfl, sq, h64, q⟩ := q1
      obtain ⟨v, rfl, o⟩ := s1.one
      obtain ⟨l, us, rfl, h1, h2⟩ := seqOf_at rep1 o sq
      obtain rfl := h2.ints
      refine ⟨l, ns, rfl, by rw [hK]; exact h1, by unfold scanBound; omega, fun p c hp hcn => ?_⟩
      refine ⟨p, _, c, rfl, upd_same, by omega, fun zs p2 pw mem len hp2 => ?_⟩
      refine k (.own _) _ F1 M1 _ ((rep1.addH hp _).addH hp2 _) e1 ((rep1.addH hp _).addOwn hp2 (rs_ints zs)) (q zs pw fun k => by rw [mem k]; simp), x⟩
/-- min of a list of ints -/
def fMinL : FC := fun ds M Q => ∃ (d : D) (ns : List Int), ds = [d] ∧ seqOf M d = some (ns.map D.int) ∧ 0 < ns.length ∧ ∀ m, m ∈ ns → (∀ y ∈ ns, m ≤ y) → Q (.d (.int m)) M
theorem cl_minL : CallL G (rMin G.K) fMinL := by
  intro F δ M σ H vs ds Q Qv rep hs h k
  obtain ⟨d, ns, rfl, q, hn, h⟩ := h
  obtain ⟨v, rfl, o⟩ := hs.one
  obtain ⟨a, us, rfl, h1, h2⟩ := seqOf_at rep o q
  obtain rfl := h2.ints
  exact ⟨a, ns, rfl, h1, hn, fun m hm hy => k (.d (.int m)) _ F M H rep (Ex.refl F) (R.int _) (h m hm hy)⟩
theorem d_minL (hK : X.K = G.K) (hc : X.calm = true) (hg : Gl X "min") (hm : X.mg "min" = none) (ha : PA X [a] (LAO G W t)) (he : starEach [a] X.env = (false, eval a X.env) :: starEach [] X.env := by rfl) : PE X (.Call (.Name "min" p) [a] [] pos) (LE G W (dCB fMinL t)) :=
  d_callB (cr_min hc) (by rw [hK]; exact cl_minL) hg hm (by decide +kernel) ha (by decide) (by decide) he rfl
end
section
variable {M : MH} {A : Sl → MH → Prop} {r : List D} {ns : List Int}
theorem srtS_l (h : r = ns.map D.int) (hn : ns.length < 63) (k : ∀ zs : List Int, zs.Pairwise (· < ·) → (∀ k, k ∈ zs ↔ k ∈ ns) → A (.own (zs.map D.int)) M) : fSrtS [.lst r] M A := ⟨_, ns, rfl, by rw [h]; rfl, hn, k⟩
theorem minL_l (h : r = ns.map D.int) (hn : 0 < ns.length) (k : ∀ m, m ∈ ns → (∀ y ∈ ns, m ≤ y) → A (.d (.int m)) M) : fMinL [.lst r] M A := ⟨_, ns, rfl, by rw [h]; rfl, hn, k⟩
end
section
variable {X : Cx} {G : Gd} {W : WX} {a b : Expr} {pos : Pos} {ta tb : DX}
/-! ### == of a shared list -/
def lkD (M : MH) : D → D
  | .ref a => match M a with
    | some (.lst xs) => .lst xs
    | _ => .ref a
  | d => d
def fEqM : FB := fun x y M Q => (lkD M x).Ok ∧ (lkD M y).Ok ∧ Q (D.eq (lkD M x) (lkD M y))
def fNeM : FB := fun x y M Q => (lkD M x).Ok ∧ (lkD M y).Ok ∧ Q (!D.eq (lkD M x) (lkD M y))
theorem dp_lk {F : Hp} {δ : DS} {M : MH} {σ : L2.St} {H : Hp} {v : V} {d : D} (rep : Rep G F δ M σ H) (h : Opn G F δ σ v d) (n : (lkD M d).nr = true) : Dp G.K H v (lkD M d).toP := by
  cases d with
  | ref l =>
    have e : lkD M (.ref l) = match M l with | some (.lst xs) => D.lst xs | _ => .ref l := rfl
    rw [e] at n ⊢
    split at n
    · rename_i xs hM
      obtain rfl := (h.val (fun _ z => by cases z)).ref_inv
      obtain ⟨vs, h1, h2⟩ := (rep.fr.mem _ _ hM).2
      have n' : D.nrs xs = true := by simpa [D.nr] using n
      show Dp G.K H (.ref l) (.list (D.toPs xs))
      exact .lst (.inl (.inl h1)) (Rs.dp rep.fr.ex xs vs h2 n')
    · simp [D.nr] at n
  | _ => exact h.dp rep n
theorem cl_eqM : CmpL G (rEqD G.K) fEqM := by
  intro F δ M σ H v u x y Q Qv rep hx hy ⟨h1, h2, h3⟩ k
  exact ⟨_, _, dp_lk rep hx h1.1, dp_lk rep hy h2.1, h1.shaped, h2.shaped, k _ h3⟩
theorem cl_neM : CmpL G (rNeD G.K) fNeM := by
  intro F δ M σ H v u x y Q Qv rep hx hy ⟨h1, h2, h3⟩ k
  exact ⟨_, _, dp_lk rep hx h1.1, dp_lk rep hy h2.1, h1.shaped, h2.shaped, k _ h3⟩
theorem t_eqM (hK : X.K = G.K) (hu : X.A.units + 65 < cLine) (ha : PE X a (LO G W ta)) (hb : PE X b (LO G W tb)) : PT X (.Compare a [.Eq] [b] pos) (LT G W (dCmp fEqM ta tb)) := t_cmp (op_eqD (by omega)) (by rw [hK]; exact cl_eqM) ha hb (nomark _)
theorem t_neM (hK : X.K = G.K) (hu : X.A.units + 65 < cLine) (ha : PE X a (LO G W ta)) (hb : PE X b (LO G W tb)) : PT X (.Compare a [.NotEq] [b] pos) (LT G W (dCmp fNeM ta tb)) := t_cmp (op_neD (by omega)) (by rw [hK]; exact cl_neM) ha hb (nomark _)
theorem d_eqM (hK : X.K = G.K) (hu : X.A.units + 65 < cLine) (ha : PE X a (LO G W ta)) (hb : PE X b (LO G W tb)) : PE X (.Compare a [.Eq] [b] pos) (LE G W (dOfT (dCmp fEqM ta tb))) := d_cmp (op_eqD (by omega)) (by rw [hK]; exact cl_eqM) ha hb (nomark _)
theorem d_neM (hK : X.K = G.K) (hu : X.A.units + 65 < cLine) (ha : PE X a (LO G W ta)) (hb : PE X b (LO G W tb)) : PE X (.Compare a [.NotEq] [b] pos) (LE G W (dOfT (dCmp fNeM ta tb))) := d_cmp (op_neD (by omega)) (by rw [hK]; exact cl_neM) ha hb (nomark _)
variable {M : MH} {l : Addr} {xs : List D} {y : D} {k : Bool → Prop}
theorem eqM_l (h : M l = some (.lst xs)) (h1 : (D.lst xs).Ok) (h2 : y.Ok) (hy : lkD M y = y) : fEqM (.ref l) y M k = k (D.eq (.lst xs) y) := by
  have e : lkD M (.ref l) = .lst xs := by show (match M l with | some (.lst xs) => D.lst xs | _ => .ref l) = _; rw [h]
  unfold fEqM
  rw [e, hy]
  exact propext ⟨fun h => h.2.2, fun h => ⟨h1, h2, h⟩⟩
theorem neM_l (h : M l = some (.lst xs)) (h1 : (D.lst xs).Ok) (h2 : y.Ok) (hy : lkD M y = y) : fNeM (.ref l) y M k = k (!D.eq (.lst xs) y) := by
  have e : lkD M (.ref l) = .lst xs := by show (match M l with | some (.lst xs) => D.lst xs | _ => .ref l) = _; rw [h]
  unfold fNeM
  rw [e, hy]
  exact propext ⟨fun h => h.2.2, fun h => ⟨h1, h2, h⟩⟩
end
end DL

set_option Elab.async false
set_option linter.all false
set_option maxRecDepth 100000
set_option maxHeartbeats 2000000
/-! ### x *= e of ints -/
namespace DL
open PySem PySem.Spec PyProof.Rows L2
section
variable {X : Cx} {G : Gd} {W : WX} {e : Expr} {pos : Pos}
def ipMul : TIp := fun x y H Q => ∃ i j, x = .int i ∧ y = .int j ∧ (CMul i j ∨ CMulW i j) ∧ Q (.int (i * j)) H
theorem ip_mulD : PIp X .Mult ipMul := by
  intro pins s σ H x y v u Q I r1 r2 h
  obtain ⟨i, j, e1, e2, hm, q⟩ := h
  subst e1; subst e2
  obtain ⟨t, rfl⟩ := r1
  obtain ⟨t', rfl⟩ := r2
  exact imul_int ⟨.int _, H, I.tok _, ⟨_, rfl⟩, q⟩ (hm.elim CMul.ok CMulW.ok)
def sAugM (i : Nat) (t : DX) : DP := fun E δ M => ∃ n, δ[i]? = some (some (.d (.int n))) ∧ t δ M (fun d M' => ∃ m, d = .int m ∧ (CMul n m ∨ CMulW n m) ∧ E.nx (δ.set i (some (.d (.int (n * m))))) M') E.ex
theorem s_augM {i : Nat} {x : Str} {t : DX} {pos' : Pos} (hN : X.N.Nodup) (hi : X.N[i]? = some x) (hx : Loc X.env.scope x) (he : PE X e (LV G W t)) (hf : X.fn x = true ∨ X.env.scope.names.lookup x = some .local := by first | exact .inl rfl | exact .inr rfl | assumption) :
    PS X (.AugAssign (.Name x pos') .Mult e pos) (LS G W (sAugM i t)) :=
  ps_imp (ps_aug hN hi hx he ip_mulD hf) fun D σ H ⟨F, δ, M, E, rep, ⟨n, hn, q⟩, ok⟩ => by
    obtain ⟨v, h1, h2⟩ := rep.val i _ hn
    obtain rfl := h2.int_inv
    exact ⟨_, h1, F, δ, M, _, _, rep, q, fun d v F1 M1 H1 r1 e1 s1 ⟨m, hm, hc, q1⟩ => by
      subst hm
      obtain rfl := s1.int_inv
      exact ⟨n, m, rfl, rfl, hc, ok.nx F1 _ M1 _ H1 (r1.setD (R.int _)) e1 q1⟩, ok.ex δ σ⟩
end
section
variable {X : Cx} {G : Gd} {W : WX} {e : Expr} {es : List Expr} {kws : List Keyword} {pos p : Pos} {t tk : DA}
/-- a keyword call, the number of keywords written -/
theorem d_calKn {k n m : Nat} {ks : List Str} {sp : SpD} {x : Str} (Y : CalK X.prog X.w X.K X.mg X.base k x n ks sp) (hm : ks.length = m) (hK : X.K = G.K) (hr : Room k X.A) (hg : Gl X x) (tx : Takes X W) (ha : PA X (e :: es) (LA G W t)) (hkw : PK X kws (LA G W tk))
    (hall : (backToKw pos (keywordEach kws X.env)).all (·.1.isSome) = true := by rfl) (hks : (backToKw pos (keywordEach kws X.env)).filterMap (·.1) = ks := by rfl)
    (hdb : (x == ("__debug__" : Str)) = false := by decide) (he : starEach (e :: es) X.env = (false, eval e X.env) :: starEach es X.env := by rfl)
    (hpl : ((backTo pos (starEach (e :: es) X.env)).any (·.1) || (backToKw pos (keywordEach kws X.env)).any (·.1.isNone)) = false := by rfl) :
    PE X (.Call (.Name x p) (e :: es) kws pos) (LE G W (dCallK n m sp t tk)) := by
  subst hm
  exact d_calK Y hK hr hg tx ha hkw hall hks hdb he hpl
end
end DL

set_option Elab.async false
set_option linter.all false
set_option maxRecDepth 100000
set_option maxHeartbeats 4000000
namespace Lw
open PySem PySem.Spec PyProof.Rows L2 DL
def top (i : Nat) : Stmt := PySem.Challenge.pw_blindslots_k08_logs_that_are_impossible.main.body.getD i (.Pass ⟨0, 0, 0, 0⟩)
/-! ### the text by places -/
abbrev s_law_mix : Stmt := top 32
abbrev s_law_pick : Stmt := top 34
abbrev s_law_bad_log : Stmt := top 43
abbrev s_law_before : Stmt := top 36
abbrev s_law_names : Stmt := top 35
abbrev s_law_jobs : Stmt := top 37
abbrev s_law_present : Stmt := top 40
abbrev s_law_log : Stmt := top 41
abbrev s_law_is_int : Stmt := top 38
abbrev s_law_log_fault : Stmt := top 42
abbrev s_law_certificate : Stmt := top 44
abbrev s_law_kind : Stmt := top 39
abbrev s_comes_before : Stmt := top 23
abbrev s_is_integer : Stmt := top 15
abbrev s_is_arrival : Stmt := top 21
abbrev s_is_name : Stmt := top 20
abbrev s_is_job : Stmt := top 22
abbrev s_check_jobs : Stmt := top 24
abbrev s_check_log : Stmt := top 28
abbrev s_has_arrived : Stmt := top 25
abbrev s_count_arrived : Stmt := top 26
abbrev s_present_in : Stmt := top 29
abbrev s_first_fault : Stmt := top 30
abbrev s_law_right : Stmt := top 45
abbrev s_law_store : Stmt := top 33
abbrev s_law : Stmt := top 46
theorem sc_law_mix : FnScope ["number", "turn", "value"] ["number", "turn"] (defScope s_law_mix) := ⟨rfl, rfl, rfl, by decide +kernel, rfl, by decide +kernel, by decide +kernel⟩
theorem sc_law_pick : FnScope ["store", "count", "cell", "digit"] ["store", "count"] (defScope s_law_pick) := ⟨rfl, rfl, rfl, by decide +kernel, rfl, by decide +kernel, by decide +kernel⟩
theorem sc_law_bad_log : FnScope ["store", "log", "at", "unit", "finishes", "pairs", "way"] ["store", "log"] (defScope s_law_bad_log) := ⟨rfl, rfl, rfl, by decide +kernel, rfl, by decide +kernel, by decide +kernel⟩
theorem sc_law_before : FnScope ["arrival", "finishes"] ["arrival", "finishes"] (defScope s_law_before) := ⟨rfl, rfl, rfl, by decide +kernel, rfl, by decide +kernel, by decide +kernel⟩
theorem sc_law_names : FnScope ["store", "count", "letters", "names", "turn", "word", "old", "at", "k"] ["store", "count"] (defScope s_law_names) := ⟨rfl, rfl, rfl, by decide +kernel, rfl, by decide +kernel, by decide +kernel⟩
theorem sc_law_jobs : FnScope ["store", "most", "late", "count", "arrivals", "k", "at", "kind", "number", "earlier", "jobs", "name", "door", "one"] ["store", "most", "late"] (defScope s_law_jobs) := ⟨rfl, rfl, rfl, by decide +kernel, rfl, by decide +kernel, by decide +kernel⟩
theorem sc_law_present : FnScope ["jobs", "unit", "finished", "here", "name", "arrival", "door"] ["jobs", "unit", "finished"] (defScope s_law_present) := ⟨rfl, rfl, rfl, by decide +kernel, rfl, by decide +kernel, by decide +kernel⟩
theorem sc_law_log : FnScope ["store", "jobs", "cores", "wide", "log", "finished", "unit", "moments", "many", "finishes", "name", "arrival", "door"] ["store", "jobs", "cores", "wide"] (defScope s_law_log) := ⟨rfl, rfl, rfl, by decide +kernel, rfl, by decide +kernel, by decide +kernel⟩
theorem sc_law_is_int : FnScope ["value", "least"] ["value", "least"] (defScope s_law_is_int) := ⟨rfl, rfl, rfl, by decide +kernel, rfl, by decide +kernel, by decide +kernel⟩
theorem sc_law_log_fault : FnScope ["log", "before", "place", "pair"] ["log"] (defScope s_law_log_fault) := ⟨rfl, rfl, rfl, by decide +kernel, rfl, by decide +kernel, by decide +kernel⟩
theorem sc_law_certificate : FnScope ["jobs", "log", "cores", "finished", "unit", "finishes", "many"] ["jobs", "log", "cores"] (defScope s_law_certificate) := ⟨rfl, rfl, rfl, by decide +kernel, rfl, by decide +kernel, by decide +kernel⟩
theorem sc_law_kind : FnScope ["caught", "kinds", "at"] ["caught"] (defScope s_law_kind) := ⟨rfl, rfl, rfl, by decide +kernel, rfl, by decide +kernel, by decide +kernel⟩
theorem sc_comes_before : FnScope ["arrival", "finishes"] ["arrival", "finishes"] (defScope s_comes_before) := ⟨rfl, rfl, rfl, by decide +kernel, rfl, by decide +kernel, by decide +kernel⟩
theorem sc_is_integer : FnScope ["value", "least"] ["value", "least"] (defScope s_is_integer) := ⟨rfl, rfl, rfl, by decide +kernel, rfl, by decide +kernel, by decide +kernel⟩
theorem sc_is_arrival : FnScope ["value"] ["value"] (defScope s_is_arrival) := ⟨rfl, rfl, rfl, by decide +kernel, rfl, by decide +kernel, by decide +kernel⟩
theorem sc_is_name : FnScope ["value", "char"] ["value"] (defScope s_is_name) := ⟨rfl, rfl, rfl, by decide +kernel, rfl, by decide +kernel, by decide +kernel⟩
theorem sc_is_job : FnScope ["value", "name", "arrival", "entry"] ["value"] (defScope s_is_job) := ⟨rfl, rfl, rfl, by decide +kernel, rfl, by decide +kernel, by decide +kernel⟩
theorem sc_check_jobs : FnScope ["jobs", "names", "place", "job", "name", "arrival", "entry", "earlier"] ["jobs"] (defScope s_check_jobs) := ⟨rfl, rfl, rfl, by decide +kernel, rfl, by decide +kernel, by decide +kernel⟩
theorem sc_check_log : FnScope ["log", "before", "place", "pair"] ["log"] (defScope s_check_log) := ⟨rfl, rfl, rfl, by decide +kernel, rfl, by decide +kernel, by decide +kernel⟩
theorem sc_has_arrived : FnScope ["arrival", "moment", "finished", "limit"] ["arrival", "moment", "finished"] (defScope s_has_arrived) := ⟨rfl, rfl, rfl, by decide +kernel, rfl, by decide +kernel, by decide +kernel⟩
theorem sc_count_arrived : FnScope ["jobs", "moment", "finished", "job"] ["jobs", "moment", "finished"] (defScope s_count_arrived) := ⟨rfl, rfl, rfl, by decide +kernel, rfl, by decide +kernel, by decide +kernel⟩
theorem sc_present_in : FnScope ["jobs", "unit", "finished"] ["jobs", "unit", "finished"] (defScope s_present_in) := ⟨rfl, rfl, rfl, by decide +kernel, rfl, by decide +kernel, by decide +kernel⟩
theorem sc_first_fault : FnScope ["jobs", "log", "processors", "finished", "unit", "finishes", "running"] ["jobs", "log", "processors"] (defScope s_first_fault) := ⟨rfl, rfl, rfl, by decide +kernel, rfl, by decide +kernel, by decide +kernel⟩
theorem sc_law_right : FnScope ["jobs", "log", "cores", "fault", "caught", "found", "e", "due"] ["jobs", "log", "cores"] (defScope s_law_right) := ⟨rfl, rfl, rfl, by decide +kernel, rfl, by decide +kernel, by decide +kernel⟩
theorem sc_law_store : FnScope ["script", "mixed", "cell"] ["script"] (defScope s_law_store) := ⟨rfl, rfl, rfl, by decide +kernel, rfl, by decide +kernel, by decide +kernel⟩
theorem sc_law : FnScope ["script", "store", "turn", "jobs", "cores", "log", "some", "k", "bad"] ["script"] (defScope s_law) := ⟨rfl, rfl, rfl, by decide +kernel, rfl, by decide +kernel, by decide +kernel⟩
/-- what the top has written -/
structure Cs where
  K : PySem.W.Frag
  c_NoJobs : Addr
  c_NoLengths : Addr
  c_NoLine : Addr
  c_NoLog : Addr
  c_NoMarks : Addr
  c_NoName : Addr
  c_NoNamed : Addr
  c_NoNumber : Addr
  c_NoOrder : Addr
  c_NoRule : Addr
  c_NoText : Addr
  c_NoUndo : Addr
  c_SlotError : Addr
structure Tx (P : Program) (w : World) (mg : Str → Option Value) (base : Heap) (cs : Cs) : Prop where
  g_LETTERS : ∃ t, mg "LETTERS" = some (.str ("abcdefghijklmnopqrstuvwxyz" : Str) t)
  g_LONGEST_NAME : ∃ t, mg "LONGEST_NAME" = some (.int 8 t)
  g_MOST_ENTRY : ∃ t, mg "MOST_ENTRY" = some (.int 9 t)
  n_ValueError : mg "ValueError" = none
  n_all : mg "all" = none
  n_bool : mg "bool" = none
  n_enumerate : mg "enumerate" = none
  n_int : mg "int" = none
  n_isinstance : mg "isinstance" = none
  n_len : mg "len" = none
  n_list : mg "list" = none
  n_max : mg "max" = none
  n_min : mg "min" = none
  n_range : mg "range" = none
  n_str : mg "str" = none
  n_tuple : mg "tuple" = none
  c_NoJobs : mg "NoJobs" = some (.ref cs.c_NoJobs)
  c_NoLengths : mg "NoLengths" = some (.ref cs.c_NoLengths)
  c_NoLine : mg "NoLine" = some (.ref cs.c_NoLine)
  c_NoLog : mg "NoLog" = some (.ref cs.c_NoLog)
  c_NoMarks : mg "NoMarks" = some (.ref cs.c_NoMarks)
  c_NoName : mg "NoName" = some (.ref cs.c_NoName)
  c_NoNamed : mg "NoNamed" = some (.ref cs.c_NoNamed)
  c_NoNumber : mg "NoNumber" = some (.ref cs.c_NoNumber)
  c_NoOrder : mg "NoOrder" = some (.ref cs.c_NoOrder)
  c_NoRule : mg "NoRule" = some (.ref cs.c_NoRule)
  c_NoText : mg "NoText" = some (.ref cs.c_NoText)
  c_NoUndo : mg "NoUndo" = some (.ref cs.c_NoUndo)
  c_SlotError : mg "SlotError" = some (.ref cs.c_SlotError)
  x_NoJobs : ExI P w cs.K mg base 1 "NoJobs" cs.c_NoJobs "place" PvI
  x_NoLog : ExI P w cs.K mg base 1 "NoLog" cs.c_NoLog "place" PvI
def ads (cs : Cs) : Nat → Addr
  | 0 => cs.c_NoJobs
  | 1 => cs.c_NoRule
  | 2 => cs.c_NoLengths
  | 3 => cs.c_NoLog
  | 4 => cs.c_NoMarks
  | 5 => cs.c_NoNamed
  | 6 => cs.c_NoOrder
  | 7 => cs.c_NoText
  | 8 => cs.c_NoNumber
  | 9 => cs.c_NoName
  | 10 => cs.c_NoUndo
  | _ => cs.c_NoLine
structure Kx (cs : Cs) : Prop where
  kd_NoJobs : KindOf cs.K (ads cs) cs.c_SlotError cs.c_NoJobs 0
  xm_NoJobs_SlotError : PySem.W.exmOne cs.K (.ref cs.c_NoJobs) (.ref cs.c_SlotError) = some true
  kd_NoLog : KindOf cs.K (ads cs) cs.c_SlotError cs.c_NoLog 3
  xm_NoLog_SlotError : PySem.W.exmOne cs.K (.ref cs.c_NoLog) (.ref cs.c_SlotError) = some true
end Lw

set_option Elab.async false
set_option linter.all false
set_option maxRecDepth 100000
set_option maxHeartbeats 4000000
namespace Lw
open PySem PySem.Spec PyProof.Rows L2 DL
abbrev sp_law_mix (_ : Cs) : SpD := spMix
theorem len_law_mix {cs : Cs} : ∀ ds M Q E, sp_law_mix cs ds M Q E → ds.length = 2 := fun _ _ _ _ ⟨_, _, h, _⟩ => by rw [h]; rfl
abbrev sp_law_pick (_ : Cs) : SpD := spPick
theorem len_law_pick {cs : Cs} : ∀ ds M Q E, sp_law_pick cs ds M Q E → ds.length = 2 := fun _ _ _ _ ⟨_, _, _, h, _⟩ => by rw [h]; rfl
def isIntD : D → Int → Bool
  | .int i, l => decide (l ≤ i)
  | _, _ => false
def sp_is_integer (_ : Cs) : SpD := fun ds M Q E => ∃ (v : D) (l : Int), ds = [v, .int l] ∧ v.nr = true ∧ Q (.d (.bl (isIntD v l))) M
theorem len_is_integer {cs : Cs} : ∀ ds M Q E, sp_is_integer cs ds M Q E → ds.length = 2 := fun _ _ _ _ ⟨_, _, h, _⟩ => by rw [h]; rfl
theorem sp_is_integer_eq {cs : Cs} {M : MH} {Q : Sl → MH → Prop} {E : Addr → List (Str × D) → MH → Prop} {v : D} {l : Int} : sp_is_integer cs [v, .int l] M Q E = (v.nr = true ∧ Q (.d (.bl (isIntD v l))) M) :=
  propext ⟨fun ⟨_, _, h, q⟩ => by cases h; exact q, fun q => ⟨v, l, rfl, q⟩⟩
/-! ### what jobs are -/
def lets : List Nat := List.range' 97 26
def isNameD : D → Bool
  | .str s => decide (1 ≤ s.length ∧ s.length ≤ 8) && s.cps.toList.all fun c => decide (c ∈ lets)
  | _ => false
def isArrD : D → Bool
  | .tup [.str k, x] => if k = "at" then isIntD x 0 else decide (k = "after") && isIntD x 1
  | _ => false
def isDoorD : D → Bool
  | .int i => decide (0 ≤ i) && decide (i ≤ 9)
  | _ => false
def isJobD : D → Bool
  | .tup [n, a, e] => isNameD n && isArrD a && isDoorD e
  | _ => false
def fstD : D → D
  | .tup (x :: _) => x
  | _ => .non
def arrD : D → D
  | .tup [_, a, _] => a
  | _ => .non
def aftA : D → Bool
  | .tup [.str k, _] => !decide (k = "at")
  | _ => false
def numA : D → Int
  | .tup [_, .int m] => m
  | _ => 0
def befA (a : D) (n : Int) : Bool := !aftA a || decide (numA a < n)
def cntB (js : List D) (n : Int) : Nat := js.countP fun j => befA (arrD j) n
def f1 : List D → List D → Nat → Option Nat
  | [], _, _ => none
  | j :: r, seen, i => if (isJobD j && !(seen.any fun z => D.eq z (fstD j))) = true then f1 r (seen ++ [fstD j]) (i + 1) else some i
def f2 : List D → List D → Nat → Option Nat
  | [], _, _ => none
  | j :: r, all, i => if (aftA (arrD j) && decide ((cntB all (numA (arrD j)) : Int) < numA (arrD j))) = true then some i else f2 r all (i + 1)
def faultJ : D → D
  | .tup js => match f1 js [] 0 with
    | some i => .int i
    | none => match f2 js js 0 with
      | some i => .int i
      | none => .non
  | _ => .int 0
def FlatA (v : D) : Prop := ∀ n x y e, v = .tup [n, .tup [x, y], e] → flatD x = true
def WfJ (v : D) : Prop := v.fit = true ∧ ∀ js, v = .tup js → js.length ≤ 1000 ∧ ∀ j ∈ js, FlatA j
/-- valid jobs -/
structure JobsOk (js : List D) : Prop where
  job : ∀ j ∈ js, isJobD j = true
  nd : f1 js [] 0 = none
  wt : f2 js js 0 = none
/-! ### who has arrived -/
def hasA (a : D) (m f : Int) : Bool := decide (numA a ≤ if aftA a = true then f else m)
def cntArr (js : List D) (m f : Int) : Nat := js.countP fun j => hasA (arrD j) m f
/-- the same but for the moment of arrival -/
def Alike (j j' : D) : Prop := isJobD j' = true ∧ fstD j' = fstD j ∧ aftA (arrD j') = aftA (arrD j) ∧ (aftA (arrD j) = true → numA (arrD j') = numA (arrD j))
inductive FarL : List D → List D → Prop
  | nil : FarL [] []
  | cons {j j' : D} {r r' : List D} : Alike j j' → FarL r r' → FarL (j :: r) (j' :: r')
/-! ### what rules are -/
def isLevelD : D → Bool
  | .tup [a, b] => (D.eq (.str "queue") a || D.eq (.str "stack") a) && (isNon b || isIntD b 1)
  | _ => false
def firstBad : List D → Nat → Option Nat
  | [], _ => none
  | l :: r, i => if isLevelD l = true then firstBad r (i + 1) else some i
def faultR : D → D
  | .tup [.tup ls, boost] => if 1 ≤ ls.length ∧ ls.length ≤ 6 then (match firstBad ls 0 with
      | some i => .int i
      | none => if (DL.isNon boost || isIntD boost 1) = true then .non else .int ls.length) else .int 0
  | _ => .int 0
/-- data without references, of small depth -/
def Sm (n : Nat) (v : D) : Prop := v.nr = true ∧ v.dp ≤ n
def WfLevel (v : D) : Prop := Sm 4 v ∧ ∀ a b, v = .tup [a, b] → flatD a = true
def WfRule (v : D) : Prop := Sm 6 v ∧ ∀ ls b, v = .tup [.tup ls, b] → ∀ l ∈ ls, WfLevel l
/-- a quantum, a boost -/
def QuB (q : D) : Prop := q = .non ∨ ∃ i : Int, q = .int i ∧ 1 ≤ i ∧ i < 10 ^ 31
def LevB (l : D) : Prop := ∃ (k : Str) (q : D), l = .tup [.str k, q] ∧ (k = "queue" ∨ k = "stack") ∧ QuB q
/-- a valid rule -/
def RuleB (v : D) : Prop := ∃ ls b, v = .tup [.tup ls, b] ∧ 1 ≤ ls.length ∧ ls.length ≤ 6 ∧ (∀ l ∈ ls, LevB l) ∧ QuB b
/-! ### what logs are -/
def intD : D → Int
  | .int i => i
  | _ => 0
def isPairD (b : Int) : D → Bool
  | .tup [x, y] => isIntD x (b + 1) && isIntD y 1
  | _ => false
def uD : D → Int
  | .tup [x, _] => intD x
  | _ => 0
def flL : List D → Int → Nat → Option Nat
  | [], _, _ => none
  | p :: r, b, i => if isPairD b p = true then flL r (uD p) (i + 1) else some i
def faultL : D → D
  | .tup ls => match flL ls 0 0 with
    | some i => .int i
    | none => .non
  | _ => .int 0
abbrev Prs := List (Int × Int)
def prD (p : Int × Int) : D := .tup [.int p.1, .int p.2]
def logD (ps : Prs) : List D := ps.map prD
def Rise : Int → Prs → Prop
  | _, [] => True
  | b, p :: r => b + 1 ≤ p.1 ∧ 1 ≤ p.2 ∧ Rise p.1 r
/-- an element of a log, with bound B where it is two ints -/
def ElP (B : Int) (d : D) : Prop := Sm 3 d ∧ ∀ a b, d = .tup [.int a, .int b] → a ≤ B ∧ b ≤ B
def WfL (v : D) : Prop := Sm 5 v ∧ ∀ ls, v = .tup ls → ls.length ≤ 1000
def WfN (B : Int) (v : D) : Prop := Sm 5 v ∧ ∀ ls, v = .tup ls → ls.length ≤ 1000 ∧ ∀ d ∈ ls, ElP B d
/-- present jobs -/
def pres (js : List D) (u f : Int) : Int := (cntArr js (u - 1) f : Int) - f
/-- a possible log, as far as it goes -/
def LogRun (js : List D) (cores : Int) : Int → Prs → Prop
  | f, [] => f = js.length
  | f, p :: r => p.2 ≤ cores ∧ p.2 ≤ pres js p.1 f ∧ LogRun js cores (f + p.2) r
/-! stretches, the last one first -/
abbrev Row := Int × Int × Int
def addR : List Row → Int → Int → Int → List Row
  | [], a, l, p => [(a, l, p)]
  | (a', l', q) :: t, a, l, p => if q = p then (a', l, p) :: t else (a, l, p) :: (a', l', q) :: t
def rowD (r : Row) : D := .tup [.int r.1, .int r.2.1, .int r.2.2]
def rowsD (rs : List Row) : List D := rs.reverse.map rowD
def addU (js : List D) (f : Int) : Nat → Int → List Row → List Row
  | 0, _, rs => rs
  | n + 1, u, rs => addU js f n (u + 1) (addR rs u u (pres js u f))
def lastP : List Row → Int
  | (_, _, q) :: _ => q
  | [] => 0
inductive Due
  | bad (i : Nat)
  | rows (rs : List Row)
def dueL (js : List D) : Prs → Int → Int → Nat → List Row → Due
  | [], _, _, _, rs => .rows rs
  | p :: r, b, f, i, rs => if lastP (addU js f (p.1 - b).toNat (b + 1) rs) < p.2 then .bad i else dueL js r p.1 (f + p.2) (i + 1) (addU js f (p.1 - b).toNat (b + 1) rs)
def dueD : Due → D
  | .bad i => .int i
  | .rows rs => .tup (rowsD rs)
def sp_law_bad_log (_ : Cs) : SpD := fun ds M Q E => ∃ (a : Addr) (n : Nat) (ps : Prs) (B : Int), ds = [.ref a, .tup (logD ps)] ∧ StoreAt M a n ∧ n < 2 ^ 50 ∧ ps.length ≤ 900 ∧ 1 ≤ B ∧ (∀ p ∈ ps, p.1 ≤ B ∧ p.2 ≤ B) ∧
  ∀ v M', WfN (B + 1) v → (∀ ls, v = .tup ls → ls.length ≤ ps.length + 1) → StoreAt M' a (n + 10) → (∀ b, b ≠ a → M' b = M b) → Q (.d v) M'
theorem len_law_bad_log {cs : Cs} : ∀ ds M Q E, sp_law_bad_log cs ds M Q E → ds.length = 2 := fun _ _ _ _ ⟨_, _, _, _, h, _⟩ => by rw [h]; rfl
def spBefore : SpD := fun ds M Q E => ∃ (k : Str) (m n : Int), ds = [.tup [.str k, .int m], .int n] ∧ PyData.strOk k = true ∧ Q (.d (.bl (befA (.tup [.str k, .int m]) n))) M
theorem spBefore_eq {M : MH} {Q : Sl → MH → Prop} {E : Addr → List (Str × D) → MH → Prop} {k : Str} {m n : Int} : spBefore [.tup [.str k, .int m], .int n] M Q E = (PyData.strOk k = true ∧ Q (.d (.bl (befA (.tup [.str k, .int m]) n))) M) :=
  propext ⟨fun ⟨_, _, _, h, q⟩ => by cases h; exact q, fun q => ⟨k, m, n, rfl, q⟩⟩
abbrev sp_law_before (_ : Cs) : SpD := spBefore
theorem len_law_before {cs : Cs} : ∀ ds M Q E, sp_law_before cs ds M Q E → ds.length = 2 := fun _ _ _ _ ⟨_, _, _, h, _⟩ => by rw [h]; rfl
def wordOk (w : List Nat) : Prop := 1 ≤ w.length ∧ w.length ≤ 8 ∧ ∀ c ∈ w, c ∈ lets
def sp_law_names (_ : Cs) : SpD := fun ds M Q E => ∃ (a : Addr) (n : Nat) (count : Nat), ds = [.ref a, .int count] ∧ StoreAt M a n ∧ n < 2 ^ 50 ∧ count ≤ 40 ∧
  ∀ (ws : List (List Nat)) M', ws.length = count → ws.Nodup → (∀ w ∈ ws, wordOk w) → StoreAt M' a (n + 2000) → (∀ b, b ≠ a → M' b = M b) → Q (.own (ws.map fun w => .str (tx w))) M'
theorem len_law_names {cs : Cs} : ∀ ds M Q E, sp_law_names cs ds M Q E → ds.length = 2 := fun _ _ _ _ ⟨_, _, _, h, _⟩ => by rw [h]; rfl
def sp_law_jobs (_ : Cs) : SpD := fun ds M Q E => ∃ (a : Addr) (n : Nat) (most late : Nat), ds = [.ref a, .int most, .int late] ∧ StoreAt M a n ∧ n < 2 ^ 49 ∧ most ≤ 30 ∧ late < 1000000000 ∧
  ∀ (js : List D) M', JobsOk js → js.length ≤ most → (∀ j ∈ js, numA (arrD j) ≤ late + 40) → StoreAt M' a (n + 6000) → (∀ b, b ≠ a → M' b = M b) → Q (.d (.tup js)) M'
theorem len_law_jobs {cs : Cs} : ∀ ds M Q E, sp_law_jobs cs ds M Q E → ds.length = 3 := fun _ _ _ _ ⟨_, _, _, _, h, _⟩ => by rw [h]; rfl
def spPres : SpD := fun ds M Q E => ∃ (js : List D) (u f : Int), ds = [.tup js, .int u, .int f] ∧ (∀ j ∈ js, isJobD j = true) ∧ js.length ≤ 1000 ∧ Q (.d (.int (pres js u f))) M
theorem spPres_eq {M : MH} {Q : Sl → MH → Prop} {E : Addr → List (Str × D) → MH → Prop} {js : List D} {u f : Int} : spPres [.tup js, .int u, .int f] M Q E = ((∀ j ∈ js, isJobD j = true) ∧ js.length ≤ 1000 ∧ Q (.d (.int (pres js u f))) M) :=
  propext ⟨fun ⟨_, _, _, h, q⟩ => by cases h; exact q, fun q => ⟨js, u, f, rfl, q⟩⟩
def sp_law_present (_ : Cs) : SpD := spPres
theorem len_law_present {cs : Cs} : ∀ ds M Q E, sp_law_present cs ds M Q E → ds.length = 3 := fun _ _ _ _ ⟨_, _, _, h, _⟩ => by rw [h]; rfl
theorem sp_law_present_eq {cs : Cs} {M : MH} {Q : Sl → MH → Prop} {E : Addr → List (Str × D) → MH → Prop} {js : List D} {u f : Int} : sp_law_present cs [.tup js, .int u, .int f] M Q E = ((∀ j ∈ js, isJobD j = true) ∧ js.length ≤ 1000 ∧ Q (.d (.int (pres js u f))) M) := spPres_eq
def sp_law_log (_ : Cs) : SpD := fun ds M Q E => ∃ (a : Addr) (n : Nat) (js : List D) (cores late wide : Nat), ds = [.ref a, .tup js, .int cores, .int wide] ∧ StoreAt M a n ∧ n < 2 ^ 49 ∧ JobsOk js ∧ js.length ≤ 30 ∧ 1 ≤ cores ∧ cores ≤ 100 ∧ wide < 1000000 ∧ late < 1000000 ∧ (∀ j ∈ js, numA (arrD j) ≤ late) ∧
  ∀ (ps : Prs) M', Rise 0 ps → LogRun js cores 0 ps → ps.length ≤ js.length → (∀ p ∈ ps, p.1 ≤ late + 2 + (wide + 4) * js.length ∧ p.2 ≤ 100) → StoreAt M' a (n + 200) → (∀ b, b ≠ a → M' b = M b) → Q (.d (.tup (logD ps))) M'
theorem len_law_log {cs : Cs} : ∀ ds M Q E, sp_law_log cs ds M Q E → ds.length = 4 := fun _ _ _ _ ⟨_, _, _, _, _, _, h, _⟩ => by rw [h]; rfl
abbrev sp_law_is_int (cs : Cs) : SpD := sp_is_integer cs
theorem len_law_is_int {cs : Cs} : ∀ ds M Q E, sp_law_is_int cs ds M Q E → ds.length = 2 := len_is_integer
def sp_law_log_fault (_ : Cs) : SpD := fun ds M Q E => ∃ v : D, ds = [v] ∧ WfL v ∧ Q (.d (faultL v)) M
theorem len_law_log_fault {cs : Cs} : ∀ ds M Q E, sp_law_log_fault cs ds M Q E → ds.length = 1 := fun _ _ _ _ ⟨_, h, _⟩ => by rw [h]; rfl
theorem sp_law_log_fault_eq {cs : Cs} {M : MH} {Q : Sl → MH → Prop} {E : Addr → List (Str × D) → MH → Prop} {v : D} : sp_law_log_fault cs [v] M Q E = (WfL v ∧ Q (.d (faultL v)) M) :=
  propext ⟨fun ⟨_, h, q⟩ => by cases h; exact q, fun q => ⟨v, rfl, q⟩⟩
/-- the certificate -/
def certL (js : List D) (cores : Int) : Prs → Int → D
  | [], f => if f < js.length then .tup [.str "unfinished", .int (js.length - f)] else .non
  | p :: r, f => if min cores (pres js p.1 f) < p.2 then .tup [.str "crowded", .int p.1, .int (min cores (pres js p.1 f))] else certL js cores r (f + p.2)
def sp_law_certificate (_ : Cs) : SpD := fun ds M Q E => ∃ (js : List D) (ps : Prs) (cores : Int), ds = [.tup js, .tup (logD ps), .int cores] ∧ (∀ j ∈ js, isJobD j = true) ∧ js.length ≤ 1000 ∧ Q (.d (certL js cores ps 0)) M
theorem len_law_certificate {cs : Cs} : ∀ ds M Q E, sp_law_certificate cs ds M Q E → ds.length = 3 := fun _ _ _ _ ⟨_, _, _, h, _⟩ => by rw [h]; rfl
theorem sp_law_certificate_of {cs : Cs} {M : MH} {Q : Sl → MH → Prop} {E : Addr → List (Str × D) → MH → Prop} {js : List D} {ps : Prs} {cores : Int} (h1 : ∀ j ∈ js, isJobD j = true) (h2 : js.length ≤ 1000) (k : Q (.d (certL js cores ps 0)) M) : sp_law_certificate cs [.tup js, .tup (logD ps), .int cores] M Q E := ⟨js, ps, cores, rfl, h1, h2, k⟩
abbrev sp_law_kind (cs : Cs) : SpD := spKind cs.K (ads cs) cs.c_SlotError
theorem len_law_kind {cs : Cs} : ∀ ds M Q E, sp_law_kind cs ds M Q E → ds.length = 1 := fun _ _ _ _ ⟨_, _, _, _, _, h, _⟩ => by rw [h]; rfl
abbrev sp_comes_before (_ : Cs) : SpD := spBefore
theorem len_comes_before {cs : Cs} : ∀ ds M Q E, sp_comes_before cs ds M Q E → ds.length = 2 := fun _ _ _ _ ⟨_, _, _, h, _⟩ => by rw [h]; rfl

def sp_is_arrival (_ : Cs) : SpD := fun ds M Q E => ∃ v : D, ds = [v] ∧ v.fit = true ∧ Q (.d (.bl (isArrD v))) M
theorem len_is_arrival {cs : Cs} : ∀ ds M Q E, sp_is_arrival cs ds M Q E → ds.length = 1 := fun _ _ _ _ ⟨_, h, _⟩ => by rw [h]; rfl
theorem sp_is_arrival_eq {cs : Cs} {M : MH} {Q : Sl → MH → Prop} {E : Addr → List (Str × D) → MH → Prop} {v : D} : sp_is_arrival cs [v] M Q E = (v.fit = true ∧ Q (.d (.bl (isArrD v))) M) :=
  propext ⟨fun ⟨_, h, q⟩ => by cases h; exact q, fun q => ⟨v, rfl, q⟩⟩
def sp_is_name (_ : Cs) : SpD := fun ds M Q E => ∃ v : D, ds = [v] ∧ v.fit = true ∧ Q (.d (.bl (isNameD v))) M
theorem len_is_name {cs : Cs} : ∀ ds M Q E, sp_is_name cs ds M Q E → ds.length = 1 := fun _ _ _ _ ⟨_, h, _⟩ => by rw [h]; rfl
theorem sp_is_name_eq {cs : Cs} {M : MH} {Q : Sl → MH → Prop} {E : Addr → List (Str × D) → MH → Prop} {v : D} : sp_is_name cs [v] M Q E = (v.fit = true ∧ Q (.d (.bl (isNameD v))) M) :=
  propext ⟨fun ⟨_, h, q⟩ => by cases h; exact q, fun q => ⟨v, rfl, q⟩⟩
def sp_is_job (_ : Cs) : SpD := fun ds M Q E => ∃ v : D, ds = [v] ∧ v.fit = true ∧ Q (.d (.bl (isJobD v))) M
theorem len_is_job {cs : Cs} : ∀ ds M Q E, sp_is_job cs ds M Q E → ds.length = 1 := fun _ _ _ _ ⟨_, h, _⟩ => by rw [h]; rfl
theorem sp_is_job_eq {cs : Cs} {M : MH} {Q : Sl → MH → Prop} {E : Addr → List (Str × D) → MH → Prop} {v : D} : sp_is_job cs [v] M Q E = (v.fit = true ∧ Q (.d (.bl (isJobD v))) M) :=
  propext ⟨fun ⟨_, h, q⟩ => by cases h; exact q, fun q => ⟨v, rfl, q⟩⟩
def sp_check_jobs (cs : Cs) : SpD := fun ds M Q E => ∃ v : D, ds = [v] ∧ WfJ v ∧ (faultJ v = .non → Q (.d .non) M) ∧ (∀ k : Int, faultJ v = .int k → 0 ≤ k → k ≤ 1000 → E cs.c_NoJobs [("place", .int k)] M)
theorem len_check_jobs {cs : Cs} : ∀ ds M Q E, sp_check_jobs cs ds M Q E → ds.length = 1 := fun _ _ _ _ ⟨_, h, _⟩ => by rw [h]; rfl
theorem sp_check_jobs_eq {cs : Cs} {M : MH} {Q : Sl → MH → Prop} {E : Addr → List (Str × D) → MH → Prop} {v : D} : sp_check_jobs cs [v] M Q E = (WfJ v ∧ (faultJ v = .non → Q (.d .non) M) ∧ (∀ k : Int, faultJ v = .int k → 0 ≤ k → k ≤ 1000 → E cs.c_NoJobs [("place", .int k)] M)) :=
  propext ⟨fun ⟨_, h, q⟩ => by cases h; exact q, fun q => ⟨v, rfl, q⟩⟩
def sp_check_log (cs : Cs) : SpD := fun ds M Q E => ∃ v : D, ds = [v] ∧ WfL v ∧ (faultL v = .non → Q (.d .non) M) ∧ (∀ k : Int, faultL v = .int k → 0 ≤ k → k ≤ 1000 → E cs.c_NoLog [("place", .int k)] M)
theorem len_check_log {cs : Cs} : ∀ ds M Q E, sp_check_log cs ds M Q E → ds.length = 1 := fun _ _ _ _ ⟨_, h, _⟩ => by rw [h]; rfl
theorem sp_check_log_eq {cs : Cs} {M : MH} {Q : Sl → MH → Prop} {E : Addr → List (Str × D) → MH → Prop} {v : D} : sp_check_log cs [v] M Q E = (WfL v ∧ (faultL v = .non → Q (.d .non) M) ∧ (∀ k : Int, faultL v = .int k → 0 ≤ k → k ≤ 1000 → E cs.c_NoLog [("place", .int k)] M)) :=
  propext ⟨fun ⟨_, h, q⟩ => by cases h; exact q, fun q => ⟨v, rfl, q⟩⟩
def sp_has_arrived (_ : Cs) : SpD := fun ds M Q E => ∃ (k : Str) (x m f : Int), ds = [.tup [.str k, .int x], .int m, .int f] ∧ PyData.strOk k = true ∧ Q (.d (.bl (hasA (.tup [.str k, .int x]) m f))) M
theorem len_has_arrived {cs : Cs} : ∀ ds M Q E, sp_has_arrived cs ds M Q E → ds.length = 3 := fun _ _ _ _ ⟨_, _, _, _, h, _⟩ => by rw [h]; rfl
theorem sp_has_arrived_eq {cs : Cs} {M : MH} {Q : Sl → MH → Prop} {E : Addr → List (Str × D) → MH → Prop} {k : Str} {x m f : Int} : sp_has_arrived cs [.tup [.str k, .int x], .int m, .int f] M Q E = (PyData.strOk k = true ∧ Q (.d (.bl (hasA (.tup [.str k, .int x]) m f))) M) :=
  propext ⟨fun ⟨_, _, _, _, h, q⟩ => by cases h; exact q, fun q => ⟨k, x, m, f, rfl, q⟩⟩
def sp_count_arrived (_ : Cs) : SpD := fun ds M Q E => ∃ (js : List D) (m f : Int), ds = [.tup js, .int m, .int f] ∧ (∀ j ∈ js, isJobD j = true) ∧ js.length ≤ 1000 ∧ Q (.d (.int (cntArr js m f))) M
theorem len_count_arrived {cs : Cs} : ∀ ds M Q E, sp_count_arrived cs ds M Q E → ds.length = 3 := fun _ _ _ _ ⟨_, _, _, h, _⟩ => by rw [h]; rfl
theorem sp_count_arrived_eq {cs : Cs} {M : MH} {Q : Sl → MH → Prop} {E : Addr → List (Str × D) → MH → Prop} {js : List D} {m f : Int} : sp_count_arrived cs [.tup js, .int m, .int f] M Q E = ((∀ j ∈ js, isJobD j = true) ∧ js.length ≤ 1000 ∧ Q (.d (.int (cntArr js m f))) M) :=
  propext ⟨fun ⟨_, _, _, h, q⟩ => by cases h; exact q, fun q => ⟨js, m, f, rfl, q⟩⟩
def sp_present_in (_ : Cs) : SpD := spPres
theorem len_present_in {cs : Cs} : ∀ ds M Q E, sp_present_in cs ds M Q E → ds.length = 3 := fun _ _ _ _ ⟨_, _, _, h, _⟩ => by rw [h]; rfl
theorem sp_present_in_eq {cs : Cs} {M : MH} {Q : Sl → MH → Prop} {E : Addr → List (Str × D) → MH → Prop} {js : List D} {u f : Int} : sp_present_in cs [.tup js, .int u, .int f] M Q E = ((∀ j ∈ js, isJobD j = true) ∧ js.length ≤ 1000 ∧ Q (.d (.int (pres js u f))) M) := spPres_eq
def sp_first_fault (cs : Cs) : SpD := fun ds M Q E => ∃ (v w : D) (cores : Int), ds = [v, w, .int cores] ∧ WfJ v ∧ WfL w ∧
  (∀ k : Int, faultJ v = .int k → 0 ≤ k → k ≤ 1000 → E cs.c_NoJobs [("place", .int k)] M) ∧
  (faultJ v = .non → ∀ k : Int, faultL w = .int k → 0 ≤ k → k ≤ 1000 → E cs.c_NoLog [("place", .int k)] M) ∧
  (faultJ v = .non → faultL w = .non → ∀ js ps, v = .tup js → JobsOk js → w = .tup (logD ps) → Rise 0 ps → Q (.d (certL js cores ps 0)) M)
theorem len_first_fault {cs : Cs} : ∀ ds M Q E, sp_first_fault cs ds M Q E → ds.length = 3 := fun _ _ _ _ ⟨_, _, _, h, _⟩ => by rw [h]; rfl
theorem sp_first_fault_eq {cs : Cs} {M : MH} {Q : Sl → MH → Prop} {E : Addr → List (Str × D) → MH → Prop} {v w : D} {cores : Int} : sp_first_fault cs [v, w, .int cores] M Q E = (WfJ v ∧ WfL w ∧
  (∀ k : Int, faultJ v = .int k → 0 ≤ k → k ≤ 1000 → E cs.c_NoJobs [("place", .int k)] M) ∧
  (faultJ v = .non → ∀ k : Int, faultL w = .int k → 0 ≤ k → k ≤ 1000 → E cs.c_NoLog [("place", .int k)] M) ∧
  (faultJ v = .non → faultL w = .non → ∀ js ps, v = .tup js → JobsOk js → w = .tup (logD ps) → Rise 0 ps → Q (.d (certL js cores ps 0)) M)) :=
  propext ⟨fun ⟨_, _, _, h, q⟩ => by cases h; exact q, fun q => ⟨v, w, cores, rfl, q⟩⟩
def sp_law_right (_ : Cs) : SpD := fun ds M Q E => ∃ (js : List D) (v : D) (cores : Int), ds = [.tup js, v, .int cores] ∧ JobsOk js ∧ js.length ≤ 60 ∧ WfL v ∧ ∀ M', (∀ b o, M b = some o → M' b = some o) → Q (.d (.bl true)) M'
theorem len_law_right {cs : Cs} : ∀ ds M Q E, sp_law_right cs ds M Q E → ds.length = 3 := fun _ _ _ _ ⟨_, _, _, h, _⟩ => by rw [h]; rfl
theorem sp_law_right_of {cs : Cs} {M : MH} {Q : Sl → MH → Prop} {E : Addr → List (Str × D) → MH → Prop} {js : List D} {v : D} {cores : Int} (h1 : JobsOk js) (h2 : js.length ≤ 60) (h3 : WfL v) (k : ∀ M', (∀ b o, M b = some o → M' b = some o) → Q (.d (.bl true)) M') : sp_law_right cs [.tup js, v, .int cores] M Q E := ⟨js, v, cores, rfl, h1, h2, h3, k⟩
abbrev sp_law_store (_ : Cs) : SpD := spStore
theorem len_law_store {cs : Cs} : ∀ ds M Q E, sp_law_store cs ds M Q E → ds.length = 1 := fun _ _ _ _ ⟨_, h, _⟩ => by rw [h]; rfl
abbrev sp_law (_ : Cs) : SpD := spLawT
theorem len_law {cs : Cs} : ∀ ds M Q E, sp_law cs ds M Q E → ds.length = 1 := fun _ _ _ _ ⟨_, h, _⟩ => by rw [h]; rfl
end Lw

set_option Elab.async false
set_option linter.all false
set_option maxRecDepth 100000
set_option maxHeartbeats 4000000
namespace Lw
open PySem PySem.Spec PyProof.Rows L2 DL
def spk_first_fault_2 (cs : Cs) : SpD := fun ds M Q E => ∃ a0 a1 : D, ds = [a0, a1] ∧ sp_first_fault cs [a0, a1, (.int 1)] M Q E
@[simp ↓] theorem spk_first_fault_2_eq {cs : Cs} {M : MH} {Q : Sl → MH → Prop} {E : Addr → List (Str × D) → MH → Prop} {a0 a1 : D} : spk_first_fault_2 cs [a0, a1] M Q E = sp_first_fault cs [a0, a1, (.int 1)] M Q E := propext ⟨fun ⟨_, _, h, q⟩ => by cases h; exact q, fun q => ⟨_, _, rfl, q⟩⟩
def spk_first_fault_2_processors (cs : Cs) : SpD := fun ds M Q E => ∃ a0 a1 a2 : D, ds = [a0, a1, a2] ∧ sp_first_fault cs [a0, a1, a2] M Q E
@[simp ↓] theorem spk_first_fault_2_processors_eq {cs : Cs} {M : MH} {Q : Sl → MH → Prop} {E : Addr → List (Str × D) → MH → Prop} {a0 a1 a2 : D} : spk_first_fault_2_processors cs [a0, a1, a2] M Q E = sp_first_fault cs [a0, a1, a2] M Q E := propext ⟨fun ⟨_, _, _, h, q⟩ => by cases h; exact q, fun q => ⟨_, _, _, rfl, q⟩⟩
def td_law_mix (cs : Cs) : DP := (sSeq (sAsg (dBin fMod (dFz (dBin fAdd (dFz (dBin fAdd (dFz (dBin fAdd (dFz (dBin fMod (oPeek 0) (vC (.int 2147483629)))) (dFz (dBin fMul (dFz (dBin fMul (vC (.int 7919)) (oPeek 1))) (oPeek 1))))) (dFz (dBin fMul (vC (.int 104729)) (oPeek 1))))) (vC (.int 13)))) (vC (.int 2147483629))) 2) (sSeq (sAsg (dBin fMod (dFz (dBin fMul (dFz (dBin fMod (dFz (dBin fMul (oPeek 2) (oPeek 2))) (vC (.int 2147483587)))) (oPeek 2))) (vC (.int 2147483563))) 2) (sRet (dBin fDiv (dFz (dBin fMod (dFz (dBin fAdd (dFz (dBin fMul (oPeek 2) (vC (.int 40692)))) (oPeek 1))) (vC (.int 2147483399)))) (vC (.int 16))))))
theorem u_law_mix {cs : Cs} {E : DEnds} {δ : DS} {M : MH} : td_law_mix cs E δ M = (sSeq (sAsg (dBin fMod (dFz (dBin fAdd (dFz (dBin fAdd (dFz (dBin fAdd (dFz (dBin fMod (oPeek 0) (vC (.int 2147483629)))) (dFz (dBin fMul (dFz (dBin fMul (vC (.int 7919)) (oPeek 1))) (oPeek 1))))) (dFz (dBin fMul (vC (.int 104729)) (oPeek 1))))) (vC (.int 13)))) (vC (.int 2147483629))) 2) (sSeq (sAsg (dBin fMod (dFz (dBin fMul (dFz (dBin fMod (dFz (dBin fMul (oPeek 2) (oPeek 2))) (vC (.int 2147483587)))) (oPeek 2))) (vC (.int 2147483563))) 2) (sRet (dBin fDiv (dFz (dBin fMod (dFz (dBin fAdd (dFz (dBin fMul (oPeek 2) (vC (.int 40692)))) (oPeek 1))) (vC (.int 2147483399)))) (vC (.int 16)))))) E δ M := rfl
def td_law_pick (cs : Cs) : DP := (sSeq (sSetM (dFz (dBin fAdd (dFz (dBin fIx (oPeek 0) (vC (.int 4)))) (vC (.int 1)))) (vVar 0) (vC (.int 4))) (sSeq (sIf (tdAnd (dCmp fEq (dFz (dBin fIx (oPeek 0) (vC (.int 2)))) (vC (.int 0))) (dCmp fLt (dFz (dBin fIx (oPeek 0) (vC (.int 1)))) (dFz (dCB fLen (aCons (dFz (dBin fIx (oPeek 0) (vC (.int 0)))) aNil))))) (sSeq (sAsg (dBin fIx (dFz (dBin fIx (oPeek 0) (vC (.int 0)))) (dFz (dBin fIx (oPeek 0) (vC (.int 1))))) 2) (sSeq (sSetM (dFz (dBin fAdd (dFz (dBin fIx (oPeek 0) (vC (.int 1)))) (vC (.int 1)))) (vVar 0) (vC (.int 1))) (sSeq (sIf (dCmp fLt (oPeek 2) (dFz (dBin fPow (vC (.int 10)) (vC (.int 18))))) (sRet (dBin fMod (dFz (dCall (sp_law_mix cs) (aCons (vVar 2) (aCons (dFz (dBin fIx (oPeek 0) (vC (.int 4)))) aNil)))) (oPeek 1))) sNext) (sSetM (vVar 2) (vVar 0) (vC (.int 2)))))) sNext) (sSeq (sIf (dCmp fGt (dFz (dBin fIx (oPeek 0) (vC (.int 2)))) (vC (.int 0))) (sSeq (sAsg (dBin fMod (dFz (dBin fIx (oPeek 0) (vC (.int 2)))) (oPeek 1)) 3) (sSeq (sSetM (dFz (dBin fDiv (dFz (dBin fIx (oPeek 0) (vC (.int 2)))) (oPeek 1))) (vVar 0) (vC (.int 2))) (sRetV 3))) sNext) (sRet (dBin fMod (dFz (dCall (sp_law_mix cs) (aCons (dFz (dBin fIx (oPeek 0) (vC (.int 3)))) (aCons (dFz (dBin fIx (oPeek 0) (vC (.int 4)))) aNil)))) (oPeek 1))))))
theorem u_law_pick {cs : Cs} {E : DEnds} {δ : DS} {M : MH} : td_law_pick cs E δ M = (sSeq (sSetM (dFz (dBin fAdd (dFz (dBin fIx (oPeek 0) (vC (.int 4)))) (vC (.int 1)))) (vVar 0) (vC (.int 4))) (sSeq (sIf (tdAnd (dCmp fEq (dFz (dBin fIx (oPeek 0) (vC (.int 2)))) (vC (.int 0))) (dCmp fLt (dFz (dBin fIx (oPeek 0) (vC (.int 1)))) (dFz (dCB fLen (aCons (dFz (dBin fIx (oPeek 0) (vC (.int 0)))) aNil))))) (sSeq (sAsg (dBin fIx (dFz (dBin fIx (oPeek 0) (vC (.int 0)))) (dFz (dBin fIx (oPeek 0) (vC (.int 1))))) 2) (sSeq (sSetM (dFz (dBin fAdd (dFz (dBin fIx (oPeek 0) (vC (.int 1)))) (vC (.int 1)))) (vVar 0) (vC (.int 1))) (sSeq (sIf (dCmp fLt (oPeek 2) (dFz (dBin fPow (vC (.int 10)) (vC (.int 18))))) (sRet (dBin fMod (dFz (dCall (sp_law_mix cs) (aCons (vVar 2) (aCons (dFz (dBin fIx (oPeek 0) (vC (.int 4)))) aNil)))) (oPeek 1))) sNext) (sSetM (vVar 2) (vVar 0) (vC (.int 2)))))) sNext) (sSeq (sIf (dCmp fGt (dFz (dBin fIx (oPeek 0) (vC (.int 2)))) (vC (.int 0))) (sSeq (sAsg (dBin fMod (dFz (dBin fIx (oPeek 0) (vC (.int 2)))) (oPeek 1)) 3) (sSeq (sSetM (dFz (dBin fDiv (dFz (dBin fIx (oPeek 0) (vC (.int 2)))) (oPeek 1))) (vVar 0) (vC (.int 2))) (sRetV 3))) sNext) (sRet (dBin fMod (dFz (dCall (sp_law_mix cs) (aCons (dFz (dBin fIx (oPeek 0) (vC (.int 3)))) (aCons (dFz (dBin fIx (oPeek 0) (vC (.int 4)))) aNil)))) (oPeek 1)))))) E δ M := rfl
def td_law_bad_log (cs : Cs) : DP := (sSeq (sIf (dCmp fEq (oPeek 1) (dFz (dTup aNil))) (sRet (dBin fIx (dFz (dLst (aCons (dFz (dLst aNil)) (aCons (vC .non) (aCons (dFz (dTup (aCons (dFz (dTup (aCons (vC (.int 1)) (aCons (vC (.int 1)) aNil)))) aNil))) (aCons (dFz (dTup (aCons (dFz (dTup (aCons (vC (.int 0)) (aCons (vC (.int 1)) aNil)))) aNil))) (aCons (dFz (dTup (aCons (dFz (dTup (aCons (vC (.int 1)) (aCons (vC (.int 0)) aNil)))) aNil))) aNil))))))) (dFz (dCall (sp_law_pick cs) (aCons (vVar 0) (aCons (vC (.int 5)) aNil)))))) sNext) (sSeq (sAsg (dCall (sp_law_pick cs) (aCons (vVar 0) (aCons (dFz (dCB fLen (aCons (oPeek 1) aNil))) aNil))) 2) (sSeq (sAsgT (dFz (dBin fIx (oPeek 1) (oPeek 2))) (gTupD 2 (gConsD (gN 3) (gConsD (gN 4) gNilD)))) (sSeq (sAsg (dLst (aCons (dFz (dTup (aCons (vVar 3) (aCons (vC (.int 0)) aNil)))) (aCons (dFz (dTup (aCons (vVar 3) (aCons (dFz (dNeg (vC (.int 1)))) aNil)))) (aCons (dFz (dTup (aCons (vVar 3) (aCons (vC (.bl true)) aNil)))) (aCons (dFz (dTup (aCons (vC (.int 0)) (aCons (vVar 4) aNil)))) (aCons (dFz (dTup (aCons (vC (.bl true)) (aCons (vVar 4) aNil)))) (aCons (dFz (dTup (aCons (dFz (dNeg (vC (.int 1)))) (aCons (vVar 4) aNil)))) (aCons (dFz (dTup (aCons (vVar 3) aNil))) aNil)))))))) 5) (sSeq (sAsg (dBin fAdd (oPeek 5) (dFz (dLst (aCons (dFz (dLst (aCons (vVar 3) (aCons (vVar 4) aNil)))) (aCons (dFz (dTup (aCons (vVar 3) (aCons (vVar 4) (aCons (vC (.int 0)) aNil))))) (aCons (vC .non) (aCons (dFz (dTup (aCons (vVar 3) (aCons (vC .non) aNil)))) (aCons (dFz (dTup (aCons (vC (.str ("1" : Str))) (aCons (vVar 4) aNil)))) aNil)))))))) 5) (sSeq (sAsg (dBin fAdd (oPeek 5) (dFz (dLst (aCons (dFz (dTup (aCons (vVar 3) (aCons (dFz (dBin fAdd (oPeek 4) (vC (.int 1)))) aNil)))) (aCons (dFz (dTup (aCons (dFz (dBin fAdd (oPeek 3) (vC (.int 1)))) (aCons (vVar 4) aNil)))) aNil))))) 5) (sSeq (sAsg (dCall (sp_law_pick cs) (aCons (vVar 0) (aCons (vC (.int 5)) aNil))) 6) (sSeq (sIf (dCmp fEq (oPeek 6) (vC (.int 0))) (sRet (dBin fAdd (dFz (dSl fSl (oPeek 1) pNone (pSome (dVar 2)))) (dFz (dSl fSl (oPeek 1) (pSome (dBin fAdd (oPeek 2) (vC (.int 1)))) pNone)))) sNext) (sSeq (sIf (dCmp fEq (oPeek 6) (vC (.int 1))) (sRet (dBin fAdd (dFz (dBin fAdd (dFz (dSl fSl (oPeek 1) pNone (pSome (dVar 2)))) (dFz (dTup (aCons (dFz (dBin fIx (oPeek 1) (oPeek 2))) aNil))))) (dFz (dSl fSl (oPeek 1) (pSome (dVar 2)) pNone)))) sNext) (sSeq (sIf (dCmp fEq (oPeek 6) (vC (.int 2))) (sRet (dBin fIx (dFz (dLst (aCons (dFz (dCB fList (aCons (oPeek 1) aNil))) (aCons (dFz (dRev (oPeek 1))) (aCons (dFz (dBin fAdd (oPeek 1) (dFz (dTup (aCons (dFz (dTup (aCons (dFz (dBin fAdd (dFz (dBin fIx (dFz (dBin fIx (oPeek 1) (dFz (dNeg (vC (.int 1)))))) (vC (.int 0)))) (vC (.int 1)))) (aCons (vC (.int 1)) aNil)))) aNil))))) (aCons (dFz (dBin fAdd (dFz (dSl fSl (oPeek 1) (pSome (dC (.int 1))) pNone)) (dFz (dSl fSl (oPeek 1) pNone (pSome (dC (.int 1))))))) aNil)))))) (dFz (dCall (sp_law_pick cs) (aCons (vVar 0) (aCons (vC (.int 4)) aNil)))))) sNext) (sRet (dBin fAdd (dFz (dBin fAdd (dFz (dSl fSl (oPeek 1) pNone (pSome (dVar 2)))) (dFz (dTup (aCons (dFz (dBin fIx (oPeek 5) (dFz (dCall (sp_law_pick cs) (aCons (vVar 0) (aCons (vC (.int 14)) aNil)))))) aNil))))) (dFz (dSl fSl (oPeek 1) (pSome (dBin fAdd (oPeek 2) (vC (.int 1)))) pNone))))))))))))))
theorem u_law_bad_log {cs : Cs} {E : DEnds} {δ : DS} {M : MH} : td_law_bad_log cs E δ M = (sSeq (sIf (dCmp fEq (oPeek 1) (dFz (dTup aNil))) (sRet (dBin fIx (dFz (dLst (aCons (dFz (dLst aNil)) (aCons (vC .non) (aCons (dFz (dTup (aCons (dFz (dTup (aCons (vC (.int 1)) (aCons (vC (.int 1)) aNil)))) aNil))) (aCons (dFz (dTup (aCons (dFz (dTup (aCons (vC (.int 0)) (aCons (vC (.int 1)) aNil)))) aNil))) (aCons (dFz (dTup (aCons (dFz (dTup (aCons (vC (.int 1)) (aCons (vC (.int 0)) aNil)))) aNil))) aNil))))))) (dFz (dCall (sp_law_pick cs) (aCons (vVar 0) (aCons (vC (.int 5)) aNil)))))) sNext) (sSeq (sAsg (dCall (sp_law_pick cs) (aCons (vVar 0) (aCons (dFz (dCB fLen (aCons (oPeek 1) aNil))) aNil))) 2) (sSeq (sAsgT (dFz (dBin fIx (oPeek 1) (oPeek 2))) (gTupD 2 (gConsD (gN 3) (gConsD (gN 4) gNilD)))) (sSeq (sAsg (dLst (aCons (dFz (dTup (aCons (vVar 3) (aCons (vC (.int 0)) aNil)))) (aCons (dFz (dTup (aCons (vVar 3) (aCons (dFz (dNeg (vC (.int 1)))) aNil)))) (aCons (dFz (dTup (aCons (vVar 3) (aCons (vC (.bl true)) aNil)))) (aCons (dFz (dTup (aCons (vC (.int 0)) (aCons (vVar 4) aNil)))) (aCons (dFz (dTup (aCons (vC (.bl true)) (aCons (vVar 4) aNil)))) (aCons (dFz (dTup (aCons (dFz (dNeg (vC (.int 1)))) (aCons (vVar 4) aNil)))) (aCons (dFz (dTup (aCons (vVar 3) aNil))) aNil)))))))) 5) (sSeq (sAsg (dBin fAdd (oPeek 5) (dFz (dLst (aCons (dFz (dLst (aCons (vVar 3) (aCons (vVar 4) aNil)))) (aCons (dFz (dTup (aCons (vVar 3) (aCons (vVar 4) (aCons (vC (.int 0)) aNil))))) (aCons (vC .non) (aCons (dFz (dTup (aCons (vVar 3) (aCons (vC .non) aNil)))) (aCons (dFz (dTup (aCons (vC (.str ("1" : Str))) (aCons (vVar 4) aNil)))) aNil)))))))) 5) (sSeq (sAsg (dBin fAdd (oPeek 5) (dFz (dLst (aCons (dFz (dTup (aCons (vVar 3) (aCons (dFz (dBin fAdd (oPeek 4) (vC (.int 1)))) aNil)))) (aCons (dFz (dTup (aCons (dFz (dBin fAdd (oPeek 3) (vC (.int 1)))) (aCons (vVar 4) aNil)))) aNil))))) 5) (sSeq (sAsg (dCall (sp_law_pick cs) (aCons (vVar 0) (aCons (vC (.int 5)) aNil))) 6) (sSeq (sIf (dCmp fEq (oPeek 6) (vC (.int 0))) (sRet (dBin fAdd (dFz (dSl fSl (oPeek 1) pNone (pSome (dVar 2)))) (dFz (dSl fSl (oPeek 1) (pSome (dBin fAdd (oPeek 2) (vC (.int 1)))) pNone)))) sNext) (sSeq (sIf (dCmp fEq (oPeek 6) (vC (.int 1))) (sRet (dBin fAdd (dFz (dBin fAdd (dFz (dSl fSl (oPeek 1) pNone (pSome (dVar 2)))) (dFz (dTup (aCons (dFz (dBin fIx (oPeek 1) (oPeek 2))) aNil))))) (dFz (dSl fSl (oPeek 1) (pSome (dVar 2)) pNone)))) sNext) (sSeq (sIf (dCmp fEq (oPeek 6) (vC (.int 2))) (sRet (dBin fIx (dFz (dLst (aCons (dFz (dCB fList (aCons (oPeek 1) aNil))) (aCons (dFz (dRev (oPeek 1))) (aCons (dFz (dBin fAdd (oPeek 1) (dFz (dTup (aCons (dFz (dTup (aCons (dFz (dBin fAdd (dFz (dBin fIx (dFz (dBin fIx (oPeek 1) (dFz (dNeg (vC (.int 1)))))) (vC (.int 0)))) (vC (.int 1)))) (aCons (vC (.int 1)) aNil)))) aNil))))) (aCons (dFz (dBin fAdd (dFz (dSl fSl (oPeek 1) (pSome (dC (.int 1))) pNone)) (dFz (dSl fSl (oPeek 1) pNone (pSome (dC (.int 1))))))) aNil)))))) (dFz (dCall (sp_law_pick cs) (aCons (vVar 0) (aCons (vC (.int 4)) aNil)))))) sNext) (sRet (dBin fAdd (dFz (dBin fAdd (dFz (dSl fSl (oPeek 1) pNone (pSome (dVar 2)))) (dFz (dTup (aCons (dFz (dBin fIx (oPeek 5) (dFz (dCall (sp_law_pick cs) (aCons (vVar 0) (aCons (vC (.int 14)) aNil)))))) aNil))))) (dFz (dSl fSl (oPeek 1) (pSome (dBin fAdd (oPeek 2) (vC (.int 1)))) pNone)))))))))))))) E δ M := rfl
def td_law_before (cs : Cs) : DP := (sRet (dOr (dOfT (dCmp fEq (dFz (dBin fIx (oPeek 0) (vC (.int 0)))) (vC (.str ("at" : Str))))) (dOfT (dCmp fLt (dFz (dBin fIx (oPeek 0) (vC (.int 1)))) (oPeek 1)))))
theorem u_law_before {cs : Cs} {E : DEnds} {δ : DS} {M : MH} : td_law_before cs E δ M = (sRet (dOr (dOfT (dCmp fEq (dFz (dBin fIx (oPeek 0) (vC (.int 0)))) (vC (.str ("at" : Str))))) (dOfT (dCmp fLt (dFz (dBin fIx (oPeek 0) (vC (.int 1)))) (oPeek 1))))) E δ M := rfl
def td_law_names_R11 (cs : Cs) : DP := (sIf (dCmp fNotIn (oPeek 5) (oPeek 3)) (sAppOwn 3 (vVar 5)) sNext)
theorem u_law_names_R11 {cs : Cs} {E : DEnds} {δ : DS} {M : MH} : td_law_names_R11 cs E δ M = (sIf (dCmp fNotIn (oPeek 5) (oPeek 3)) (sAppOwn 3 (vVar 5)) sNext) E δ M := rfl
def td_law_names_R7 (cs : Cs) : DP := (sSeq (sIf (dCmp fGt (oPeek 4) (vC (.int 40))) (sAsg (dBin fAdd (dFz (dBin fAdd (dFz (dBin fIx (oPeek 2) (dFz (dBin fMod (oPeek 4) (vC (.int 26)))))) (vC (.str ("q" : Str))))) (dFz (dBin fIx (oPeek 2) (dFz (dBin fMod (dFz (dBin fDiv (oPeek 4) (vC (.int 26)))) (vC (.int 26))))))) 5) sNext) (td_law_names_R11 cs))
theorem u_law_names_R7 {cs : Cs} {E : DEnds} {δ : DS} {M : MH} : td_law_names_R7 cs E δ M = (sSeq (sIf (dCmp fGt (oPeek 4) (vC (.int 40))) (sAsg (dBin fAdd (dFz (dBin fAdd (dFz (dBin fIx (oPeek 2) (dFz (dBin fMod (oPeek 4) (vC (.int 26)))))) (vC (.str ("q" : Str))))) (dFz (dBin fIx (oPeek 2) (dFz (dBin fMod (dFz (dBin fDiv (oPeek 4) (vC (.int 26)))) (vC (.int 26))))))) 5) sNext) (td_law_names_R11 cs)) E δ M := rfl
def td_law_names_B4 (cs : Cs) : DP := (sSeq (sAsg (dBin fAdd (oPeek 4) (vC (.int 1))) 4) (sSeq (sAsg (dJn (vC (.str ("" : Str))) (dFz (dLc (iRange1 (aCons (dFz (dBin fAdd (vC (.int 1)) (dFz (dCall (sp_law_pick cs) (aCons (vVar 0) (aCons (vC (.int 8)) aNil)))))) aNil)) (gN 8) tdYes (dFz (dBin fIx (oPeek 2) (dFz (dCall (sp_law_pick cs) (aCons (vVar 0) (aCons (vC (.int 26)) aNil)))))) [8]))) 5) (sSeq (sIf (tdAnd (dCmp fNe (oPeek 3) (dFz (dLst aNil))) (dCmp fEq (dFz (dCall (sp_law_pick cs) (aCons (vVar 0) (aCons (vC (.int 2)) aNil)))) (vC (.int 0)))) (sSeq (sAsg (dBin fIx (oPeek 3) (dFz (dCall (sp_law_pick cs) (aCons (vVar 0) (aCons (dFz (dCB fLen (aCons (oPeek 3) aNil))) aNil))))) 6) (sSeq (sAsg (dCall (sp_law_pick cs) (aCons (vVar 0) (aCons (dFz (dCB fLen (aCons (oPeek 6) aNil))) aNil))) 7) (sAsg (dBin fAdd (dFz (dBin fAdd (dFz (dSl fSl (oPeek 6) pNone (pSome (dVar 7)))) (dFz (dBin fIx (oPeek 2) (dFz (dCall (sp_law_pick cs) (aCons (vVar 0) (aCons (vC (.int 26)) aNil)))))))) (dFz (dSl fSl (oPeek 6) (pSome (dBin fAdd (oPeek 7) (vC (.int 1)))) pNone))) 5))) sNext) (td_law_names_R7 cs))))
theorem u_law_names_B4 {cs : Cs} {E : DEnds} {δ : DS} {M : MH} : td_law_names_B4 cs E δ M = (sSeq (sAsg (dBin fAdd (oPeek 4) (vC (.int 1))) 4) (sSeq (sAsg (dJn (vC (.str ("" : Str))) (dFz (dLc (iRange1 (aCons (dFz (dBin fAdd (vC (.int 1)) (dFz (dCall (sp_law_pick cs) (aCons (vVar 0) (aCons (vC (.int 8)) aNil)))))) aNil)) (gN 8) tdYes (dFz (dBin fIx (oPeek 2) (dFz (dCall (sp_law_pick cs) (aCons (vVar 0) (aCons (vC (.int 26)) aNil)))))) [8]))) 5) (sSeq (sIf (tdAnd (dCmp fNe (oPeek 3) (dFz (dLst aNil))) (dCmp fEq (dFz (dCall (sp_law_pick cs) (aCons (vVar 0) (aCons (vC (.int 2)) aNil)))) (vC (.int 0)))) (sSeq (sAsg (dBin fIx (oPeek 3) (dFz (dCall (sp_law_pick cs) (aCons (vVar 0) (aCons (dFz (dCB fLen (aCons (oPeek 3) aNil))) aNil))))) 6) (sSeq (sAsg (dCall (sp_law_pick cs) (aCons (vVar 0) (aCons (dFz (dCB fLen (aCons (oPeek 6) aNil))) aNil))) 7) (sAsg (dBin fAdd (dFz (dBin fAdd (dFz (dSl fSl (oPeek 6) pNone (pSome (dVar 7)))) (dFz (dBin fIx (oPeek 2) (dFz (dCall (sp_law_pick cs) (aCons (vVar 0) (aCons (vC (.int 26)) aNil)))))))) (dFz (dSl fSl (oPeek 6) (pSome (dBin fAdd (oPeek 7) (vC (.int 1)))) pNone))) 5))) sNext) (td_law_names_R7 cs)))) E δ M := rfl
def td_law_names_L4 (cs : Cs) : DP := (sWhile (dCmp fLt (dFz (dCB fLen (aCons (oPeek 3) aNil))) (oPeek 1)) (td_law_names_B4 cs))
theorem u_law_names_L4 {cs : Cs} {E : DEnds} {δ : DS} {M : MH} : td_law_names_L4 cs E δ M = (sWhile (dCmp fLt (dFz (dCB fLen (aCons (oPeek 3) aNil))) (oPeek 1)) (td_law_names_B4 cs)) E δ M := rfl
def td_law_names_R4 (cs : Cs) : DP := (sRetV 3)
theorem u_law_names_R4 {cs : Cs} {E : DEnds} {δ : DS} {M : MH} : td_law_names_R4 cs E δ M = (sRetV 3) E δ M := rfl
def td_law_names (cs : Cs) : DP := (sSeq (sAsg (dC (.str ("abcdefghijklmnopqrstuvwxyz" : Str))) 2) (sSeq (sAsg (dLst aNil) 3) (sSeq (sAsg (dC (.int 0)) 4) (sSeq (td_law_names_L4 cs) (td_law_names_R4 cs)))))
theorem u_law_names {cs : Cs} {E : DEnds} {δ : DS} {M : MH} : td_law_names cs E δ M = (sSeq (sAsg (dC (.str ("abcdefghijklmnopqrstuvwxyz" : Str))) 2) (sSeq (sAsg (dLst aNil) 3) (sSeq (sAsg (dC (.int 0)) 4) (sSeq (td_law_names_L4 cs) (td_law_names_R4 cs))))) E δ M := rfl
def td_law_jobs_B3 (cs : Cs) : DP := (sSeq (sAsg (dBin fIx (dFz (dLst (aCons (vC (.int 0)) (aCons (dFz (dCall (sp_law_pick cs) (aCons (vVar 0) (aCons (vC (.int 4)) aNil)))) (aCons (dFz (dCall (sp_law_pick cs) (aCons (vVar 0) (aCons (dFz (dBin fAdd (oPeek 2) (vC (.int 1)))) aNil)))) aNil))))) (dFz (dCall (sp_law_pick cs) (aCons (vVar 0) (aCons (vC (.int 3)) aNil))))) 6) (sAppOwn 4 (dFz (dBin fIx (dFz (dLst (aCons (dFz (dTup (aCons (vC (.str ("at" : Str))) (aCons (vVar 6) aNil)))) (aCons (dFz (dTup (aCons (vC (.str ("at" : Str))) (aCons (vVar 6) aNil)))) (aCons (dFz (dTup (aCons (vC (.str ("after" : Str))) (aCons (dFz (dBin fAdd (vC (.int 1)) (dFz (dCall (sp_law_pick cs) (aCons (vVar 0) (aCons (vVar 3) aNil)))))) aNil)))) aNil))))) (dFz (dCall (sp_law_pick cs) (aCons (vVar 0) (aCons (vC (.int 3)) aNil))))))))
theorem u_law_jobs_B3 {cs : Cs} {E : DEnds} {δ : DS} {M : MH} : td_law_jobs_B3 cs E δ M = (sSeq (sAsg (dBin fIx (dFz (dLst (aCons (vC (.int 0)) (aCons (dFz (dCall (sp_law_pick cs) (aCons (vVar 0) (aCons (vC (.int 4)) aNil)))) (aCons (dFz (dCall (sp_law_pick cs) (aCons (vVar 0) (aCons (dFz (dBin fAdd (oPeek 2) (vC (.int 1)))) aNil)))) aNil))))) (dFz (dCall (sp_law_pick cs) (aCons (vVar 0) (aCons (vC (.int 3)) aNil))))) 6) (sAppOwn 4 (dFz (dBin fIx (dFz (dLst (aCons (dFz (dTup (aCons (vC (.str ("at" : Str))) (aCons (vVar 6) aNil)))) (aCons (dFz (dTup (aCons (vC (.str ("at" : Str))) (aCons (vVar 6) aNil)))) (aCons (dFz (dTup (aCons (vC (.str ("after" : Str))) (aCons (dFz (dBin fAdd (vC (.int 1)) (dFz (dCall (sp_law_pick cs) (aCons (vVar 0) (aCons (vVar 3) aNil)))))) aNil)))) aNil))))) (dFz (dCall (sp_law_pick cs) (aCons (vVar 0) (aCons (vC (.int 3)) aNil)))))))) E δ M := rfl
def td_law_jobs_L3 (cs : Cs) : DP := (sFor (iRange1 (aCons (vVar 3) aNil)) (gN 5) (td_law_jobs_B3 cs))
theorem u_law_jobs_L3 {cs : Cs} {E : DEnds} {δ : DS} {M : MH} : td_law_jobs_L3 cs E δ M = (sFor (iRange1 (aCons (vVar 3) aNil)) (gN 5) (td_law_jobs_B3 cs)) E δ M := rfl
def td_law_jobs_B6 (cs : Cs) : DP := (sSeq (sAsgT (dFz (dBin fIx (oPeek 4) (oPeek 5))) (gTupD 2 (gConsD (gN 7) (gConsD (gN 8) gNilD)))) (sSeq (sAsg (dLc (iPk 4) (gN 13) (dB (dCall (sp_law_before cs) (aCons (vVar 13) (aCons (vVar 8) aNil)))) (vVar 13) [13]) 9) (sIf (tdAnd (dCmp fEq (oPeek 7) (vC (.str ("after" : Str)))) (dCmp fLt (dFz (dCB fLen (aCons (oPeek 9) aNil))) (oPeek 8))) (fun E δ M => (∃ xs, δ[4]? = some (some (.own xs))) ∧ sSet (dFz (dTup (aCons (vC (.str ("at" : Str))) (aCons (dFz (dCall (sp_law_pick cs) (aCons (vVar 0) (aCons (dFz (dBin fAdd (oPeek 2) (vC (.int 1)))) aNil)))) aNil)))) 4 (vVar 5) E δ M) sNext)))
theorem u_law_jobs_B6 {cs : Cs} {E : DEnds} {δ : DS} {M : MH} : td_law_jobs_B6 cs E δ M = (sSeq (sAsgT (dFz (dBin fIx (oPeek 4) (oPeek 5))) (gTupD 2 (gConsD (gN 7) (gConsD (gN 8) gNilD)))) (sSeq (sAsg (dLc (iPk 4) (gN 13) (dB (dCall (sp_law_before cs) (aCons (vVar 13) (aCons (vVar 8) aNil)))) (vVar 13) [13]) 9) (sIf (tdAnd (dCmp fEq (oPeek 7) (vC (.str ("after" : Str)))) (dCmp fLt (dFz (dCB fLen (aCons (oPeek 9) aNil))) (oPeek 8))) (fun E δ M => (∃ xs, δ[4]? = some (some (.own xs))) ∧ sSet (dFz (dTup (aCons (vC (.str ("at" : Str))) (aCons (dFz (dCall (sp_law_pick cs) (aCons (vVar 0) (aCons (dFz (dBin fAdd (oPeek 2) (vC (.int 1)))) aNil)))) aNil)))) 4 (vVar 5) E δ M) sNext))) E δ M := rfl
def td_law_jobs_L6 (cs : Cs) : DP := (sFor (iRange1 (aCons (vVar 3) aNil)) (gN 5) (td_law_jobs_B6 cs))
theorem u_law_jobs_L6 {cs : Cs} {E : DEnds} {δ : DS} {M : MH} : td_law_jobs_L6 cs E δ M = (sFor (iRange1 (aCons (vVar 3) aNil)) (gN 5) (td_law_jobs_B6 cs)) E δ M := rfl
def td_law_jobs_B12 (cs : Cs) : DP := (sSeq (sAsg (dBin fIx (dFz (dLst (aCons (vC (.int 0)) (aCons (vC (.int 0)) (aCons (dFz (dCall (sp_law_pick cs) (aCons (vVar 0) (aCons (vC (.int 10)) aNil)))) aNil))))) (dFz (dCall (sp_law_pick cs) (aCons (vVar 0) (aCons (vC (.int 3)) aNil))))) 12) (sAppOwn 10 (dFz (dTup (aCons (vVar 11) (aCons (dFz (dBin fIx (oPeek 4) (dFz (dCB fLen (aCons (oPeek 10) aNil))))) (aCons (vVar 12) aNil)))))))
theorem u_law_jobs_B12 {cs : Cs} {E : DEnds} {δ : DS} {M : MH} : td_law_jobs_B12 cs E δ M = (sSeq (sAsg (dBin fIx (dFz (dLst (aCons (vC (.int 0)) (aCons (vC (.int 0)) (aCons (dFz (dCall (sp_law_pick cs) (aCons (vVar 0) (aCons (vC (.int 10)) aNil)))) aNil))))) (dFz (dCall (sp_law_pick cs) (aCons (vVar 0) (aCons (vC (.int 3)) aNil))))) 12) (sAppOwn 10 (dFz (dTup (aCons (vVar 11) (aCons (dFz (dBin fIx (oPeek 4) (dFz (dCB fLen (aCons (oPeek 10) aNil))))) (aCons (vVar 12) aNil))))))) E δ M := rfl
def td_law_jobs_L12 (cs : Cs) : DP := (sFor (iAny (dFz (dCall (sp_law_names cs) (aCons (vVar 0) (aCons (vVar 3) aNil))))) (gN 11) (td_law_jobs_B12 cs))
theorem u_law_jobs_L12 {cs : Cs} {E : DEnds} {δ : DS} {M : MH} : td_law_jobs_L12 cs E δ M = (sFor (iAny (dFz (dCall (sp_law_names cs) (aCons (vVar 0) (aCons (vVar 3) aNil))))) (gN 11) (td_law_jobs_B12 cs)) E δ M := rfl
def td_law_jobs_R12 (cs : Cs) : DP := (sRet (dCB fTuple (aCons (oPeek 10) aNil)))
theorem u_law_jobs_R12 {cs : Cs} {E : DEnds} {δ : DS} {M : MH} : td_law_jobs_R12 cs E δ M = (sRet (dCB fTuple (aCons (oPeek 10) aNil))) E δ M := rfl
def td_law_jobs_R6 (cs : Cs) : DP := (sSeq (sAsg (dLst aNil) 10) (sSeq (td_law_jobs_L12 cs) (td_law_jobs_R12 cs)))
theorem u_law_jobs_R6 {cs : Cs} {E : DEnds} {δ : DS} {M : MH} : td_law_jobs_R6 cs E δ M = (sSeq (sAsg (dLst aNil) 10) (sSeq (td_law_jobs_L12 cs) (td_law_jobs_R12 cs))) E δ M := rfl
def td_law_jobs_R3 (cs : Cs) : DP := (sSeq (td_law_jobs_L6 cs) (td_law_jobs_R6 cs))
theorem u_law_jobs_R3 {cs : Cs} {E : DEnds} {δ : DS} {M : MH} : td_law_jobs_R3 cs E δ M = (sSeq (td_law_jobs_L6 cs) (td_law_jobs_R6 cs)) E δ M := rfl
def td_law_jobs (cs : Cs) : DP := (sSeq (sAsg (dCall (sp_law_pick cs) (aCons (vVar 0) (aCons (dFz (dBin fAdd (oPeek 1) (vC (.int 1)))) aNil))) 3) (sSeq (sAsg (dLst aNil) 4) (sSeq (td_law_jobs_L3 cs) (td_law_jobs_R3 cs))))
theorem u_law_jobs {cs : Cs} {E : DEnds} {δ : DS} {M : MH} : td_law_jobs cs E δ M = (sSeq (sAsg (dCall (sp_law_pick cs) (aCons (vVar 0) (aCons (dFz (dBin fAdd (oPeek 1) (vC (.int 1)))) aNil))) 3) (sSeq (sAsg (dLst aNil) 4) (sSeq (td_law_jobs_L3 cs) (td_law_jobs_R3 cs)))) E δ M := rfl
def td_law_present_B2 (cs : Cs) : DP := (sAsg (dBin fAdd (oPeek 3) (dFz (dCB fIntU (aCons (dFz (dOfT (dCmp fLe (dFz (dBin fIx (oPeek 5) (vC (.int 1)))) (dFz (dBin fIx (dFz (dLst (aCons (dFz (dBin fSub (oPeek 1) (vC (.int 1)))) (aCons (vVar 2) aNil)))) (dFz (dCB fIntU (aCons (dFz (dOfT (dCmp fEq (dFz (dBin fIx (oPeek 5) (vC (.int 0)))) (vC (.str ("after" : Str)))))) aNil)))))))) aNil)))) 3)
theorem u_law_present_B2 {cs : Cs} {E : DEnds} {δ : DS} {M : MH} : td_law_present_B2 cs E δ M = (sAsg (dBin fAdd (oPeek 3) (dFz (dCB fIntU (aCons (dFz (dOfT (dCmp fLe (dFz (dBin fIx (oPeek 5) (vC (.int 1)))) (dFz (dBin fIx (dFz (dLst (aCons (dFz (dBin fSub (oPeek 1) (vC (.int 1)))) (aCons (vVar 2) aNil)))) (dFz (dCB fIntU (aCons (dFz (dOfT (dCmp fEq (dFz (dBin fIx (oPeek 5) (vC (.int 0)))) (vC (.str ("after" : Str)))))) aNil)))))))) aNil)))) 3) E δ M := rfl
def td_law_present_L2 (cs : Cs) : DP := (sFor (iAny (vVar 0)) (gTupD 3 (gConsD (gN 4) (gConsD (gN 5) (gConsD (gN 6) gNilD)))) (td_law_present_B2 cs))
theorem u_law_present_L2 {cs : Cs} {E : DEnds} {δ : DS} {M : MH} : td_law_present_L2 cs E δ M = (sFor (iAny (vVar 0)) (gTupD 3 (gConsD (gN 4) (gConsD (gN 5) (gConsD (gN 6) gNilD)))) (td_law_present_B2 cs)) E δ M := rfl
def td_law_present_R2 (cs : Cs) : DP := (sRet (dBin fSub (oPeek 3) (oPeek 2)))
theorem u_law_present_R2 {cs : Cs} {E : DEnds} {δ : DS} {M : MH} : td_law_present_R2 cs E δ M = (sRet (dBin fSub (oPeek 3) (oPeek 2))) E δ M := rfl
def td_law_present (cs : Cs) : DP := (sSeq (sAsg (dC (.int 0)) 3) (sSeq (td_law_present_L2 cs) (td_law_present_R2 cs)))
theorem u_law_present {cs : Cs} {E : DEnds} {δ : DS} {M : MH} : td_law_present cs E δ M = (sSeq (sAsg (dC (.int 0)) 3) (sSeq (td_law_present_L2 cs) (td_law_present_R2 cs))) E δ M := rfl
def td_law_log_R6 (cs : Cs) : DP := (sSeq (sAsg (dBin fAdd (oPeek 6) (dFz (dBin fIx (dFz (dLst (aCons (vC (.int 0)) (aCons (dFz (dCall (sp_law_pick cs) (aCons (vVar 0) (aCons (vC (.int 3)) aNil)))) (aCons (dFz (dCall (sp_law_pick cs) (aCons (vVar 0) (aCons (dFz (dBin fAdd (oPeek 3) (vC (.int 1)))) aNil)))) aNil))))) (dFz (dCall (sp_law_pick cs) (aCons (vVar 0) (aCons (vC (.int 3)) aNil))))))) 6) (sSeq (sAsg (dCB fMin2 (aCons (oPeek 2) (aCons (dFz (dCall (sp_law_present cs) (aCons (vVar 1) (aCons (vVar 6) (aCons (vVar 5) aNil))))) aNil))) 8) (sSeq (sAsg (dBin fIx (dFz (dLst (aCons (vVar 8) (aCons (dFz (dBin fAdd (vC (.int 1)) (dFz (dCall (sp_law_pick cs) (aCons (vVar 0) (aCons (vVar 8) aNil)))))) aNil)))) (dFz (dCall (sp_law_pick cs) (aCons (vVar 0) (aCons (vC (.int 2)) aNil))))) 9) (sSeq (sAppOwn 4 (dFz (dTup (aCons (vVar 6) (aCons (vVar 9) aNil))))) (sSeq (sAsg (dBin fAdd (oPeek 5) (oPeek 9)) 5) (sAsg (dBin fAdd (oPeek 6) (vC (.int 1))) 6))))))
theorem u_law_log_R6 {cs : Cs} {E : DEnds} {δ : DS} {M : MH} : td_law_log_R6 cs E δ M = (sSeq (sAsg (dBin fAdd (oPeek 6) (dFz (dBin fIx (dFz (dLst (aCons (vC (.int 0)) (aCons (dFz (dCall (sp_law_pick cs) (aCons (vVar 0) (aCons (vC (.int 3)) aNil)))) (aCons (dFz (dCall (sp_law_pick cs) (aCons (vVar 0) (aCons (dFz (dBin fAdd (oPeek 3) (vC (.int 1)))) aNil)))) aNil))))) (dFz (dCall (sp_law_pick cs) (aCons (vVar 0) (aCons (vC (.int 3)) aNil))))))) 6) (sSeq (sAsg (dCB fMin2 (aCons (oPeek 2) (aCons (dFz (dCall (sp_law_present cs) (aCons (vVar 1) (aCons (vVar 6) (aCons (vVar 5) aNil))))) aNil))) 8) (sSeq (sAsg (dBin fIx (dFz (dLst (aCons (vVar 8) (aCons (dFz (dBin fAdd (vC (.int 1)) (dFz (dCall (sp_law_pick cs) (aCons (vVar 0) (aCons (vVar 8) aNil)))))) aNil)))) (dFz (dCall (sp_law_pick cs) (aCons (vVar 0) (aCons (vC (.int 2)) aNil))))) 9) (sSeq (sAppOwn 4 (dFz (dTup (aCons (vVar 6) (aCons (vVar 9) aNil))))) (sSeq (sAsg (dBin fAdd (oPeek 5) (oPeek 9)) 5) (sAsg (dBin fAdd (oPeek 6) (vC (.int 1))) 6)))))) E δ M := rfl
def td_law_log_B4 (cs : Cs) : DP := (sSeq (sAsg (dLc (iPk 1) (gTupD 3 (gConsD (gN 10) (gConsD (gN 11) (gConsD (gN 12) gNilD)))) (tdAnd (dCmp fEq (dFz (dBin fIx (oPeek 11) (vC (.int 0)))) (vC (.str ("at" : Str)))) (dCmp fGe (dFz (dBin fIx (oPeek 11) (vC (.int 1)))) (oPeek 6))) (dFz (dBin fIx (oPeek 11) (vC (.int 1)))) [10, 11, 12]) 7) (sSeq (sIf (dCmp fEq (dFz (dCall (sp_law_present cs) (aCons (vVar 1) (aCons (vVar 6) (aCons (vVar 5) aNil))))) (vC (.int 0))) (sAsg (dBin fAdd (dFz (dCB fMinL (aCons (oPeek 7) aNil))) (vC (.int 1))) 6) sNext) (td_law_log_R6 cs)))
theorem u_law_log_B4 {cs : Cs} {E : DEnds} {δ : DS} {M : MH} : td_law_log_B4 cs E δ M = (sSeq (sAsg (dLc (iPk 1) (gTupD 3 (gConsD (gN 10) (gConsD (gN 11) (gConsD (gN 12) gNilD)))) (tdAnd (dCmp fEq (dFz (dBin fIx (oPeek 11) (vC (.int 0)))) (vC (.str ("at" : Str)))) (dCmp fGe (dFz (dBin fIx (oPeek 11) (vC (.int 1)))) (oPeek 6))) (dFz (dBin fIx (oPeek 11) (vC (.int 1)))) [10, 11, 12]) 7) (sSeq (sIf (dCmp fEq (dFz (dCall (sp_law_present cs) (aCons (vVar 1) (aCons (vVar 6) (aCons (vVar 5) aNil))))) (vC (.int 0))) (sAsg (dBin fAdd (dFz (dCB fMinL (aCons (oPeek 7) aNil))) (vC (.int 1))) 6) sNext) (td_law_log_R6 cs))) E δ M := rfl
def td_law_log_L4 (cs : Cs) : DP := (sWhile (dCmp fLt (oPeek 5) (dFz (dCB fLen (aCons (oPeek 1) aNil)))) (td_law_log_B4 cs))
theorem u_law_log_L4 {cs : Cs} {E : DEnds} {δ : DS} {M : MH} : td_law_log_L4 cs E δ M = (sWhile (dCmp fLt (oPeek 5) (dFz (dCB fLen (aCons (oPeek 1) aNil)))) (td_law_log_B4 cs)) E δ M := rfl
def td_law_log_R4 (cs : Cs) : DP := (sRet (dCB fTuple (aCons (oPeek 4) aNil)))
theorem u_law_log_R4 {cs : Cs} {E : DEnds} {δ : DS} {M : MH} : td_law_log_R4 cs E δ M = (sRet (dCB fTuple (aCons (oPeek 4) aNil))) E δ M := rfl
def td_law_log (cs : Cs) : DP := (sSeq (sAsg (dLst aNil) 4) (sSeq (sAsg (dC (.int 0)) 5) (sSeq (sAsg (dC (.int 1)) 6) (sSeq (td_law_log_L4 cs) (td_law_log_R4 cs)))))
theorem u_law_log {cs : Cs} {E : DEnds} {δ : DS} {M : MH} : td_law_log cs E δ M = (sSeq (sAsg (dLst aNil) 4) (sSeq (sAsg (dC (.int 0)) 5) (sSeq (sAsg (dC (.int 1)) 6) (sSeq (td_law_log_L4 cs) (td_law_log_R4 cs))))) E δ M := rfl
def td_law_is_int (cs : Cs) : DP := (sRet (dAnd (dOfT (dIsi .int (oPeek 0))) (dAnd (dNot (dOfT (dIsi .bool (oPeek 0)))) (dOfT (dCmp fGe (oPeek 0) (oPeek 1))))))
theorem u_law_is_int {cs : Cs} {E : DEnds} {δ : DS} {M : MH} : td_law_is_int cs E δ M = (sRet (dAnd (dOfT (dIsi .int (oPeek 0))) (dAnd (dNot (dOfT (dIsi .bool (oPeek 0)))) (dOfT (dCmp fGe (oPeek 0) (oPeek 1)))))) E δ M := rfl
def td_law_log_fault_B4 (cs : Cs) : DP := (sSeq (sIf (tdOr (tdNot (dIsi .tuple (oPeek 3))) (dCmp fNe (dFz (dCB fLen (aCons (oPeek 3) aNil))) (vC (.int 2)))) (sRetV 2) sNext) (sSeq (sIf (tdOr (tdNot (dB (dCall (sp_law_is_int cs) (aCons (dFz (dBin fIx (oPeek 3) (vC (.int 0)))) (aCons (dFz (dBin fAdd (oPeek 1) (vC (.int 1)))) aNil))))) (tdNot (dB (dCall (sp_law_is_int cs) (aCons (dFz (dBin fIx (oPeek 3) (vC (.int 1)))) (aCons (vC (.int 1)) aNil)))))) (sRetV 2) sNext) (sAsg (dBin fIx (oPeek 3) (vC (.int 0))) 1)))
theorem u_law_log_fault_B4 {cs : Cs} {E : DEnds} {δ : DS} {M : MH} : td_law_log_fault_B4 cs E δ M = (sSeq (sIf (tdOr (tdNot (dIsi .tuple (oPeek 3))) (dCmp fNe (dFz (dCB fLen (aCons (oPeek 3) aNil))) (vC (.int 2)))) (sRetV 2) sNext) (sSeq (sIf (tdOr (tdNot (dB (dCall (sp_law_is_int cs) (aCons (dFz (dBin fIx (oPeek 3) (vC (.int 0)))) (aCons (dFz (dBin fAdd (oPeek 1) (vC (.int 1)))) aNil))))) (tdNot (dB (dCall (sp_law_is_int cs) (aCons (dFz (dBin fIx (oPeek 3) (vC (.int 1)))) (aCons (vC (.int 1)) aNil)))))) (sRetV 2) sNext) (sAsg (dBin fIx (oPeek 3) (vC (.int 0))) 1))) E δ M := rfl
def td_law_log_fault_L4 (cs : Cs) : DP := (sFor (iEnumD (aCons (vVar 0) aNil)) (gTupD 2 (gConsD (gN 2) (gConsD (gN 3) gNilD))) (td_law_log_fault_B4 cs))
theorem u_law_log_fault_L4 {cs : Cs} {E : DEnds} {δ : DS} {M : MH} : td_law_log_fault_L4 cs E δ M = (sFor (iEnumD (aCons (vVar 0) aNil)) (gTupD 2 (gConsD (gN 2) (gConsD (gN 3) gNilD))) (td_law_log_fault_B4 cs)) E δ M := rfl
def td_law_log_fault_R4 (cs : Cs) : DP := (sRet (dC .non))
theorem u_law_log_fault_R4 {cs : Cs} {E : DEnds} {δ : DS} {M : MH} : td_law_log_fault_R4 cs E δ M = (sRet (dC .non)) E δ M := rfl
def td_law_log_fault (cs : Cs) : DP := (sSeq (sIf (tdNot (dIsi .tuple (oPeek 0))) (sRet (dC (.int 0))) sNext) (sSeq (sAsg (dC (.int 0)) 1) (sSeq (td_law_log_fault_L4 cs) (td_law_log_fault_R4 cs))))
theorem u_law_log_fault {cs : Cs} {E : DEnds} {δ : DS} {M : MH} : td_law_log_fault cs E δ M = (sSeq (sIf (tdNot (dIsi .tuple (oPeek 0))) (sRet (dC (.int 0))) sNext) (sSeq (sAsg (dC (.int 0)) 1) (sSeq (td_law_log_fault_L4 cs) (td_law_log_fault_R4 cs)))) E δ M := rfl
def td_law_certificate_B2 (cs : Cs) : DP := (sSeq (sAsg (dCB fMin2 (aCons (oPeek 2) (aCons (dFz (dCall (sp_law_present cs) (aCons (vVar 0) (aCons (vVar 4) (aCons (vVar 3) aNil))))) aNil))) 6) (sSeq (sIf (dCmp fGt (oPeek 5) (oPeek 6)) (sRet (dTup (aCons (vC (.str ("crowded" : Str))) (aCons (vVar 4) (aCons (vVar 6) aNil))))) sNext) (sAsg (dBin fAdd (oPeek 3) (oPeek 5)) 3)))
theorem u_law_certificate_B2 {cs : Cs} {E : DEnds} {δ : DS} {M : MH} : td_law_certificate_B2 cs E δ M = (sSeq (sAsg (dCB fMin2 (aCons (oPeek 2) (aCons (dFz (dCall (sp_law_present cs) (aCons (vVar 0) (aCons (vVar 4) (aCons (vVar 3) aNil))))) aNil))) 6) (sSeq (sIf (dCmp fGt (oPeek 5) (oPeek 6)) (sRet (dTup (aCons (vC (.str ("crowded" : Str))) (aCons (vVar 4) (aCons (vVar 6) aNil))))) sNext) (sAsg (dBin fAdd (oPeek 3) (oPeek 5)) 3))) E δ M := rfl
def td_law_certificate_L2 (cs : Cs) : DP := (sFor (iAny (vVar 1)) (gTupD 2 (gConsD (gN 4) (gConsD (gN 5) gNilD))) (td_law_certificate_B2 cs))
theorem u_law_certificate_L2 {cs : Cs} {E : DEnds} {δ : DS} {M : MH} : td_law_certificate_L2 cs E δ M = (sFor (iAny (vVar 1)) (gTupD 2 (gConsD (gN 4) (gConsD (gN 5) gNilD))) (td_law_certificate_B2 cs)) E δ M := rfl
def td_law_certificate_R2 (cs : Cs) : DP := (sSeq (sIf (dCmp fLt (oPeek 3) (dFz (dCB fLen (aCons (oPeek 0) aNil)))) (sRet (dTup (aCons (vC (.str ("unfinished" : Str))) (aCons (dFz (dBin fSub (dFz (dCB fLen (aCons (oPeek 0) aNil))) (oPeek 3))) aNil)))) sNext) (sRet (dC .non)))
theorem u_law_certificate_R2 {cs : Cs} {E : DEnds} {δ : DS} {M : MH} : td_law_certificate_R2 cs E δ M = (sSeq (sIf (dCmp fLt (oPeek 3) (dFz (dCB fLen (aCons (oPeek 0) aNil)))) (sRet (dTup (aCons (vC (.str ("unfinished" : Str))) (aCons (dFz (dBin fSub (dFz (dCB fLen (aCons (oPeek 0) aNil))) (oPeek 3))) aNil)))) sNext) (sRet (dC .non))) E δ M := rfl
def td_law_certificate (cs : Cs) : DP := (sSeq (sAsg (dC (.int 0)) 3) (sSeq (td_law_certificate_L2 cs) (td_law_certificate_R2 cs)))
theorem u_law_certificate {cs : Cs} {E : DEnds} {δ : DS} {M : MH} : td_law_certificate cs E δ M = (sSeq (sAsg (dC (.int 0)) 3) (sSeq (td_law_certificate_L2 cs) (td_law_certificate_R2 cs))) E δ M := rfl
def td_law_kind (cs : Cs) : DP := (sSeq (sAsg (dLst (aCons (dFz (dOfT (dIsX (IsxC cs.K (.ref cs.c_NoJobs)) (oPeek 0)))) (aCons (dFz (dOfT (dIsX (IsxC cs.K (.ref cs.c_NoRule)) (oPeek 0)))) (aCons (dFz (dOfT (dIsX (IsxC cs.K (.ref cs.c_NoLengths)) (oPeek 0)))) aNil)))) 1) (sSeq (sAsg (dBin fAdd (oPeek 1) (dFz (dLst (aCons (dFz (dOfT (dIsX (IsxC cs.K (.ref cs.c_NoLog)) (oPeek 0)))) (aCons (dFz (dOfT (dIsX (IsxC cs.K (.ref cs.c_NoMarks)) (oPeek 0)))) (aCons (dFz (dOfT (dIsX (IsxC cs.K (.ref cs.c_NoNamed)) (oPeek 0)))) aNil)))))) 1) (sSeq (sAsg (dBin fAdd (oPeek 1) (dFz (dLst (aCons (dFz (dOfT (dIsX (IsxC cs.K (.ref cs.c_NoOrder)) (oPeek 0)))) (aCons (dFz (dOfT (dIsX (IsxC cs.K (.ref cs.c_NoText)) (oPeek 0)))) (aCons (dFz (dOfT (dIsX (IsxC cs.K (.ref cs.c_NoNumber)) (oPeek 0)))) aNil)))))) 1) (sSeq (sAsg (dBin fAdd (oPeek 1) (dFz (dLst (aCons (dFz (dOfT (dIsX (IsxC cs.K (.ref cs.c_NoName)) (oPeek 0)))) (aCons (dFz (dOfT (dIsX (IsxC cs.K (.ref cs.c_NoUndo)) (oPeek 0)))) (aCons (dFz (dOfT (dIsX (IsxC cs.K (.ref cs.c_NoLine)) (oPeek 0)))) aNil)))))) 1) (sSeq (sIf (tdOr (tdNot (dIsX (IsxC cs.K (.ref cs.c_SlotError)) (oPeek 0))) (tdOr (tdNot (dIsX (IsxC cs.K (.type "ValueError")) (oPeek 0))) (dCmp fNe (dFz (dM "list" fCnt (oPeek 1) (aCons (vC (.bl true)) aNil))) (vC (.int 1))))) (sRet (dTup (aCons (vC (.str ("other" : Str))) (aCons (vC (.int 0)) aNil)))) sNext) (sSeq (sAsg (dM "list" fIdx (oPeek 1) (aCons (vC (.bl true)) aNil)) 2) (sSeq (sIf (dCmp fLt (oPeek 2) (vC (.int 7))) (sRet (dTup (aCons (dFz (dBin fIx (dFz (dLst (aCons (vC (.str ("jobs" : Str))) (aCons (vC (.str ("rule" : Str))) (aCons (vC (.str ("lengths" : Str))) (aCons (vC (.str ("log" : Str))) (aCons (vC (.str ("marks" : Str))) (aCons (vC (.str ("named" : Str))) (aCons (vC (.str ("order" : Str))) aNil))))))))) (oPeek 2))) (aCons (dFz (dXk ("place" : Str) (XkC cs.K ("place" : Str)) (oPeek 0))) aNil)))) sNext) (sSeq (sIf (dCmp fEq (oPeek 2) (vC (.int 7))) (sRet (dTup (aCons (vC (.str ("text" : Str))) (aCons (dFz (dXk ("row" : Str) (XkC cs.K ("row" : Str)) (oPeek 0))) aNil)))) sNext) (sSeq (sIf (dCmp fEq (oPeek 2) (vC (.int 8))) (sRet (dTup (aCons (vC (.str ("number" : Str))) (aCons (dFz (dXk ("number" : Str) (XkC cs.K ("number" : Str)) (oPeek 0))) aNil)))) sNext) (sSeq (sIf (dCmp fEq (oPeek 2) (vC (.int 9))) (sRet (dTup (aCons (vC (.str ("name" : Str))) (aCons (dFz (dXk ("name" : Str) (XkC cs.K ("name" : Str)) (oPeek 0))) aNil)))) sNext) (sRet (dTup (aCons (dFz (dBin fIx (dFz (dLst (aCons (vC (.str ("undo" : Str))) (aCons (vC (.str ("line" : Str))) aNil)))) (dFz (dBin fSub (oPeek 2) (vC (.int 10)))))) (aCons (vC (.int 0)) aNil))))))))))))))
theorem u_law_kind {cs : Cs} {E : DEnds} {δ : DS} {M : MH} : td_law_kind cs E δ M = (sSeq (sAsg (dLst (aCons (dFz (dOfT (dIsX (IsxC cs.K (.ref cs.c_NoJobs)) (oPeek 0)))) (aCons (dFz (dOfT (dIsX (IsxC cs.K (.ref cs.c_NoRule)) (oPeek 0)))) (aCons (dFz (dOfT (dIsX (IsxC cs.K (.ref cs.c_NoLengths)) (oPeek 0)))) aNil)))) 1) (sSeq (sAsg (dBin fAdd (oPeek 1) (dFz (dLst (aCons (dFz (dOfT (dIsX (IsxC cs.K (.ref cs.c_NoLog)) (oPeek 0)))) (aCons (dFz (dOfT (dIsX (IsxC cs.K (.ref cs.c_NoMarks)) (oPeek 0)))) (aCons (dFz (dOfT (dIsX (IsxC cs.K (.ref cs.c_NoNamed)) (oPeek 0)))) aNil)))))) 1) (sSeq (sAsg (dBin fAdd (oPeek 1) (dFz (dLst (aCons (dFz (dOfT (dIsX (IsxC cs.K (.ref cs.c_NoOrder)) (oPeek 0)))) (aCons (dFz (dOfT (dIsX (IsxC cs.K (.ref cs.c_NoText)) (oPeek 0)))) (aCons (dFz (dOfT (dIsX (IsxC cs.K (.ref cs.c_NoNumber)) (oPeek 0)))) aNil)))))) 1) (sSeq (sAsg (dBin fAdd (oPeek 1) (dFz (dLst (aCons (dFz (dOfT (dIsX (IsxC cs.K (.ref cs.c_NoName)) (oPeek 0)))) (aCons (dFz (dOfT (dIsX (IsxC cs.K (.ref cs.c_NoUndo)) (oPeek 0)))) (aCons (dFz (dOfT (dIsX (IsxC cs.K (.ref cs.c_NoLine)) (oPeek 0)))) aNil)))))) 1) (sSeq (sIf (tdOr (tdNot (dIsX (IsxC cs.K (.ref cs.c_SlotError)) (oPeek 0))) (tdOr (tdNot (dIsX (IsxC cs.K (.type "ValueError")) (oPeek 0))) (dCmp fNe (dFz (dM "list" fCnt (oPeek 1) (aCons (vC (.bl true)) aNil))) (vC (.int 1))))) (sRet (dTup (aCons (vC (.str ("other" : Str))) (aCons (vC (.int 0)) aNil)))) sNext) (sSeq (sAsg (dM "list" fIdx (oPeek 1) (aCons (vC (.bl true)) aNil)) 2) (sSeq (sIf (dCmp fLt (oPeek 2) (vC (.int 7))) (sRet (dTup (aCons (dFz (dBin fIx (dFz (dLst (aCons (vC (.str ("jobs" : Str))) (aCons (vC (.str ("rule" : Str))) (aCons (vC (.str ("lengths" : Str))) (aCons (vC (.str ("log" : Str))) (aCons (vC (.str ("marks" : Str))) (aCons (vC (.str ("named" : Str))) (aCons (vC (.str ("order" : Str))) aNil))))))))) (oPeek 2))) (aCons (dFz (dXk ("place" : Str) (XkC cs.K ("place" : Str)) (oPeek 0))) aNil)))) sNext) (sSeq (sIf (dCmp fEq (oPeek 2) (vC (.int 7))) (sRet (dTup (aCons (vC (.str ("text" : Str))) (aCons (dFz (dXk ("row" : Str) (XkC cs.K ("row" : Str)) (oPeek 0))) aNil)))) sNext) (sSeq (sIf (dCmp fEq (oPeek 2) (vC (.int 8))) (sRet (dTup (aCons (vC (.str ("number" : Str))) (aCons (dFz (dXk ("number" : Str) (XkC cs.K ("number" : Str)) (oPeek 0))) aNil)))) sNext) (sSeq (sIf (dCmp fEq (oPeek 2) (vC (.int 9))) (sRet (dTup (aCons (vC (.str ("name" : Str))) (aCons (dFz (dXk ("name" : Str) (XkC cs.K ("name" : Str)) (oPeek 0))) aNil)))) sNext) (sRet (dTup (aCons (dFz (dBin fIx (dFz (dLst (aCons (vC (.str ("undo" : Str))) (aCons (vC (.str ("line" : Str))) aNil)))) (dFz (dBin fSub (oPeek 2) (vC (.int 10)))))) (aCons (vC (.int 0)) aNil)))))))))))))) E δ M := rfl
def td_comes_before (cs : Cs) : DP := (sRet (dOr (dOfT (dCmp fEq (dFz (dBin fIx (oPeek 0) (vC (.int 0)))) (vC (.str ("at" : Str))))) (dOfT (dCmp fLt (dFz (dBin fIx (oPeek 0) (vC (.int 1)))) (oPeek 1)))))
theorem u_comes_before {cs : Cs} {E : DEnds} {δ : DS} {M : MH} : td_comes_before cs E δ M = (sRet (dOr (dOfT (dCmp fEq (dFz (dBin fIx (oPeek 0) (vC (.int 0)))) (vC (.str ("at" : Str))))) (dOfT (dCmp fLt (dFz (dBin fIx (oPeek 0) (vC (.int 1)))) (oPeek 1))))) E δ M := rfl
def td_is_integer (cs : Cs) : DP := (sRet (dAnd (dOfT (dIsi .int (oPeek 0))) (dAnd (dNot (dOfT (dIsi .bool (oPeek 0)))) (dOfT (dCmp fGe (oPeek 0) (oPeek 1))))))
theorem u_is_integer {cs : Cs} {E : DEnds} {δ : DS} {M : MH} : td_is_integer cs E δ M = (sRet (dAnd (dOfT (dIsi .int (oPeek 0))) (dAnd (dNot (dOfT (dIsi .bool (oPeek 0)))) (dOfT (dCmp fGe (oPeek 0) (oPeek 1)))))) E δ M := rfl
def td_is_arrival (cs : Cs) : DP := (sSeq (sIf (tdOr (tdNot (dIsi .tuple (oPeek 0))) (tdOr (dCmp fNe (dFz (dCB fLen (aCons (oPeek 0) aNil))) (vC (.int 2))) (tdNot (dIsi .str (dFz (dBin fIx (oPeek 0) (vC (.int 0)))))))) (sRet (dC (.bl false))) sNext) (sSeq (sIf (dCmp fEq (dFz (dBin fIx (oPeek 0) (vC (.int 0)))) (vC (.str ("at" : Str)))) (sRet (dCall (sp_is_integer cs) (aCons (dFz (dBin fIx (oPeek 0) (vC (.int 1)))) (aCons (vC (.int 0)) aNil)))) sNext) (sRet (dAnd (dOfT (dCmp fEq (dFz (dBin fIx (oPeek 0) (vC (.int 0)))) (vC (.str ("after" : Str))))) (dCall (sp_is_integer cs) (aCons (dFz (dBin fIx (oPeek 0) (vC (.int 1)))) (aCons (vC (.int 1)) aNil)))))))
theorem u_is_arrival {cs : Cs} {E : DEnds} {δ : DS} {M : MH} : td_is_arrival cs E δ M = (sSeq (sIf (tdOr (tdNot (dIsi .tuple (oPeek 0))) (tdOr (dCmp fNe (dFz (dCB fLen (aCons (oPeek 0) aNil))) (vC (.int 2))) (tdNot (dIsi .str (dFz (dBin fIx (oPeek 0) (vC (.int 0)))))))) (sRet (dC (.bl false))) sNext) (sSeq (sIf (dCmp fEq (dFz (dBin fIx (oPeek 0) (vC (.int 0)))) (vC (.str ("at" : Str)))) (sRet (dCall (sp_is_integer cs) (aCons (dFz (dBin fIx (oPeek 0) (vC (.int 1)))) (aCons (vC (.int 0)) aNil)))) sNext) (sRet (dAnd (dOfT (dCmp fEq (dFz (dBin fIx (oPeek 0) (vC (.int 0)))) (vC (.str ("after" : Str))))) (dCall (sp_is_integer cs) (aCons (dFz (dBin fIx (oPeek 0) (vC (.int 1)))) (aCons (vC (.int 1)) aNil))))))) E δ M := rfl
def td_is_name (cs : Cs) : DP := (sSeq (sIf (tdOr (tdNot (dIsi .str (oPeek 0))) (tdNot (dChain fLe fLe (vC (.int 1)) (dFz (dCB fLen (aCons (oPeek 0) aNil))) (vC (.int 8))))) (sRet (dC (.bl false))) sNext) (sRet (dCB fAll (aCons (dFz (dLc (iPk 0) (gN 1) tdYes (dFz (dOfT (dCmp fIn (oPeek 1) (vC (.str ("abcdefghijklmnopqrstuvwxyz" : Str)))))) [1])) aNil))))
theorem u_is_name {cs : Cs} {E : DEnds} {δ : DS} {M : MH} : td_is_name cs E δ M = (sSeq (sIf (tdOr (tdNot (dIsi .str (oPeek 0))) (tdNot (dChain fLe fLe (vC (.int 1)) (dFz (dCB fLen (aCons (oPeek 0) aNil))) (vC (.int 8))))) (sRet (dC (.bl false))) sNext) (sRet (dCB fAll (aCons (dFz (dLc (iPk 0) (gN 1) tdYes (dFz (dOfT (dCmp fIn (oPeek 1) (vC (.str ("abcdefghijklmnopqrstuvwxyz" : Str)))))) [1])) aNil)))) E δ M := rfl
def td_is_job (cs : Cs) : DP := (sSeq (sIf (tdOr (tdNot (dIsi .tuple (oPeek 0))) (dCmp fNe (dFz (dCB fLen (aCons (oPeek 0) aNil))) (vC (.int 3)))) (sRet (dC (.bl false))) sNext) (sSeq (sAsgT (vVar 0) (gTupD 3 (gConsD (gN 1) (gConsD (gN 2) (gConsD (gN 3) gNilD))))) (sRet (dAnd (dCall (sp_is_name cs) (aCons (vVar 1) aNil)) (dAnd (dCall (sp_is_arrival cs) (aCons (vVar 2) aNil)) (dAnd (dCall (sp_is_integer cs) (aCons (vVar 3) (aCons (vC (.int 0)) aNil))) (dOfT (dCmp fLe (oPeek 3) (vC (.int 9))))))))))
theorem u_is_job {cs : Cs} {E : DEnds} {δ : DS} {M : MH} : td_is_job cs E δ M = (sSeq (sIf (tdOr (tdNot (dIsi .tuple (oPeek 0))) (dCmp fNe (dFz (dCB fLen (aCons (oPeek 0) aNil))) (vC (.int 3)))) (sRet (dC (.bl false))) sNext) (sSeq (sAsgT (vVar 0) (gTupD 3 (gConsD (gN 1) (gConsD (gN 2) (gConsD (gN 3) gNilD))))) (sRet (dAnd (dCall (sp_is_name cs) (aCons (vVar 1) aNil)) (dAnd (dCall (sp_is_arrival cs) (aCons (vVar 2) aNil)) (dAnd (dCall (sp_is_integer cs) (aCons (vVar 3) (aCons (vC (.int 0)) aNil))) (dOfT (dCmp fLe (oPeek 3) (vC (.int 9)))))))))) E δ M := rfl
def td_check_jobs_B4 (cs : Cs) : DP := (sSeq (sIf (tdOr (tdNot (dB (dCall (sp_is_job cs) (aCons (vVar 3) aNil)))) (dCmp fIn (dFz (dBin fIx (oPeek 3) (vC (.int 0)))) (oPeek 1))) (sRaise cs.c_NoJobs ("place" : Str) PrI (vVar 2)) sNext) (sAppOwn 1 (dFz (dBin fIx (oPeek 3) (vC (.int 0))))))
theorem u_check_jobs_B4 {cs : Cs} {E : DEnds} {δ : DS} {M : MH} : td_check_jobs_B4 cs E δ M = (sSeq (sIf (tdOr (tdNot (dB (dCall (sp_is_job cs) (aCons (vVar 3) aNil)))) (dCmp fIn (dFz (dBin fIx (oPeek 3) (vC (.int 0)))) (oPeek 1))) (sRaise cs.c_NoJobs ("place" : Str) PrI (vVar 2)) sNext) (sAppOwn 1 (dFz (dBin fIx (oPeek 3) (vC (.int 0)))))) E δ M := rfl
def td_check_jobs_L4 (cs : Cs) : DP := (sFor (iEnumD (aCons (vVar 0) aNil)) (gTupD 2 (gConsD (gN 2) (gConsD (gN 3) gNilD))) (td_check_jobs_B4 cs))
theorem u_check_jobs_L4 {cs : Cs} {E : DEnds} {δ : DS} {M : MH} : td_check_jobs_L4 cs E δ M = (sFor (iEnumD (aCons (vVar 0) aNil)) (gTupD 2 (gConsD (gN 2) (gConsD (gN 3) gNilD))) (td_check_jobs_B4 cs)) E δ M := rfl
def td_check_jobs_B8 (cs : Cs) : DP := (sIf (dCmp fEq (dFz (dBin fIx (oPeek 5) (vC (.int 0)))) (vC (.str ("after" : Str)))) (sSeq (sAsg (dLc (iPk 0) (gN 3) (dB (dCall (sp_comes_before cs) (aCons (dFz (dBin fIx (oPeek 3) (vC (.int 1)))) (aCons (dFz (dBin fIx (oPeek 5) (vC (.int 1)))) aNil)))) (vVar 3) [3]) 7) (sIf (dCmp fLt (dFz (dCB fLen (aCons (oPeek 7) aNil))) (dFz (dBin fIx (oPeek 5) (vC (.int 1))))) (sRaise cs.c_NoJobs ("place" : Str) PrI (vVar 2)) sNext)) sNext)
theorem u_check_jobs_B8 {cs : Cs} {E : DEnds} {δ : DS} {M : MH} : td_check_jobs_B8 cs E δ M = (sIf (dCmp fEq (dFz (dBin fIx (oPeek 5) (vC (.int 0)))) (vC (.str ("after" : Str)))) (sSeq (sAsg (dLc (iPk 0) (gN 3) (dB (dCall (sp_comes_before cs) (aCons (dFz (dBin fIx (oPeek 3) (vC (.int 1)))) (aCons (dFz (dBin fIx (oPeek 5) (vC (.int 1)))) aNil)))) (vVar 3) [3]) 7) (sIf (dCmp fLt (dFz (dCB fLen (aCons (oPeek 7) aNil))) (dFz (dBin fIx (oPeek 5) (vC (.int 1))))) (sRaise cs.c_NoJobs ("place" : Str) PrI (vVar 2)) sNext)) sNext) E δ M := rfl
def td_check_jobs_L8 (cs : Cs) : DP := (sFor (iEnumD (aCons (vVar 0) aNil)) (gTupD 2 (gConsD (gN 2) (gConsD (gTupD 3 (gConsD (gN 4) (gConsD (gN 5) (gConsD (gN 6) gNilD)))) gNilD))) (td_check_jobs_B8 cs))
theorem u_check_jobs_L8 {cs : Cs} {E : DEnds} {δ : DS} {M : MH} : td_check_jobs_L8 cs E δ M = (sFor (iEnumD (aCons (vVar 0) aNil)) (gTupD 2 (gConsD (gN 2) (gConsD (gTupD 3 (gConsD (gN 4) (gConsD (gN 5) (gConsD (gN 6) gNilD)))) gNilD))) (td_check_jobs_B8 cs)) E δ M := rfl
def td_check_jobs_R4 (cs : Cs) : DP := (td_check_jobs_L8 cs)
theorem u_check_jobs_R4 {cs : Cs} {E : DEnds} {δ : DS} {M : MH} : td_check_jobs_R4 cs E δ M = (td_check_jobs_L8 cs) E δ M := rfl
def td_check_jobs (cs : Cs) : DP := (sSeq (sIf (tdNot (dIsi .tuple (oPeek 0))) (sRaise cs.c_NoJobs ("place" : Str) PrI (vC (.int 0))) sNext) (sSeq (sAsg (dLst aNil) 1) (sSeq (td_check_jobs_L4 cs) (td_check_jobs_R4 cs))))
theorem u_check_jobs {cs : Cs} {E : DEnds} {δ : DS} {M : MH} : td_check_jobs cs E δ M = (sSeq (sIf (tdNot (dIsi .tuple (oPeek 0))) (sRaise cs.c_NoJobs ("place" : Str) PrI (vC (.int 0))) sNext) (sSeq (sAsg (dLst aNil) 1) (sSeq (td_check_jobs_L4 cs) (td_check_jobs_R4 cs)))) E δ M := rfl
def td_check_log_B4 (cs : Cs) : DP := (sSeq (sIf (tdOr (tdNot (dIsi .tuple (oPeek 3))) (dCmp fNe (dFz (dCB fLen (aCons (oPeek 3) aNil))) (vC (.int 2)))) (sRaise cs.c_NoLog ("place" : Str) PrI (vVar 2)) sNext) (sSeq (sIf (tdOr (tdNot (dB (dCall (sp_is_integer cs) (aCons (dFz (dBin fIx (oPeek 3) (vC (.int 0)))) (aCons (dFz (dBin fAdd (oPeek 1) (vC (.int 1)))) aNil))))) (tdNot (dB (dCall (sp_is_integer cs) (aCons (dFz (dBin fIx (oPeek 3) (vC (.int 1)))) (aCons (vC (.int 1)) aNil)))))) (sRaise cs.c_NoLog ("place" : Str) PrI (vVar 2)) sNext) (sAsg (dBin fIx (oPeek 3) (vC (.int 0))) 1)))
theorem u_check_log_B4 {cs : Cs} {E : DEnds} {δ : DS} {M : MH} : td_check_log_B4 cs E δ M = (sSeq (sIf (tdOr (tdNot (dIsi .tuple (oPeek 3))) (dCmp fNe (dFz (dCB fLen (aCons (oPeek 3) aNil))) (vC (.int 2)))) (sRaise cs.c_NoLog ("place" : Str) PrI (vVar 2)) sNext) (sSeq (sIf (tdOr (tdNot (dB (dCall (sp_is_integer cs) (aCons (dFz (dBin fIx (oPeek 3) (vC (.int 0)))) (aCons (dFz (dBin fAdd (oPeek 1) (vC (.int 1)))) aNil))))) (tdNot (dB (dCall (sp_is_integer cs) (aCons (dFz (dBin fIx (oPeek 3) (vC (.int 1)))) (aCons (vC (.int 1)) aNil)))))) (sRaise cs.c_NoLog ("place" : Str) PrI (vVar 2)) sNext) (sAsg (dBin fIx (oPeek 3) (vC (.int 0))) 1))) E δ M := rfl
def td_check_log_L4 (cs : Cs) : DP := (sFor (iEnumD (aCons (vVar 0) aNil)) (gTupD 2 (gConsD (gN 2) (gConsD (gN 3) gNilD))) (td_check_log_B4 cs))
theorem u_check_log_L4 {cs : Cs} {E : DEnds} {δ : DS} {M : MH} : td_check_log_L4 cs E δ M = (sFor (iEnumD (aCons (vVar 0) aNil)) (gTupD 2 (gConsD (gN 2) (gConsD (gN 3) gNilD))) (td_check_log_B4 cs)) E δ M := rfl
def td_check_log (cs : Cs) : DP := (sSeq (sIf (tdNot (dIsi .tuple (oPeek 0))) (sRaise cs.c_NoLog ("place" : Str) PrI (vC (.int 0))) sNext) (sSeq (sAsg (dC (.int 0)) 1) (td_check_log_L4 cs)))
theorem u_check_log {cs : Cs} {E : DEnds} {δ : DS} {M : MH} : td_check_log cs E δ M = (sSeq (sIf (tdNot (dIsi .tuple (oPeek 0))) (sRaise cs.c_NoLog ("place" : Str) PrI (vC (.int 0))) sNext) (sSeq (sAsg (dC (.int 0)) 1) (td_check_log_L4 cs))) E δ M := rfl
def td_has_arrived (cs : Cs) : DP := (sSeq (sAsg (dIf (dCmp fEq (dFz (dBin fIx (oPeek 0) (vC (.int 0)))) (vC (.str ("at" : Str)))) (dVar 1) (dVar 2)) 3) (sRet (dOfT (dCmp fLe (dFz (dBin fIx (oPeek 0) (vC (.int 1)))) (oPeek 3)))))
theorem u_has_arrived {cs : Cs} {E : DEnds} {δ : DS} {M : MH} : td_has_arrived cs E δ M = (sSeq (sAsg (dIf (dCmp fEq (dFz (dBin fIx (oPeek 0) (vC (.int 0)))) (vC (.str ("at" : Str)))) (dVar 1) (dVar 2)) 3) (sRet (dOfT (dCmp fLe (dFz (dBin fIx (oPeek 0) (vC (.int 1)))) (oPeek 3))))) E δ M := rfl
def td_count_arrived (cs : Cs) : DP := (sRet (dCB fLen (aCons (dFz (dLc (iPk 0) (gN 3) (dB (dCall (sp_has_arrived cs) (aCons (dFz (dBin fIx (oPeek 3) (vC (.int 1)))) (aCons (vVar 1) (aCons (vVar 2) aNil))))) (vVar 3) [3])) aNil)))
theorem u_count_arrived {cs : Cs} {E : DEnds} {δ : DS} {M : MH} : td_count_arrived cs E δ M = (sRet (dCB fLen (aCons (dFz (dLc (iPk 0) (gN 3) (dB (dCall (sp_has_arrived cs) (aCons (dFz (dBin fIx (oPeek 3) (vC (.int 1)))) (aCons (vVar 1) (aCons (vVar 2) aNil))))) (vVar 3) [3])) aNil))) E δ M := rfl
def td_present_in (cs : Cs) : DP := (sRet (dBin fSub (dFz (dCall (sp_count_arrived cs) (aCons (vVar 0) (aCons (dFz (dBin fSub (oPeek 1) (vC (.int 1)))) (aCons (vVar 2) aNil))))) (oPeek 2)))
theorem u_present_in {cs : Cs} {E : DEnds} {δ : DS} {M : MH} : td_present_in cs E δ M = (sRet (dBin fSub (dFz (dCall (sp_count_arrived cs) (aCons (vVar 0) (aCons (dFz (dBin fSub (oPeek 1) (vC (.int 1)))) (aCons (vVar 2) aNil))))) (oPeek 2))) E δ M := rfl
def td_first_fault_B4 (cs : Cs) : DP := (sSeq (sAsg (dCB fMin2 (aCons (oPeek 2) (aCons (dFz (dCall (sp_present_in cs) (aCons (vVar 0) (aCons (vVar 4) (aCons (vVar 3) aNil))))) aNil))) 6) (sSeq (sIf (dCmp fGt (oPeek 5) (oPeek 6)) (sRet (dTup (aCons (vC (.str ("crowded" : Str))) (aCons (vVar 4) (aCons (vVar 6) aNil))))) sNext) (sAug 3 (fun i j => i + j) (vVar 5))))
theorem u_first_fault_B4 {cs : Cs} {E : DEnds} {δ : DS} {M : MH} : td_first_fault_B4 cs E δ M = (sSeq (sAsg (dCB fMin2 (aCons (oPeek 2) (aCons (dFz (dCall (sp_present_in cs) (aCons (vVar 0) (aCons (vVar 4) (aCons (vVar 3) aNil))))) aNil))) 6) (sSeq (sIf (dCmp fGt (oPeek 5) (oPeek 6)) (sRet (dTup (aCons (vC (.str ("crowded" : Str))) (aCons (vVar 4) (aCons (vVar 6) aNil))))) sNext) (sAug 3 (fun i j => i + j) (vVar 5)))) E δ M := rfl
def td_first_fault_L4 (cs : Cs) : DP := (sFor (iAny (vVar 1)) (gTupD 2 (gConsD (gN 4) (gConsD (gN 5) gNilD))) (td_first_fault_B4 cs))
theorem u_first_fault_L4 {cs : Cs} {E : DEnds} {δ : DS} {M : MH} : td_first_fault_L4 cs E δ M = (sFor (iAny (vVar 1)) (gTupD 2 (gConsD (gN 4) (gConsD (gN 5) gNilD))) (td_first_fault_B4 cs)) E δ M := rfl
def td_first_fault_R4 (cs : Cs) : DP := (sSeq (sIf (dCmp fLt (oPeek 3) (dFz (dCB fLen (aCons (oPeek 0) aNil)))) (sRet (dTup (aCons (vC (.str ("unfinished" : Str))) (aCons (dFz (dBin fSub (dFz (dCB fLen (aCons (oPeek 0) aNil))) (oPeek 3))) aNil)))) sNext) (sRet (dC .non)))
theorem u_first_fault_R4 {cs : Cs} {E : DEnds} {δ : DS} {M : MH} : td_first_fault_R4 cs E δ M = (sSeq (sIf (dCmp fLt (oPeek 3) (dFz (dCB fLen (aCons (oPeek 0) aNil)))) (sRet (dTup (aCons (vC (.str ("unfinished" : Str))) (aCons (dFz (dBin fSub (dFz (dCB fLen (aCons (oPeek 0) aNil))) (oPeek 3))) aNil)))) sNext) (sRet (dC .non))) E δ M := rfl
def td_first_fault (cs : Cs) : DP := (sSeq (sDrop (dCall (sp_check_jobs cs) (aCons (vVar 0) aNil))) (sSeq (sDrop (dCall (sp_check_log cs) (aCons (vVar 1) aNil))) (sSeq (sAsg (dC (.int 0)) 3) (sSeq (td_first_fault_L4 cs) (td_first_fault_R4 cs)))))
theorem u_first_fault {cs : Cs} {E : DEnds} {δ : DS} {M : MH} : td_first_fault cs E δ M = (sSeq (sDrop (dCall (sp_check_jobs cs) (aCons (vVar 0) aNil))) (sSeq (sDrop (dCall (sp_check_log cs) (aCons (vVar 1) aNil))) (sSeq (sAsg (dC (.int 0)) 3) (sSeq (td_first_fault_L4 cs) (td_first_fault_R4 cs))))) E δ M := rfl
def td_law_right_R4 (cs : Cs) : DP := (sSeq (sIf (dCmp fIsNot (oPeek 3) (vC .non)) (sRet (dAnd (dOfT (dCmp fIsNot (oPeek 4) (vC .non))) (dOfT (dCmp fEq (dFz (dCall (sp_law_kind cs) (aCons (vVar 4) aNil))) (dFz (dTup (aCons (vC (.str ("log" : Str))) (aCons (vVar 3) aNil)))))))) sNext) (sSeq (sIf (tdAnd (dCmp fEq (oPeek 2) (vC (.int 1))) (dCmp fNe (dFz (dCallK 2 0 (spk_first_fault_2 cs) (aCons (vVar 0) (aCons (vVar 1) aNil)) aNil)) (oPeek 5))) (sRet (dC (.bl false))) sNext) (sSeq (sAsg (dCall (sp_law_certificate cs) (aCons (vVar 0) (aCons (vVar 1) (aCons (vVar 2) aNil)))) 7) (sRet (dAnd (dOfT (dCmp fIs (oPeek 4) (vC .non))) (dAnd (dOfT (dCmp fEq (oPeek 5) (oPeek 7))) (dOr (dOfT (dCmp fIs (oPeek 7) (vC .non))) (dOfT (dIsi .tuple (oPeek 5))))))))))
theorem u_law_right_R4 {cs : Cs} {E : DEnds} {δ : DS} {M : MH} : td_law_right_R4 cs E δ M = (sSeq (sIf (dCmp fIsNot (oPeek 3) (vC .non)) (sRet (dAnd (dOfT (dCmp fIsNot (oPeek 4) (vC .non))) (dOfT (dCmp fEq (dFz (dCall (sp_law_kind cs) (aCons (vVar 4) aNil))) (dFz (dTup (aCons (vC (.str ("log" : Str))) (aCons (vVar 3) aNil)))))))) sNext) (sSeq (sIf (tdAnd (dCmp fEq (oPeek 2) (vC (.int 1))) (dCmp fNe (dFz (dCallK 2 0 (spk_first_fault_2 cs) (aCons (vVar 0) (aCons (vVar 1) aNil)) aNil)) (oPeek 5))) (sRet (dC (.bl false))) sNext) (sSeq (sAsg (dCall (sp_law_certificate cs) (aCons (vVar 0) (aCons (vVar 1) (aCons (vVar 2) aNil)))) 7) (sRet (dAnd (dOfT (dCmp fIs (oPeek 4) (vC .non))) (dAnd (dOfT (dCmp fEq (oPeek 5) (oPeek 7))) (dOr (dOfT (dCmp fIs (oPeek 7) (vC .non))) (dOfT (dIsi .tuple (oPeek 5)))))))))) E δ M := rfl
def td_law_right (cs : Cs) : DP := (sSeq (sAsg (dCall (sp_law_log_fault cs) (aCons (vVar 1) aNil)) 3) (sSeq (sAsg (dC .non) 4) (sSeq (sAsg (dC .non) 5) (sSeq (sTry (fun C => PySem.W.exmOne cs.K (.ref C) (.ref cs.c_SlotError) = some true) 6 (sAsg (dCallK 2 1 (spk_first_fault_2_processors cs) (aCons (vVar 0) (aCons (vVar 1) aNil)) (aCons (vVar 2) aNil)) 5) (sAsg (dVar 6) 4)) (td_law_right_R4 cs)))))
theorem u_law_right {cs : Cs} {E : DEnds} {δ : DS} {M : MH} : td_law_right cs E δ M = (sSeq (sAsg (dCall (sp_law_log_fault cs) (aCons (vVar 1) aNil)) 3) (sSeq (sAsg (dC .non) 4) (sSeq (sAsg (dC .non) 5) (sSeq (sTry (fun C => PySem.W.exmOne cs.K (.ref C) (.ref cs.c_SlotError) = some true) 6 (sAsg (dCallK 2 1 (spk_first_fault_2_processors cs) (aCons (vVar 0) (aCons (vVar 1) aNil)) (aCons (vVar 2) aNil)) 5) (sAsg (dVar 6) 4)) (td_law_right_R4 cs))))) E δ M := rfl
def td_law_store (cs : Cs) : DP := (sSeq (sAsg (dCB fLen (aCons (oPeek 0) aNil)) 1) (sSeq (sFor (iAny (dFz (dSl fSl (oPeek 0) pNone (pSome (dC (.int 63)))))) (gN 2) (sAsg (dBin fMod (dFz (dBin fAdd (dFz (dBin fAdd (dFz (dBin fMul (oPeek 1) (vC (.int 16807)))) (dFz (dBin fMod (oPeek 2) (vC (.int 1000000007)))))) (vC (.int 11)))) (vC (.int 2147483629))) 1)) (sRet (dLst (aCons (dFz (dSl fSl (oPeek 0) pNone (pSome (dC (.int 63))))) (aCons (vC (.int 0)) (aCons (vC (.int 0)) (aCons (vVar 1) (aCons (vC (.int 0)) aNil)))))))))
theorem u_law_store {cs : Cs} {E : DEnds} {δ : DS} {M : MH} : td_law_store cs E δ M = (sSeq (sAsg (dCB fLen (aCons (oPeek 0) aNil)) 1) (sSeq (sFor (iAny (dFz (dSl fSl (oPeek 0) pNone (pSome (dC (.int 63)))))) (gN 2) (sAsg (dBin fMod (dFz (dBin fAdd (dFz (dBin fAdd (dFz (dBin fMul (oPeek 1) (vC (.int 16807)))) (dFz (dBin fMod (oPeek 2) (vC (.int 1000000007)))))) (vC (.int 11)))) (vC (.int 2147483629))) 1)) (sRet (dLst (aCons (dFz (dSl fSl (oPeek 0) pNone (pSome (dC (.int 63))))) (aCons (vC (.int 0)) (aCons (vC (.int 0)) (aCons (vVar 1) (aCons (vC (.int 0)) aNil))))))))) E δ M := rfl
def td_law_B6 (cs : Cs) : DP := (sIf (tdOr (tdNot (dB (dCall (sp_law_right cs) (aCons (vVar 3) (aCons (vVar 5) (aCons (vVar 6) aNil)))))) (tdNot (dB (dCall (sp_law_right cs) (aCons (vVar 3) (aCons (dFz (dSl fSl (oPeek 5) pNone (pSome (dNeg (vC (.int 1)))))) (aCons (vVar 6) aNil))))))) (sRet (dC (.bl false))) sNext)
theorem u_law_B6 {cs : Cs} {E : DEnds} {δ : DS} {M : MH} : td_law_B6 cs E δ M = (sIf (tdOr (tdNot (dB (dCall (sp_law_right cs) (aCons (vVar 3) (aCons (vVar 5) (aCons (vVar 6) aNil)))))) (tdNot (dB (dCall (sp_law_right cs) (aCons (vVar 3) (aCons (dFz (dSl fSl (oPeek 5) pNone (pSome (dNeg (vC (.int 1)))))) (aCons (vVar 6) aNil))))))) (sRet (dC (.bl false))) sNext) E δ M := rfl
def td_law_L6 (cs : Cs) : DP := (sFor (iAny (dFz (dLst (aCons (vVar 4) (aCons (dFz (dCB fMax2 (aCons (vC (.int 1)) (aCons (dFz (dBin fSub (oPeek 4) (vC (.int 1)))) aNil)))) (aCons (dFz (dCB fMin2 (aCons (vC (.int 8)) (aCons (dFz (dBin fAdd (oPeek 4) (vC (.int 1)))) aNil)))) aNil)))))) (gN 6) (td_law_B6 cs))
theorem u_law_L6 {cs : Cs} {E : DEnds} {δ : DS} {M : MH} : td_law_L6 cs E δ M = (sFor (iAny (dFz (dLst (aCons (vVar 4) (aCons (dFz (dCB fMax2 (aCons (vC (.int 1)) (aCons (dFz (dBin fSub (oPeek 4) (vC (.int 1)))) aNil)))) (aCons (dFz (dCB fMin2 (aCons (vC (.int 8)) (aCons (dFz (dBin fAdd (oPeek 4) (vC (.int 1)))) aNil)))) aNil)))))) (gN 6) (td_law_B6 cs)) E δ M := rfl
def td_law_B9 (cs : Cs) : DP := (sFrz 1 (sSeq (sAsg (dCall (sp_law_bad_log cs) (aCons (vVar 1) (aCons (vVar 5) aNil))) 8) (sSeq (sIf (tdNot (dB (dCall (sp_law_right cs) (aCons (vVar 3) (aCons (vVar 8) (aCons (vVar 4) aNil)))))) (sRet (dC (.bl false))) sNext) (sFrz 1 (sIf (tdAnd (dCmp fIs (dFz (dCall (sp_law_log_fault cs) (aCons (vVar 8) aNil))) (vC .non)) (tdNot (dB (dCall (sp_law_right cs) (aCons (vVar 3) (aCons (dFz (dCall (sp_law_bad_log cs) (aCons (vVar 1) (aCons (vVar 8) aNil)))) (aCons (vVar 4) aNil))))))) (sRet (dC (.bl false))) sNext)))))
theorem u_law_B9 {cs : Cs} {E : DEnds} {δ : DS} {M : MH} : td_law_B9 cs E δ M = (sFrz 1 (sSeq (sAsg (dCall (sp_law_bad_log cs) (aCons (vVar 1) (aCons (vVar 5) aNil))) 8) (sSeq (sIf (tdNot (dB (dCall (sp_law_right cs) (aCons (vVar 3) (aCons (vVar 8) (aCons (vVar 4) aNil)))))) (sRet (dC (.bl false))) sNext) (sFrz 1 (sIf (tdAnd (dCmp fIs (dFz (dCall (sp_law_log_fault cs) (aCons (vVar 8) aNil))) (vC .non)) (tdNot (dB (dCall (sp_law_right cs) (aCons (vVar 3) (aCons (dFz (dCall (sp_law_bad_log cs) (aCons (vVar 1) (aCons (vVar 8) aNil)))) (aCons (vVar 4) aNil))))))) (sRet (dC (.bl false))) sNext))))) E δ M := rfl
def td_law_L9 (cs : Cs) : DP := (sFor (iRange1 (aCons (vC (.int 3)) aNil)) (gN 7) (td_law_B9 cs))
theorem u_law_L9 {cs : Cs} {E : DEnds} {δ : DS} {M : MH} : td_law_L9 cs E δ M = (sFor (iRange1 (aCons (vC (.int 3)) aNil)) (gN 7) (td_law_B9 cs)) E δ M := rfl
def td_law_R6 (cs : Cs) : DP := (td_law_L9 cs)
theorem u_law_R6 {cs : Cs} {E : DEnds} {δ : DS} {M : MH} : td_law_R6 cs E δ M = (td_law_L9 cs) E δ M := rfl
def td_law_B2 (cs : Cs) : DP := (sFrz 1 (sSeq (sAsg (dCall (sp_law_jobs cs) (aCons (vVar 1) (aCons (dFz (dBin fIx (dFz (dLst (aCons (vC (.int 6)) (aCons (vC (.int 12)) (aCons (vC (.int 3)) aNil))))) (oPeek 2))) (aCons (vC (.int 60)) aNil)))) 3) (sFrz 1 (sSeq (sAsg (dBin fAdd (vC (.int 1)) (dFz (dCall (sp_law_pick cs) (aCons (vVar 1) (aCons (vC (.int 8)) aNil))))) 4) (sFrz 1 (sSeq (sAsg (dCall (sp_law_log cs) (aCons (vVar 1) (aCons (vVar 3) (aCons (vVar 4) (aCons (vC (.int 12)) aNil))))) 5) (sSeq (td_law_L6 cs) (td_law_R6 cs))))))))
theorem u_law_B2 {cs : Cs} {E : DEnds} {δ : DS} {M : MH} : td_law_B2 cs E δ M = (sFrz 1 (sSeq (sAsg (dCall (sp_law_jobs cs) (aCons (vVar 1) (aCons (dFz (dBin fIx (dFz (dLst (aCons (vC (.int 6)) (aCons (vC (.int 12)) (aCons (vC (.int 3)) aNil))))) (oPeek 2))) (aCons (vC (.int 60)) aNil)))) 3) (sFrz 1 (sSeq (sAsg (dBin fAdd (vC (.int 1)) (dFz (dCall (sp_law_pick cs) (aCons (vVar 1) (aCons (vC (.int 8)) aNil))))) 4) (sFrz 1 (sSeq (sAsg (dCall (sp_law_log cs) (aCons (vVar 1) (aCons (vVar 3) (aCons (vVar 4) (aCons (vC (.int 12)) aNil))))) 5) (sSeq (td_law_L6 cs) (td_law_R6 cs)))))))) E δ M := rfl
def td_law_L2 (cs : Cs) : DP := (sFor (iRange1 (aCons (vC (.int 3)) aNil)) (gN 2) (td_law_B2 cs))
theorem u_law_L2 {cs : Cs} {E : DEnds} {δ : DS} {M : MH} : td_law_L2 cs E δ M = (sFor (iRange1 (aCons (vC (.int 3)) aNil)) (gN 2) (td_law_B2 cs)) E δ M := rfl
def td_law_R2 (cs : Cs) : DP := (sSeq (sAsg (dTup (aCons (dFz (dTup (aCons (vC (.str ("a" : Str))) (aCons (dFz (dTup (aCons (vC (.str ("at" : Str))) (aCons (vC (.int 0)) aNil)))) (aCons (vC (.int 0)) aNil))))) (aCons (dFz (dTup (aCons (vC (.str ("b" : Str))) (aCons (dFz (dTup (aCons (vC (.str ("at" : Str))) (aCons (vC (.int 5)) aNil)))) (aCons (vC (.int 0)) aNil))))) aNil))) 3) (sRet (dAnd (dOfT (dCmp fEq (dFz (dCallK 2 0 (spk_first_fault_2 cs) (aCons (vVar 3) (aCons (dFz (dTup (aCons (dFz (dTup (aCons (vC (.int 2)) (aCons (vC (.int 1)) aNil)))) (aCons (dFz (dTup (aCons (vC (.int 5)) (aCons (vC (.int 1)) aNil)))) aNil)))) aNil)) aNil)) (dFz (dTup (aCons (vC (.str ("crowded" : Str))) (aCons (vC (.int 5)) (aCons (vC (.int 0)) aNil))))))) (dOfT (dCmp fIs (dFz (dCallK 2 0 (spk_first_fault_2 cs) (aCons (dFz (dTup aNil)) (aCons (dFz (dTup aNil)) aNil)) aNil)) (vC .non))))))
theorem u_law_R2 {cs : Cs} {E : DEnds} {δ : DS} {M : MH} : td_law_R2 cs E δ M = (sSeq (sAsg (dTup (aCons (dFz (dTup (aCons (vC (.str ("a" : Str))) (aCons (dFz (dTup (aCons (vC (.str ("at" : Str))) (aCons (vC (.int 0)) aNil)))) (aCons (vC (.int 0)) aNil))))) (aCons (dFz (dTup (aCons (vC (.str ("b" : Str))) (aCons (dFz (dTup (aCons (vC (.str ("at" : Str))) (aCons (vC (.int 5)) aNil)))) (aCons (vC (.int 0)) aNil))))) aNil))) 3) (sRet (dAnd (dOfT (dCmp fEq (dFz (dCallK 2 0 (spk_first_fault_2 cs) (aCons (vVar 3) (aCons (dFz (dTup (aCons (dFz (dTup (aCons (vC (.int 2)) (aCons (vC (.int 1)) aNil)))) (aCons (dFz (dTup (aCons (vC (.int 5)) (aCons (vC (.int 1)) aNil)))) aNil)))) aNil)) aNil)) (dFz (dTup (aCons (vC (.str ("crowded" : Str))) (aCons (vC (.int 5)) (aCons (vC (.int 0)) aNil))))))) (dOfT (dCmp fIs (dFz (dCallK 2 0 (spk_first_fault_2 cs) (aCons (dFz (dTup aNil)) (aCons (dFz (dTup aNil)) aNil)) aNil)) (vC .non)))))) E δ M := rfl
def td_law (cs : Cs) : DP := (sSeq (sAsg (dCall (sp_law_store cs) (aCons (vVar 0) aNil)) 1) (sShare 1 (sSeq (td_law_L2 cs) (td_law_R2 cs))))
theorem u_law {cs : Cs} {E : DEnds} {δ : DS} {M : MH} : td_law cs E δ M = (sSeq (sAsg (dCall (sp_law_store cs) (aCons (vVar 0) aNil)) 1) (sShare 1 (sSeq (td_law_L2 cs) (td_law_R2 cs)))) E δ M := rfl
section
variable {P : Program} {w : World} {mg : Str → Option Value} {base : Heap} {cs : Cs}
theorem ok_law_mix (T : Tx P w mg base cs) (D : Df cs.K mg "_law_mix" "_law_mix" s_law_mix ["number", "turn"]) (rd : ∀ ds M Q E, sp_law_mix cs ds M Q E → td_law_mix cs (endsD Q E) (startD ["number", "turn", "value"] ds) M) : Cal P w cs.K mg base 1 "_law_mix" ["number", "turn"] (sp_law_mix cs) :=
  D.cal sc_law_mix (td_law_mix cs) len_law_mix (fun f cdv A outer s H E G hG hr => have hu := DL.hu_of hr; (ss_cons (s_asg (i := 2) sc_law_mix.nd rfl (Or.inl rfl) (d_mod (o_v (v_fz (d_add hG.symm (o_v (v_fz (d_add hG.symm (o_v (v_fz (d_add hG.symm (o_v (v_fz (d_mod (o_peek (pv 0)) (o_v v_int)))) (o_v (v_fz (d_mul hG.symm (o_v (v_fz (d_mul hG.symm (o_v v_int) (o_peek (pv 1))))) (o_peek (pv 1)))))))) (o_v (v_fz (d_mul hG.symm (o_v v_int) (o_peek (pv 1)))))))) (o_v v_int)))) (o_v v_int)))
(ss_cons (s_asg (i := 2) sc_law_mix.nd rfl (Or.inl rfl) (d_mod (o_v (v_fz (d_mul hG.symm (o_v (v_fz (d_mod (o_v (v_fz (d_mul hG.symm (o_peek (pv 2)) (o_peek (pv 2))))) (o_v v_int)))) (o_peek (pv 2))))) (o_v v_int)))
(ss_one (s_ret (d_div (o_v (v_fz (d_mod (o_v (v_fz (d_add hG.symm (o_v (v_fz (d_mul hG.symm (o_peek (pv 2)) (o_v v_int)))) (o_peek (pv 1))))) (o_v v_int)))) (o_v v_int))))))) rd
theorem ok_law_pick (T : Tx P w mg base cs) (Y_law_mix : Cal P w cs.K mg base 1 "_law_mix" ["number", "turn"] (sp_law_mix cs)) (D : Df cs.K mg "_law_pick" "_law_pick" s_law_pick ["store", "count"]) (rd : ∀ ds M Q E, sp_law_pick cs ds M Q E → td_law_pick cs (endsD Q E) (startD ["store", "count", "cell", "digit"] ds) M) : Cal P w cs.K mg base 2 "_law_pick" ["store", "count"] (sp_law_pick cs) :=
  D.cal sc_law_pick (td_law_pick cs) len_law_pick (fun f cdv A outer s H E G hG hr => have hu := DL.hu_of hr; (ss_cons (s_setM (v_fz (d_add hG.symm (o_v (v_fz (d_ix hG.symm (o_peek (pv 0)) (o_v v_int)))) (o_v v_int))) (v_var (pv 0)) v_int)
(ss_cons (s_if (L2.PW.pt (w_and (t_eq hG.symm hu (o_v (v_fz (d_ix hG.symm (o_peek (pv 0)) (o_v v_int)))) (o_v v_int)) (w_and1 (t_lt (o_v (v_fz (d_ix hG.symm (o_peek (pv 0)) (o_v v_int)))) (o_v (v_fz (d_len hG.symm (by rfl) T.n_len (ao_cons (o_v (v_fz (d_ix hG.symm (o_peek (pv 0)) (o_v v_int)))) ao_nil))))))))
(ss_cons (s_asg (i := 2) sc_law_pick.nd rfl (Or.inl rfl) (d_ix hG.symm (o_v (v_fz (d_ix hG.symm (o_peek (pv 0)) (o_v v_int)))) (o_v (v_fz (d_ix hG.symm (o_peek (pv 0)) (o_v v_int))))))
(ss_cons (s_setM (v_fz (d_add hG.symm (o_v (v_fz (d_ix hG.symm (o_peek (pv 0)) (o_v v_int)))) (o_v v_int))) (v_var (pv 0)) v_int)
(ss_cons (s_if (t_lt (o_peek (pv 2)) (o_v (v_fz (d_pow (o_v v_int) (o_v v_int)))))
(ss_one (s_ret (d_mod (o_v (v_fz (d_cal Y_law_mix hG.symm (hr.mono (by decide)) (by rfl) (takes_of rfl rfl rfl rfl) (a_cons (v_var (pv 2)) (a_cons (v_fz (d_ix hG.symm (o_peek (pv 0)) (o_v v_int))) a_nil))))) (o_peek (pv 1)))))
ss_nil)
(ss_one (s_setM (v_var (pv 2)) (v_var (pv 0)) v_int)))))
ss_nil)
(ss_cons (s_if (t_gt (o_v (v_fz (d_ix hG.symm (o_peek (pv 0)) (o_v v_int)))) (o_v v_int))
(ss_cons (s_asg (i := 3) sc_law_pick.nd rfl (Or.inl rfl) (d_mod (o_v (v_fz (d_ix hG.symm (o_peek (pv 0)) (o_v v_int)))) (o_peek (pv 1))))
(ss_cons (s_setM (v_fz (d_div (o_v (v_fz (d_ix hG.symm (o_peek (pv 0)) (o_v v_int)))) (o_peek (pv 1)))) (v_var (pv 0)) v_int)
(ss_one (s_retV (pv 3)))))
ss_nil)
(ss_one (s_ret (d_mod (o_v (v_fz (d_cal Y_law_mix hG.symm (hr.mono (by decide)) (by rfl) (takes_of rfl rfl rfl rfl) (a_cons (v_fz (d_ix hG.symm (o_peek (pv 0)) (o_v v_int))) (a_cons (v_fz (d_ix hG.symm (o_peek (pv 0)) (o_v v_int))) a_nil))))) (o_peek (pv 1))))))))) rd
theorem ok_law_bad_log (T : Tx P w mg base cs) (Y_law_pick : Cal P w cs.K mg base 2 "_law_pick" ["store", "count"] (sp_law_pick cs)) (D : Df cs.K mg "_law_bad_log" "_law_bad_log" s_law_bad_log ["store", "log"]) (rd : ∀ ds M Q E, sp_law_bad_log cs ds M Q E → td_law_bad_log cs (endsD Q E) (startD ["store", "log", "at", "unit", "finishes", "pairs", "way"] ds) M) : Cal P w cs.K mg base 3 "_law_bad_log" ["store", "log"] (sp_law_bad_log cs) :=
  D.cal sc_law_bad_log (td_law_bad_log cs) len_law_bad_log (fun f cdv A outer s H E G hG hr => have hu := DL.hu_of hr; (ss_cons (s_if (t_eq hG.symm hu (o_peek (pv 1)) (o_v (v_fz (d_tup a_nil))))
(ss_one (s_ret (d_ix hG.symm (o_v (v_fz (d_lst (a_cons (v_fz (d_lst a_nil)) (a_cons v_non (a_cons (v_fz (d_tup (a_cons (v_fz (d_tup (a_cons v_int (a_cons v_int a_nil)))) a_nil))) (a_cons (v_fz (d_tup (a_cons (v_fz (d_tup (a_cons v_int (a_cons v_int a_nil)))) a_nil))) (a_cons (v_fz (d_tup (a_cons (v_fz (d_tup (a_cons v_int (a_cons v_int a_nil)))) a_nil))) a_nil)))))))) (o_v (v_fz (d_cal Y_law_pick hG.symm (hr.mono (by decide)) (by rfl) (takes_of rfl rfl rfl rfl) (a_cons (v_var (pv 0)) (a_cons v_int a_nil))))))))
ss_nil)
(ss_cons (s_asg (i := 2) sc_law_bad_log.nd rfl (Or.inl rfl) (d_cal Y_law_pick hG.symm (hr.mono (by decide)) (by rfl) (takes_of rfl rfl rfl rfl) (a_cons (v_var (pv 0)) (a_cons (v_fz (d_len hG.symm (by rfl) T.n_len (ao_cons (o_peek (pv 1)) ao_nil))) a_nil))))
(ss_cons (s_asgT (v_fz (d_ix hG.symm (o_peek (pv 1)) (o_peek (pv 2)))) (g_tup hG.symm rfl (gs_cons (g_name sc_law_bad_log.nd rfl (Or.inl rfl)) (gs_cons (g_name sc_law_bad_log.nd rfl (Or.inl rfl)) gs_nil))))
(ss_cons (s_asg (i := 5) sc_law_bad_log.nd rfl (Or.inl rfl) (d_lst (a_cons (v_fz (d_tup (a_cons (v_var (pv 3)) (a_cons v_int a_nil)))) (a_cons (v_fz (d_tup (a_cons (v_var (pv 3)) (a_cons (v_fz (d_neg (o_v v_int))) a_nil)))) (a_cons (v_fz (d_tup (a_cons (v_var (pv 3)) (a_cons v_bl a_nil)))) (a_cons (v_fz (d_tup (a_cons v_int (a_cons (v_var (pv 4)) a_nil)))) (a_cons (v_fz (d_tup (a_cons v_bl (a_cons (v_var (pv 4)) a_nil)))) (a_cons (v_fz (d_tup (a_cons (v_fz (d_neg (o_v v_int))) (a_cons (v_var (pv 4)) a_nil)))) (a_cons (v_fz (d_tup (a_cons (v_var (pv 3)) a_nil))) a_nil)))))))))
(ss_cons (s_asg (i := 5) sc_law_bad_log.nd rfl (Or.inl rfl) (d_add hG.symm (o_peek (pv 5)) (o_v (v_fz (d_lst (a_cons (v_fz (d_lst (a_cons (v_var (pv 3)) (a_cons (v_var (pv 4)) a_nil)))) (a_cons (v_fz (d_tup (a_cons (v_var (pv 3)) (a_cons (v_var (pv 4)) (a_cons v_int a_nil))))) (a_cons v_non (a_cons (v_fz (d_tup (a_cons (v_var (pv 3)) (a_cons v_non a_nil)))) (a_cons (v_fz (d_tup (a_cons v_str (a_cons (v_var (pv 4)) a_nil)))) a_nil))))))))))
(ss_cons (s_asg (i := 5) sc_law_bad_log.nd rfl (Or.inl rfl) (d_add hG.symm (o_peek (pv 5)) (o_v (v_fz (d_lst (a_cons (v_fz (d_tup (a_cons (v_var (pv 3)) (a_cons (v_fz (d_add hG.symm (o_peek (pv 4)) (o_v v_int))) a_nil)))) (a_cons (v_fz (d_tup (a_cons (v_fz (d_add hG.symm (o_peek (pv 3)) (o_v v_int))) (a_cons (v_var (pv 4)) a_nil)))) a_nil)))))))
(ss_cons (s_asg (i := 6) sc_law_bad_log.nd rfl (Or.inl rfl) (d_cal Y_law_pick hG.symm (hr.mono (by decide)) (by rfl) (takes_of rfl rfl rfl rfl) (a_cons (v_var (pv 0)) (a_cons v_int a_nil))))
(ss_cons (s_if (t_eq hG.symm hu (o_peek (pv 6)) (o_v v_int))
(ss_one (s_ret (d_add hG.symm (o_v (v_fz (d_slice hG.symm (o_peek (pv 1)) p_none (p_some (d_var (pv 2)))))) (o_v (v_fz (d_slice hG.symm (o_peek (pv 1)) (p_some (d_add hG.symm (o_peek (pv 2)) (o_v v_int))) p_none))))))
ss_nil)
(ss_cons (s_if (t_eq hG.symm hu (o_peek (pv 6)) (o_v v_int))
(ss_one (s_ret (d_add hG.symm (o_v (v_fz (d_add hG.symm (o_v (v_fz (d_slice hG.symm (o_peek (pv 1)) p_none (p_some (d_var (pv 2)))))) (o_v (v_fz (d_tup (a_cons (v_fz (d_ix hG.symm (o_peek (pv 1)) (o_peek (pv 2)))) a_nil))))))) (o_v (v_fz (d_slice hG.symm (o_peek (pv 1)) (p_some (d_var (pv 2))) p_none))))))
ss_nil)
(ss_cons (s_if (t_eq hG.symm hu (o_peek (pv 6)) (o_v v_int))
(ss_one (s_ret (d_ix hG.symm (o_v (v_fz (d_lst (a_cons (v_fz (d_listOf hG.symm (by rfl) T.n_list (ao_cons (o_peek (pv 1)) ao_nil))) (a_cons (v_fz (d_rev hG.symm (o_peek (pv 1)))) (a_cons (v_fz (d_add hG.symm (o_peek (pv 1)) (o_v (v_fz (d_tup (a_cons (v_fz (d_tup (a_cons (v_fz (d_add hG.symm (o_v (v_fz (d_ix hG.symm (o_v (v_fz (d_ix hG.symm (o_peek (pv 1)) (o_v (v_fz (d_neg (o_v v_int))))))) (o_v v_int)))) (o_v v_int))) (a_cons v_int a_nil)))) a_nil)))))) (a_cons (v_fz (d_add hG.symm (o_v (v_fz (d_slice hG.symm (o_peek (pv 1)) (p_some d_int) p_none))) (o_v (v_fz (d_slice hG.symm (o_peek (pv 1)) p_none (p_some d_int)))))) a_nil))))))) (o_v (v_fz (d_cal Y_law_pick hG.symm (hr.mono (by decide)) (by rfl) (takes_of rfl rfl rfl rfl) (a_cons (v_var (pv 0)) (a_cons v_int a_nil))))))))
ss_nil)
(ss_one (s_ret (d_add hG.symm (o_v (v_fz (d_add hG.symm (o_v (v_fz (d_slice hG.symm (o_peek (pv 1)) p_none (p_some (d_var (pv 2)))))) (o_v (v_fz (d_tup (a_cons (v_fz (d_ix hG.symm (o_peek (pv 5)) (o_v (v_fz (d_cal Y_law_pick hG.symm (hr.mono (by decide)) (by rfl) (takes_of rfl rfl rfl rfl) (a_cons (v_var (pv 0)) (a_cons v_int a_nil))))))) a_nil))))))) (o_v (v_fz (d_slice hG.symm (o_peek (pv 1)) (p_some (d_add hG.symm (o_peek (pv 2)) (o_v v_int))) p_none))))))))))))))))) rd
theorem ok_law_before (T : Tx P w mg base cs) (D : Df cs.K mg "_law_before" "_law_before" s_law_before ["arrival", "finishes"]) (rd : ∀ ds M Q E, sp_law_before cs ds M Q E → td_law_before cs (endsD Q E) (startD ["arrival", "finishes"] ds) M) : Cal P w cs.K mg base 1 "_law_before" ["arrival", "finishes"] (sp_law_before cs) :=
  D.cal sc_law_before (td_law_before cs) len_law_before (fun f cdv A outer s H E G hG hr => have hu := DL.hu_of hr; (ss_one (s_ret (d_or (d_eq hG.symm hu (o_v (v_fz (d_ix hG.symm (o_peek (pv 0)) (o_v v_int)))) (o_v v_str)) (d_one (d_lt (o_v (v_fz (d_ix hG.symm (o_peek (pv 0)) (o_v v_int)))) (o_peek (pv 1)))))))) rd
theorem ok_law_names (T : Tx P w mg base cs) (Y_law_pick : Cal P w cs.K mg base 2 "_law_pick" ["store", "count"] (sp_law_pick cs)) (D : Df cs.K mg "_law_names" "_law_names" s_law_names ["store", "count"]) (rd : ∀ ds M Q E, sp_law_names cs ds M Q E → td_law_names cs (endsD Q E) (startD ["store", "count", "letters", "names", "turn", "word", "old", "at", "k"] ds) M) : Cal P w cs.K mg base 3 "_law_names" ["store", "count"] (sp_law_names cs) :=
  D.cal sc_law_names (td_law_names cs) len_law_names (fun f cdv A outer s H E G hG hr => have hu := DL.hu_of hr; (ss_cons (s_asg (i := 2) sc_law_names.nd rfl (Or.inr rfl) d_str)
(ss_cons (s_asg (i := 3) sc_law_names.nd rfl (Or.inl rfl) (d_lst a_nil))
(ss_cons (s_asg (i := 4) sc_law_names.nd rfl (Or.inl rfl) d_int)
(ss_cons (s_while (passes_of rfl) (t_lt (o_v (v_fz (d_len hG.symm (by rfl) T.n_len (ao_cons (o_peek (pv 3)) ao_nil)))) (o_peek (pv 1)))
(ss_cons (s_asg (i := 4) sc_law_names.nd rfl (Or.inl rfl) (d_add hG.symm (o_peek (pv 4)) (o_v v_int)))
(ss_cons (s_asg (i := 5) sc_law_names.nd rfl (Or.inl rfl) (d_join hG.symm (o_v v_str) (o_v (v_fz (d_lc rfl sc_law_names.nd (i_p (i_range1 (by rfl) T.n_range (a_cons (v_fz (d_add hG.symm (o_v v_int) (o_v (v_fz (d_cal Y_law_pick hG.symm (hr.mono (by decide)) (by rfl) (takes_of rfl rfl rfl rfl) (a_cons (v_var (pv 0)) (a_cons v_int a_nil))))))) a_nil))) (blkOk_by (own := [(("k" : Str), 8)]) (by rfl)) (by decide) (fun G' hG' s H C cl fp => (g_name sc_law_names.nd rfl (by first | exact Or.inl rfl | exact Or.inr rfl))) (fun G' hG' s H C cl fp => ts_nil) (fun G' hG' s H C cl fp => (v_fz (d_ix (hG.symm.trans hG'.symm) (o_peek (pv 2)) (o_v (v_fz (d_cal Y_law_pick (hG.symm.trans hG'.symm) (hr.mono (by decide)) (by rfl) takes0 (a_cons (v_var (pv 0)) (a_cons v_int a_nil)))))))))))))
(ss_cons (s_if (L2.PW.pt (w_and (t_ne hG.symm hu (o_peek (pv 3)) (o_v (v_fz (d_lst a_nil)))) (w_and1 (t_eq hG.symm hu (o_v (v_fz (d_cal Y_law_pick hG.symm (hr.mono (by decide)) (by rfl) (takes_of rfl rfl rfl rfl) (a_cons (v_var (pv 0)) (a_cons v_int a_nil))))) (o_v v_int)))))
(ss_cons (s_asg (i := 6) sc_law_names.nd rfl (Or.inl rfl) (d_ix hG.symm (o_peek (pv 3)) (o_v (v_fz (d_cal Y_law_pick hG.symm (hr.mono (by decide)) (by rfl) (takes_of rfl rfl rfl rfl) (a_cons (v_var (pv 0)) (a_cons (v_fz (d_len hG.symm (by rfl) T.n_len (ao_cons (o_peek (pv 3)) ao_nil))) a_nil)))))))
(ss_cons (s_asg (i := 7) sc_law_names.nd rfl (Or.inl rfl) (d_cal Y_law_pick hG.symm (hr.mono (by decide)) (by rfl) (takes_of rfl rfl rfl rfl) (a_cons (v_var (pv 0)) (a_cons (v_fz (d_len hG.symm (by rfl) T.n_len (ao_cons (o_peek (pv 6)) ao_nil))) a_nil))))
(ss_one (s_asg (i := 5) sc_law_names.nd rfl (Or.inl rfl) (d_add hG.symm (o_v (v_fz (d_add hG.symm (o_v (v_fz (d_slice hG.symm (o_peek (pv 6)) p_none (p_some (d_var (pv 7)))))) (o_v (v_fz (d_ix hG.symm (o_peek (pv 2)) (o_v (v_fz (d_cal Y_law_pick hG.symm (hr.mono (by decide)) (by rfl) (takes_of rfl rfl rfl rfl) (a_cons (v_var (pv 0)) (a_cons v_int a_nil))))))))))) (o_v (v_fz (d_slice hG.symm (o_peek (pv 6)) (p_some (d_add hG.symm (o_peek (pv 7)) (o_v v_int))) p_none))))))))
ss_nil)
(ss_cons (s_if (t_gt (o_peek (pv 4)) (o_v v_int))
(ss_one (s_asg (i := 5) sc_law_names.nd rfl (Or.inl rfl) (d_add hG.symm (o_v (v_fz (d_add hG.symm (o_v (v_fz (d_ix hG.symm (o_peek (pv 2)) (o_v (v_fz (d_mod (o_peek (pv 4)) (o_v v_int))))))) (o_v v_str)))) (o_v (v_fz (d_ix hG.symm (o_peek (pv 2)) (o_v (v_fz (d_mod (o_v (v_fz (d_div (o_peek (pv 4)) (o_v v_int)))) (o_v v_int))))))))))
ss_nil)
(ss_one (s_if (t_notIn hG.symm hu (o_peek (pv 5)) (o_peek (pv 3)))
(ss_one (s_app hG.symm (pv 3) (v_var (pv 5))))
ss_nil)))))))
(ss_one (s_retV (pv 3)))))))) rd
theorem ok_law_jobs (T : Tx P w mg base cs) (Y_law_before : Cal P w cs.K mg base 1 "_law_before" ["arrival", "finishes"] (sp_law_before cs)) (Y_law_names : Cal P w cs.K mg base 3 "_law_names" ["store", "count"] (sp_law_names cs)) (Y_law_pick : Cal P w cs.K mg base 2 "_law_pick" ["store", "count"] (sp_law_pick cs)) (D : Df cs.K mg "_law_jobs" "_law_jobs" s_law_jobs ["store", "most", "late"]) (rd : ∀ ds M Q E, sp_law_jobs cs ds M Q E → td_law_jobs cs (endsD Q E) (startD ["store", "most", "late", "count", "arrivals", "k", "at", "kind", "number", "earlier", "jobs", "name", "door", "one"] ds) M) : Cal P w cs.K mg base 4 "_law_jobs" ["store", "most", "late"] (sp_law_jobs cs) :=
  D.cal sc_law_jobs (td_law_jobs cs) len_law_jobs (fun f cdv A outer s H E G hG hr => have hu := DL.hu_of hr; (ss_cons (s_asg (i := 3) sc_law_jobs.nd rfl (Or.inl rfl) (d_cal Y_law_pick hG.symm (hr.mono (by decide)) (by rfl) (takes_of rfl rfl rfl rfl) (a_cons (v_var (pv 0)) (a_cons (v_fz (d_add hG.symm (o_peek (pv 1)) (o_v v_int))) a_nil))))
(ss_cons (s_asg (i := 4) sc_law_jobs.nd rfl (Or.inl rfl) (d_lst a_nil))
(ss_cons (s_for (passes_of rfl) rfl (i_range1 (by rfl) T.n_range (a_cons (v_var (pv 3)) a_nil)) (g_name sc_law_jobs.nd rfl (Or.inl rfl))
(ss_cons (s_asg (i := 6) sc_law_jobs.nd rfl (Or.inl rfl) (d_ix hG.symm (o_v (v_fz (d_lst (a_cons v_int (a_cons (v_fz (d_cal Y_law_pick hG.symm (hr.mono (by decide)) (by rfl) (takes_of rfl rfl rfl rfl) (a_cons (v_var (pv 0)) (a_cons v_int a_nil)))) (a_cons (v_fz (d_cal Y_law_pick hG.symm (hr.mono (by decide)) (by rfl) (takes_of rfl rfl rfl rfl) (a_cons (v_var (pv 0)) (a_cons (v_fz (d_add hG.symm (o_peek (pv 2)) (o_v v_int))) a_nil)))) a_nil)))))) (o_v (v_fz (d_cal Y_law_pick hG.symm (hr.mono (by decide)) (by rfl) (takes_of rfl rfl rfl rfl) (a_cons (v_var (pv 0)) (a_cons v_int a_nil)))))))
(ss_one (s_app hG.symm (pv 4) (v_fz (d_ix hG.symm (o_v (v_fz (d_lst (a_cons (v_fz (d_tup (a_cons v_str (a_cons (v_var (pv 6)) a_nil)))) (a_cons (v_fz (d_tup (a_cons v_str (a_cons (v_var (pv 6)) a_nil)))) (a_cons (v_fz (d_tup (a_cons v_str (a_cons (v_fz (d_add hG.symm (o_v v_int) (o_v (v_fz (d_cal Y_law_pick hG.symm (hr.mono (by decide)) (by rfl) (takes_of rfl rfl rfl rfl) (a_cons (v_var (pv 0)) (a_cons (v_var (pv 3)) a_nil))))))) a_nil)))) a_nil)))))) (o_v (v_fz (d_cal Y_law_pick hG.symm (hr.mono (by decide)) (by rfl) (takes_of rfl rfl rfl rfl) (a_cons (v_var (pv 0)) (a_cons v_int a_nil)))))))))))
(ss_cons (s_for (passes_of rfl) rfl (i_range1 (by rfl) T.n_range (a_cons (v_var (pv 3)) a_nil)) (g_name sc_law_jobs.nd rfl (Or.inl rfl))
(ss_cons (s_asgT (v_fz (d_ix hG.symm (o_peek (pv 4)) (o_peek (pv 5)))) (g_tup hG.symm rfl (gs_cons (g_name sc_law_jobs.nd rfl (Or.inl rfl)) (gs_cons (g_name sc_law_jobs.nd rfl (Or.inr rfl)) gs_nil))))
(ss_cons (s_setLc (i := 9) rfl sc_law_jobs.nd rfl rfl (by rfl) (i_pk hG.symm (pv 4)) (blkOk_by (own := [(("one" : Str), 13)]) (by rfl)) (by decide) (fun G' hG' s H C cl fp => (g_name sc_law_jobs.nd rfl (by first | exact Or.inl rfl | exact Or.inr rfl))) (fun G' hG' s H C cl fp => (ts_one (t_val (d_cal Y_law_before (hG.symm.trans hG'.symm) (hr.mono (by decide)) (by rfl) takes0 (a_cons (v_var (pv 13)) (a_cons (v_var (pv 8)) a_nil)))))) (fun G' hG' s H C cl fp => (v_var (pv 13))))
(ss_one (s_if (L2.PW.pt (w_and (t_eq hG.symm hu (o_peek (pv 7)) (o_v v_str)) (w_and1 (t_lt (o_v (v_fz (d_len hG.symm (by rfl) T.n_len (ao_cons (o_peek (pv 9)) ao_nil)))) (o_peek (pv 8))))))
(ss_one (s_set (v_fz (d_tup (a_cons v_str (a_cons (v_fz (d_cal Y_law_pick hG.symm (hr.mono (by decide)) (by rfl) (takes_of rfl rfl rfl rfl) (a_cons (v_var (pv 0)) (a_cons (v_fz (d_add hG.symm (o_peek (pv 2)) (o_v v_int))) a_nil)))) a_nil)))) (pv 4) (v_var (pv 5)) (hown := trivial)))
ss_nil)))))
(ss_cons (s_asg (i := 10) sc_law_jobs.nd rfl (Or.inl rfl) (d_lst a_nil))
(ss_cons (s_for (passes_of rfl) rfl (i_any hG.symm (v_fz (d_cal Y_law_names hG.symm (hr.mono (by decide)) (by rfl) (takes_of rfl rfl rfl rfl) (a_cons (v_var (pv 0)) (a_cons (v_var (pv 3)) a_nil))))) (g_name sc_law_jobs.nd rfl (Or.inl rfl))
(ss_cons (s_asg (i := 12) sc_law_jobs.nd rfl (Or.inl rfl) (d_ix hG.symm (o_v (v_fz (d_lst (a_cons v_int (a_cons v_int (a_cons (v_fz (d_cal Y_law_pick hG.symm (hr.mono (by decide)) (by rfl) (takes_of rfl rfl rfl rfl) (a_cons (v_var (pv 0)) (a_cons v_int a_nil)))) a_nil)))))) (o_v (v_fz (d_cal Y_law_pick hG.symm (hr.mono (by decide)) (by rfl) (takes_of rfl rfl rfl rfl) (a_cons (v_var (pv 0)) (a_cons v_int a_nil)))))))
(ss_one (s_app hG.symm (pv 10) (v_fz (d_tup (a_cons (v_var (pv 11)) (a_cons (v_fz (d_ix hG.symm (o_peek (pv 4)) (o_v (v_fz (d_len hG.symm (by rfl) T.n_len (ao_cons (o_peek (pv 10)) ao_nil)))))) (a_cons (v_var (pv 12)) a_nil)))))))))
(ss_one (s_ret (d_tupleOf hG.symm (by rfl) T.n_tuple (ao_cons (o_peek (pv 10)) ao_nil))))))))))) rd
theorem ok_law_present (T : Tx P w mg base cs) (D : Df cs.K mg "_law_present" "_law_present" s_law_present ["jobs", "unit", "finished"]) (rd : ∀ ds M Q E, sp_law_present cs ds M Q E → td_law_present cs (endsD Q E) (startD ["jobs", "unit", "finished", "here", "name", "arrival", "door"] ds) M) : Cal P w cs.K mg base 1 "_law_present" ["jobs", "unit", "finished"] (sp_law_present cs) :=
  D.cal sc_law_present (td_law_present cs) len_law_present (fun f cdv A outer s H E G hG hr => have hu := DL.hu_of hr; (ss_cons (s_asg (i := 3) sc_law_present.nd rfl (Or.inl rfl) d_int)
(ss_cons (s_for (passes_of rfl) rfl (i_any hG.symm (v_var (pv 0))) (g_tup hG.symm rfl (gs_cons (g_name sc_law_present.nd rfl (Or.inl rfl)) (gs_cons (g_name sc_law_present.nd rfl (Or.inl rfl)) (gs_cons (g_name sc_law_present.nd rfl (Or.inl rfl)) gs_nil))))
(ss_one (s_asg (i := 3) sc_law_present.nd rfl (Or.inl rfl) (d_add hG.symm (o_peek (pv 3)) (o_v (v_fz (d_intU (by rfl) T.n_int (ao_cons (o_v (v_fz (d_le (o_v (v_fz (d_ix hG.symm (o_peek (pv 5)) (o_v v_int)))) (o_v (v_fz (d_ix hG.symm (o_v (v_fz (d_lst (a_cons (v_fz (d_sub (o_peek (pv 1)) (o_v v_int))) (a_cons (v_var (pv 2)) a_nil))))) (o_v (v_fz (d_intU (by rfl) T.n_int (ao_cons (o_v (v_fz (d_eq hG.symm hu (o_v (v_fz (d_ix hG.symm (o_peek (pv 5)) (o_v v_int)))) (o_v v_str)))) ao_nil)))))))))) ao_nil))))))))
(ss_one (s_ret (d_sub (o_peek (pv 3)) (o_peek (pv 2)))))))) rd
theorem ok_law_log (T : Tx P w mg base cs) (Y_law_pick : Cal P w cs.K mg base 2 "_law_pick" ["store", "count"] (sp_law_pick cs)) (Y_law_present : Cal P w cs.K mg base 1 "_law_present" ["jobs", "unit", "finished"] (sp_law_present cs)) (D : Df cs.K mg "_law_log" "_law_log" s_law_log ["store", "jobs", "cores", "wide"]) (rd : ∀ ds M Q E, sp_law_log cs ds M Q E → td_law_log cs (endsD Q E) (startD ["store", "jobs", "cores", "wide", "log", "finished", "unit", "moments", "many", "finishes", "name", "arrival", "door"] ds) M) : Cal P w cs.K mg base 3 "_law_log" ["store", "jobs", "cores", "wide"] (sp_law_log cs) :=
  D.cal sc_law_log (td_law_log cs) len_law_log (fun f cdv A outer s H E G hG hr => have hu := DL.hu_of hr; (ss_cons (s_asg (i := 4) sc_law_log.nd rfl (Or.inl rfl) (d_lst a_nil))
(ss_cons (s_asg (i := 5) sc_law_log.nd rfl (Or.inl rfl) d_int)
(ss_cons (s_asg (i := 6) sc_law_log.nd rfl (Or.inr rfl) d_int)
(ss_cons (s_while (passes_of rfl) (t_lt (o_peek (pv 5)) (o_v (v_fz (d_len hG.symm (by rfl) T.n_len (ao_cons (o_peek (pv 1)) ao_nil)))))
(ss_cons (s_setLc (i := 7) rfl sc_law_log.nd rfl rfl (by rfl) (i_pk hG.symm (pv 1)) (blkOk_by (own := [(("name" : Str), 10), (("arrival" : Str), 11), (("door" : Str), 12)]) (by rfl)) (by decide) (fun G' hG' s H C cl fp => (g_tup (hG.symm.trans hG'.symm) rfl (gs_cons (g_name sc_law_log.nd rfl (by first | exact Or.inl rfl | exact Or.inr rfl)) (gs_cons (g_name sc_law_log.nd rfl (by first | exact Or.inl rfl | exact Or.inr rfl)) (gs_cons (g_name sc_law_log.nd rfl (by first | exact Or.inl rfl | exact Or.inr rfl)) gs_nil))))) (fun G' hG' s H C cl fp => (ts_one (L2.PW.pt (w_and (t_eq (hG.symm.trans hG'.symm) hu (o_v (v_fz (d_ix (hG.symm.trans hG'.symm) (o_peek (pv 11)) (o_v v_int)))) (o_v v_str)) (w_and1 (t_ge (o_v (v_fz (d_ix (hG.symm.trans hG'.symm) (o_peek (pv 11)) (o_v v_int)))) (o_peek (pv 6)))))))) (fun G' hG' s H C cl fp => (v_fz (d_ix (hG.symm.trans hG'.symm) (o_peek (pv 11)) (o_v v_int)))))
(ss_cons (s_if (t_eq hG.symm hu (o_v (v_fz (d_cal Y_law_present hG.symm (hr.mono (by decide)) (by rfl) (takes_of rfl rfl rfl rfl) (a_cons (v_var (pv 1)) (a_cons (v_var (pv 6)) (a_cons (v_var (pv 5)) a_nil)))))) (o_v v_int))
(ss_one (s_asg (i := 6) sc_law_log.nd rfl (Or.inr rfl) (d_add hG.symm (o_v (v_fz (d_minL hG.symm rfl (by rfl) T.n_min (ao_cons (o_peek (pv 7)) ao_nil)))) (o_v v_int))))
ss_nil)
(ss_cons (s_asg (i := 6) sc_law_log.nd rfl (Or.inr rfl) (d_add hG.symm (o_peek (pv 6)) (o_v (v_fz (d_ix hG.symm (o_v (v_fz (d_lst (a_cons v_int (a_cons (v_fz (d_cal Y_law_pick hG.symm (hr.mono (by decide)) (by rfl) (takes_of rfl rfl rfl rfl) (a_cons (v_var (pv 0)) (a_cons v_int a_nil)))) (a_cons (v_fz (d_cal Y_law_pick hG.symm (hr.mono (by decide)) (by rfl) (takes_of rfl rfl rfl rfl) (a_cons (v_var (pv 0)) (a_cons (v_fz (d_add hG.symm (o_peek (pv 3)) (o_v v_int))) a_nil)))) a_nil)))))) (o_v (v_fz (d_cal Y_law_pick hG.symm (hr.mono (by decide)) (by rfl) (takes_of rfl rfl rfl rfl) (a_cons (v_var (pv 0)) (a_cons v_int a_nil))))))))))
(ss_cons (s_asg (i := 8) sc_law_log.nd rfl (Or.inl rfl) (d_min2 rfl (by rfl) T.n_min (ao_cons (o_peek (pv 2)) (ao_cons (o_v (v_fz (d_cal Y_law_present hG.symm (hr.mono (by decide)) (by rfl) (takes_of rfl rfl rfl rfl) (a_cons (v_var (pv 1)) (a_cons (v_var (pv 6)) (a_cons (v_var (pv 5)) a_nil)))))) ao_nil))))
(ss_cons (s_asg (i := 9) sc_law_log.nd rfl (Or.inl rfl) (d_ix hG.symm (o_v (v_fz (d_lst (a_cons (v_var (pv 8)) (a_cons (v_fz (d_add hG.symm (o_v v_int) (o_v (v_fz (d_cal Y_law_pick hG.symm (hr.mono (by decide)) (by rfl) (takes_of rfl rfl rfl rfl) (a_cons (v_var (pv 0)) (a_cons (v_var (pv 8)) a_nil))))))) a_nil))))) (o_v (v_fz (d_cal Y_law_pick hG.symm (hr.mono (by decide)) (by rfl) (takes_of rfl rfl rfl rfl) (a_cons (v_var (pv 0)) (a_cons v_int a_nil)))))))
(ss_cons (s_app hG.symm (pv 4) (v_fz (d_tup (a_cons (v_var (pv 6)) (a_cons (v_var (pv 9)) a_nil)))))
(ss_cons (s_asg (i := 5) sc_law_log.nd rfl (Or.inl rfl) (d_add hG.symm (o_peek (pv 5)) (o_peek (pv 9))))
(ss_one (s_asg (i := 6) sc_law_log.nd rfl (Or.inr rfl) (d_add hG.symm (o_peek (pv 6)) (o_v v_int))))))))))))
(ss_one (s_ret (d_tupleOf hG.symm (by rfl) T.n_tuple (ao_cons (o_peek (pv 4)) ao_nil))))))))) rd
theorem ok_law_is_int (T : Tx P w mg base cs) (D : Df cs.K mg "_law_is_int" "_law_is_int" s_law_is_int ["value", "least"]) (rd : ∀ ds M Q E, sp_law_is_int cs ds M Q E → td_law_is_int cs (endsD Q E) (startD ["value", "least"] ds) M) : Cal P w cs.K mg base 1 "_law_is_int" ["value", "least"] (sp_law_is_int cs) :=
  D.cal sc_law_is_int (td_law_is_int cs) len_law_is_int (fun f cdv A outer s H E G hG hr => have hu := DL.hu_of hr; (ss_one (s_ret (d_and (d_isi .int hG.symm (by rfl) T.n_isinstance (by rfl) T.n_int rfl (o_peek (pv 0))) (d_and (d_not (d_isi .bool hG.symm (by rfl) T.n_isinstance (by rfl) T.n_bool rfl (o_peek (pv 0)))) (d_one (d_ge (o_peek (pv 0)) (o_peek (pv 1))))))))) rd
theorem ok_law_log_fault (T : Tx P w mg base cs) (Y_law_is_int : Cal P w cs.K mg base 1 "_law_is_int" ["value", "least"] (sp_law_is_int cs)) (D : Df cs.K mg "_law_log_fault" "_law_log_fault" s_law_log_fault ["log"]) (rd : ∀ ds M Q E, sp_law_log_fault cs ds M Q E → td_law_log_fault cs (endsD Q E) (startD ["log", "before", "place", "pair"] ds) M) : Cal P w cs.K mg base 2 "_law_log_fault" ["log"] (sp_law_log_fault cs) :=
  D.cal sc_law_log_fault (td_law_log_fault cs) len_law_log_fault (fun f cdv A outer s H E G hG hr => have hu := DL.hu_of hr; (ss_cons (s_if (t_not (t_ofT (d_isi .tuple hG.symm (by rfl) T.n_isinstance (by rfl) T.n_tuple rfl (o_peek (pv 0)))))
(ss_one (s_ret d_int))
ss_nil)
(ss_cons (s_asg (i := 1) sc_law_log_fault.nd rfl (Or.inl rfl) d_int)
(ss_cons (s_for (passes_of rfl) rfl (i_enum hG.symm (by rfl) T.n_enumerate (a_cons (v_var (pv 0)) a_nil)) (g_tup hG.symm rfl (gs_cons (g_name sc_law_log_fault.nd rfl (Or.inl rfl)) (gs_cons (g_name sc_law_log_fault.nd rfl (Or.inl rfl)) gs_nil)))
(ss_cons (s_if (L2.PW.pt (w_or (t_not (t_ofT (d_isi .tuple hG.symm (by rfl) T.n_isinstance (by rfl) T.n_tuple rfl (o_peek (pv 3))))) (w_or1 (t_ne hG.symm hu (o_v (v_fz (d_len hG.symm (by rfl) T.n_len (ao_cons (o_peek (pv 3)) ao_nil)))) (o_v v_int)))))
(ss_one (s_retV (pv 2)))
ss_nil)
(ss_cons (s_if (L2.PW.pt (w_or (t_not (t_val (d_cal Y_law_is_int hG.symm (hr.mono (by decide)) (by rfl) (takes_of rfl rfl rfl rfl) (a_cons (v_fz (d_ix hG.symm (o_peek (pv 3)) (o_v v_int))) (a_cons (v_fz (d_add hG.symm (o_peek (pv 1)) (o_v v_int))) a_nil))))) (w_or1 (t_not (t_val (d_cal Y_law_is_int hG.symm (hr.mono (by decide)) (by rfl) (takes_of rfl rfl rfl rfl) (a_cons (v_fz (d_ix hG.symm (o_peek (pv 3)) (o_v v_int))) (a_cons v_int a_nil))))))))
(ss_one (s_retV (pv 2)))
ss_nil)
(ss_one (s_asg (i := 1) sc_law_log_fault.nd rfl (Or.inl rfl) (d_ix hG.symm (o_peek (pv 3)) (o_v v_int)))))))
(ss_one (s_ret d_non)))))) rd
theorem ok_law_certificate (T : Tx P w mg base cs) (Y_law_present : Cal P w cs.K mg base 1 "_law_present" ["jobs", "unit", "finished"] (sp_law_present cs)) (D : Df cs.K mg "_law_certificate" "_law_certificate" s_law_certificate ["jobs", "log", "cores"]) (rd : ∀ ds M Q E, sp_law_certificate cs ds M Q E → td_law_certificate cs (endsD Q E) (startD ["jobs", "log", "cores", "finished", "unit", "finishes", "many"] ds) M) : Cal P w cs.K mg base 2 "_law_certificate" ["jobs", "log", "cores"] (sp_law_certificate cs) :=
  D.cal sc_law_certificate (td_law_certificate cs) len_law_certificate (fun f cdv A outer s H E G hG hr => have hu := DL.hu_of hr; (ss_cons (s_asg (i := 3) sc_law_certificate.nd rfl (Or.inl rfl) d_int)
(ss_cons (s_for (passes_of rfl) rfl (i_any hG.symm (v_var (pv 1))) (g_tup hG.symm rfl (gs_cons (g_name sc_law_certificate.nd rfl (Or.inl rfl)) (gs_cons (g_name sc_law_certificate.nd rfl (Or.inl rfl)) gs_nil)))
(ss_cons (s_asg (i := 6) sc_law_certificate.nd rfl (Or.inl rfl) (d_min2 rfl (by rfl) T.n_min (ao_cons (o_peek (pv 2)) (ao_cons (o_v (v_fz (d_cal Y_law_present hG.symm (hr.mono (by decide)) (by rfl) (takes_of rfl rfl rfl rfl) (a_cons (v_var (pv 0)) (a_cons (v_var (pv 4)) (a_cons (v_var (pv 3)) a_nil)))))) ao_nil))))
(ss_cons (s_if (t_gt (o_peek (pv 5)) (o_peek (pv 6)))
(ss_one (s_ret (d_tup (a_cons v_str (a_cons (v_var (pv 4)) (a_cons (v_var (pv 6)) a_nil))))))
ss_nil)
(ss_one (s_asg (i := 3) sc_law_certificate.nd rfl (Or.inl rfl) (d_add hG.symm (o_peek (pv 3)) (o_peek (pv 5))))))))
(ss_cons (s_if (t_lt (o_peek (pv 3)) (o_v (v_fz (d_len hG.symm (by rfl) T.n_len (ao_cons (o_peek (pv 0)) ao_nil)))))
(ss_one (s_ret (d_tup (a_cons v_str (a_cons (v_fz (d_sub (o_v (v_fz (d_len hG.symm (by rfl) T.n_len (ao_cons (o_peek (pv 0)) ao_nil)))) (o_peek (pv 3)))) a_nil)))))
ss_nil)
(ss_one (s_ret d_non)))))) rd
theorem ok_law_kind (T : Tx P w mg base cs) (D : Df cs.K mg "_law_kind" "_law_kind" s_law_kind ["caught"]) (rd : ∀ ds M Q E, sp_law_kind cs ds M Q E → td_law_kind cs (endsD Q E) (startD ["caught", "kinds", "at"] ds) M) : Cal P w cs.K mg base 1 "_law_kind" ["caught"] (sp_law_kind cs) :=
  D.cal sc_law_kind (td_law_kind cs) len_law_kind (fun f cdv A outer s H E G hG hr => have hu := DL.hu_of hr; (ss_cons (s_asg (i := 1) sc_law_kind.nd rfl (Or.inl rfl) (d_lst (a_cons (v_fz (is_own hG.symm (by rfl) T.n_isinstance (by rfl) T.c_NoJobs (o_peek (pv 0)))) (a_cons (v_fz (is_own hG.symm (by rfl) T.n_isinstance (by rfl) T.c_NoRule (o_peek (pv 0)))) (a_cons (v_fz (is_own hG.symm (by rfl) T.n_isinstance (by rfl) T.c_NoLengths (o_peek (pv 0)))) a_nil)))))
(ss_cons (s_asg (i := 1) sc_law_kind.nd rfl (Or.inl rfl) (d_add hG.symm (o_peek (pv 1)) (o_v (v_fz (d_lst (a_cons (v_fz (is_own hG.symm (by rfl) T.n_isinstance (by rfl) T.c_NoLog (o_peek (pv 0)))) (a_cons (v_fz (is_own hG.symm (by rfl) T.n_isinstance (by rfl) T.c_NoMarks (o_peek (pv 0)))) (a_cons (v_fz (is_own hG.symm (by rfl) T.n_isinstance (by rfl) T.c_NoNamed (o_peek (pv 0)))) a_nil))))))))
(ss_cons (s_asg (i := 1) sc_law_kind.nd rfl (Or.inl rfl) (d_add hG.symm (o_peek (pv 1)) (o_v (v_fz (d_lst (a_cons (v_fz (is_own hG.symm (by rfl) T.n_isinstance (by rfl) T.c_NoOrder (o_peek (pv 0)))) (a_cons (v_fz (is_own hG.symm (by rfl) T.n_isinstance (by rfl) T.c_NoText (o_peek (pv 0)))) (a_cons (v_fz (is_own hG.symm (by rfl) T.n_isinstance (by rfl) T.c_NoNumber (o_peek (pv 0)))) a_nil))))))))
(ss_cons (s_asg (i := 1) sc_law_kind.nd rfl (Or.inl rfl) (d_add hG.symm (o_peek (pv 1)) (o_v (v_fz (d_lst (a_cons (v_fz (is_own hG.symm (by rfl) T.n_isinstance (by rfl) T.c_NoName (o_peek (pv 0)))) (a_cons (v_fz (is_own hG.symm (by rfl) T.n_isinstance (by rfl) T.c_NoUndo (o_peek (pv 0)))) (a_cons (v_fz (is_own hG.symm (by rfl) T.n_isinstance (by rfl) T.c_NoLine (o_peek (pv 0)))) a_nil))))))))
(ss_cons (s_if (L2.PW.pt (w_or (t_not (t_ofT (is_own hG.symm (by rfl) T.n_isinstance (by rfl) T.c_SlotError (o_peek (pv 0))))) (w_or (t_not (t_ofT (is_ve hG.symm (by rfl) T.n_isinstance (by rfl) T.n_ValueError (o_peek (pv 0))))) (w_or1 (t_ne hG.symm hu (o_v (v_fz (d_count hG.symm hu (o_peek (pv 1)) (ao_cons (o_v v_bl) ao_nil)))) (o_v v_int))))))
(ss_one (s_ret (d_tup (a_cons v_str (a_cons v_int a_nil)))))
ss_nil)
(ss_cons (s_asg (i := 2) sc_law_kind.nd rfl (Or.inl rfl) (d_index hG.symm hu (o_peek (pv 1)) (ao_cons (o_v v_bl) ao_nil)))
(ss_cons (s_if (t_lt (o_peek (pv 2)) (o_v v_int))
(ss_one (s_ret (d_tup (a_cons (v_fz (d_ix hG.symm (o_v (v_fz (d_lst (a_cons v_str (a_cons v_str (a_cons v_str (a_cons v_str (a_cons v_str (a_cons v_str (a_cons v_str a_nil)))))))))) (o_peek (pv 2)))) (a_cons (v_fz (xk hG.symm (o_peek (pv 0)))) a_nil)))))
ss_nil)
(ss_cons (s_if (t_eq hG.symm hu (o_peek (pv 2)) (o_v v_int))
(ss_one (s_ret (d_tup (a_cons v_str (a_cons (v_fz (xk hG.symm (o_peek (pv 0)))) a_nil)))))
ss_nil)
(ss_cons (s_if (t_eq hG.symm hu (o_peek (pv 2)) (o_v v_int))
(ss_one (s_ret (d_tup (a_cons v_str (a_cons (v_fz (xk hG.symm (o_peek (pv 0)))) a_nil)))))
ss_nil)
(ss_cons (s_if (t_eq hG.symm hu (o_peek (pv 2)) (o_v v_int))
(ss_one (s_ret (d_tup (a_cons v_str (a_cons (v_fz (xk hG.symm (o_peek (pv 0)))) a_nil)))))
ss_nil)
(ss_one (s_ret (d_tup (a_cons (v_fz (d_ix hG.symm (o_v (v_fz (d_lst (a_cons v_str (a_cons v_str a_nil))))) (o_v (v_fz (d_sub (o_peek (pv 2)) (o_v v_int)))))) (a_cons v_int a_nil)))))))))))))))) rd
theorem ok_comes_before (T : Tx P w mg base cs) (D : Df cs.K mg "comes_before" "comes_before" s_comes_before ["arrival", "finishes"]) (rd : ∀ ds M Q E, sp_comes_before cs ds M Q E → td_comes_before cs (endsD Q E) (startD ["arrival", "finishes"] ds) M) : Cal P w cs.K mg base 1 "comes_before" ["arrival", "finishes"] (sp_comes_before cs) :=
  D.cal sc_comes_before (td_comes_before cs) len_comes_before (fun f cdv A outer s H E G hG hr => have hu := DL.hu_of hr; (ss_one (s_ret (d_or (d_eq hG.symm hu (o_v (v_fz (d_ix hG.symm (o_peek (pv 0)) (o_v v_int)))) (o_v v_str)) (d_one (d_lt (o_v (v_fz (d_ix hG.symm (o_peek (pv 0)) (o_v v_int)))) (o_peek (pv 1)))))))) rd
theorem ok_is_integer (T : Tx P w mg base cs) (D : Df cs.K mg "is_integer" "is_integer" s_is_integer ["value", "least"]) (rd : ∀ ds M Q E, sp_is_integer cs ds M Q E → td_is_integer cs (endsD Q E) (startD ["value", "least"] ds) M) : Cal P w cs.K mg base 1 "is_integer" ["value", "least"] (sp_is_integer cs) :=
  D.cal sc_is_integer (td_is_integer cs) len_is_integer (fun f cdv A outer s H E G hG hr => have hu := DL.hu_of hr; (ss_one (s_ret (d_and (d_isi .int hG.symm (by rfl) T.n_isinstance (by rfl) T.n_int rfl (o_peek (pv 0))) (d_and (d_not (d_isi .bool hG.symm (by rfl) T.n_isinstance (by rfl) T.n_bool rfl (o_peek (pv 0)))) (d_one (d_ge (o_peek (pv 0)) (o_peek (pv 1))))))))) rd
theorem ok_is_arrival (T : Tx P w mg base cs) (Y_is_integer : Cal P w cs.K mg base 1 "is_integer" ["value", "least"] (sp_is_integer cs)) (D : Df cs.K mg "is_arrival" "is_arrival" s_is_arrival ["value"]) (rd : ∀ ds M Q E, sp_is_arrival cs ds M Q E → td_is_arrival cs (endsD Q E) (startD ["value"] ds) M) : Cal P w cs.K mg base 2 "is_arrival" ["value"] (sp_is_arrival cs) :=
  D.cal sc_is_arrival (td_is_arrival cs) len_is_arrival (fun f cdv A outer s H E G hG hr => have hu := DL.hu_of hr; (ss_cons (s_if (L2.PW.pt (w_or (t_not (t_ofT (d_isi .tuple hG.symm (by rfl) T.n_isinstance (by rfl) T.n_tuple rfl (o_peek (pv 0))))) (w_or (t_ne hG.symm hu (o_v (v_fz (d_len hG.symm (by rfl) T.n_len (ao_cons (o_peek (pv 0)) ao_nil)))) (o_v v_int)) (w_or1 (t_not (t_ofT (d_isi .str hG.symm (by rfl) T.n_isinstance (by rfl) T.n_str rfl (o_v (v_fz (d_ix hG.symm (o_peek (pv 0)) (o_v v_int)))))))))))
(ss_one (s_ret d_bl))
ss_nil)
(ss_cons (s_if (t_eq hG.symm hu (o_v (v_fz (d_ix hG.symm (o_peek (pv 0)) (o_v v_int)))) (o_v v_str))
(ss_one (s_ret (d_cal Y_is_integer hG.symm (hr.mono (by decide)) (by rfl) (takes_of rfl rfl rfl rfl) (a_cons (v_fz (d_ix hG.symm (o_peek (pv 0)) (o_v v_int))) (a_cons v_int a_nil)))))
ss_nil)
(ss_one (s_ret (d_and (d_eq hG.symm hu (o_v (v_fz (d_ix hG.symm (o_peek (pv 0)) (o_v v_int)))) (o_v v_str)) (d_one (d_cal Y_is_integer hG.symm (hr.mono (by decide)) (by rfl) (takes_of rfl rfl rfl rfl) (a_cons (v_fz (d_ix hG.symm (o_peek (pv 0)) (o_v v_int))) (a_cons v_int a_nil)))))))))) rd
theorem ok_is_name (T : Tx P w mg base cs) (D : Df cs.K mg "is_name" "is_name" s_is_name ["value"]) (rd : ∀ ds M Q E, sp_is_name cs ds M Q E → td_is_name cs (endsD Q E) (startD ["value", "char"] ds) M) : Cal P w cs.K mg base 1 "is_name" ["value"] (sp_is_name cs) :=
  D.cal sc_is_name (td_is_name cs) len_is_name (fun f cdv A outer s H E G hG hr => have hu := DL.hu_of hr; (ss_cons (s_if (L2.PW.pt (w_or (t_not (t_ofT (d_isi .str hG.symm (by rfl) T.n_isinstance (by rfl) T.n_str rfl (o_peek (pv 0))))) (w_or1 (t_not (t_chain op_le cl_le op_le cl_le (o_v v_int) (o_v (v_fz (d_len hG.symm (by rfl) T.n_len (ao_cons (o_peek (pv 0)) ao_nil)))) (o_v (v_glob (v := .int 8) (by rfl) T.g_LONGEST_NAME.choose_spec ⟨_, rfl⟩ (fun _ _ => .int _))))))))
(ss_one (s_ret d_bl))
ss_nil)
(ss_one (s_ret (d_all hG.symm rfl (by rfl) T.n_all (ao_cons (o_v (v_fz (d_lc rfl sc_is_name.nd (i_pk hG.symm (pv 0)) (blkOk_by (own := [(("char" : Str), 1)]) (by rfl)) (by decide) (fun G' hG' s H C cl fp => (g_name sc_is_name.nd rfl (by first | exact Or.inl rfl | exact Or.inr rfl))) (fun G' hG' s H C cl fp => ts_nil) (fun G' hG' s H C cl fp => (v_fz (d_in (hG.symm.trans hG'.symm) hu (o_peek (pv 1)) (o_v (v_glob (v := .str ("abcdefghijklmnopqrstuvwxyz" : Str)) (by rfl) T.g_LETTERS.choose_spec ⟨_, rfl⟩ (fun _ _ => .str _))))))))) ao_nil)))))) rd
theorem ok_is_job (T : Tx P w mg base cs) (Y_is_arrival : Cal P w cs.K mg base 2 "is_arrival" ["value"] (sp_is_arrival cs)) (Y_is_integer : Cal P w cs.K mg base 1 "is_integer" ["value", "least"] (sp_is_integer cs)) (Y_is_name : Cal P w cs.K mg base 1 "is_name" ["value"] (sp_is_name cs)) (D : Df cs.K mg "is_job" "is_job" s_is_job ["value"]) (rd : ∀ ds M Q E, sp_is_job cs ds M Q E → td_is_job cs (endsD Q E) (startD ["value", "name", "arrival", "entry"] ds) M) : Cal P w cs.K mg base 3 "is_job" ["value"] (sp_is_job cs) :=
  D.cal sc_is_job (td_is_job cs) len_is_job (fun f cdv A outer s H E G hG hr => have hu := DL.hu_of hr; (ss_cons (s_if (L2.PW.pt (w_or (t_not (t_ofT (d_isi .tuple hG.symm (by rfl) T.n_isinstance (by rfl) T.n_tuple rfl (o_peek (pv 0))))) (w_or1 (t_ne hG.symm hu (o_v (v_fz (d_len hG.symm (by rfl) T.n_len (ao_cons (o_peek (pv 0)) ao_nil)))) (o_v v_int)))))
(ss_one (s_ret d_bl))
ss_nil)
(ss_cons (s_asgT (v_var (pv 0)) (g_tup hG.symm rfl (gs_cons (g_name sc_is_job.nd rfl (Or.inl rfl)) (gs_cons (g_name sc_is_job.nd rfl (Or.inl rfl)) (gs_cons (g_name sc_is_job.nd rfl (Or.inl rfl)) gs_nil)))))
(ss_one (s_ret (d_and (d_cal Y_is_name hG.symm (hr.mono (by decide)) (by rfl) (takes_of rfl rfl rfl rfl) (a_cons (v_var (pv 1)) a_nil)) (d_and (d_cal Y_is_arrival hG.symm (hr.mono (by decide)) (by rfl) (takes_of rfl rfl rfl rfl) (a_cons (v_var (pv 2)) a_nil)) (d_and (d_cal Y_is_integer hG.symm (hr.mono (by decide)) (by rfl) (takes_of rfl rfl rfl rfl) (a_cons (v_var (pv 3)) (a_cons v_int a_nil))) (d_one (d_le (o_peek (pv 3)) (o_v (v_glob (v := .int 9) (by rfl) T.g_MOST_ENTRY.choose_spec ⟨_, rfl⟩ (fun _ _ => .int _))))))))))))) rd
theorem ok_check_jobs (T : Tx P w mg base cs) (Y_comes_before : Cal P w cs.K mg base 1 "comes_before" ["arrival", "finishes"] (sp_comes_before cs)) (Y_is_job : Cal P w cs.K mg base 3 "is_job" ["value"] (sp_is_job cs)) (D : Df cs.K mg "check_jobs" "check_jobs" s_check_jobs ["jobs"]) (rd : ∀ ds M Q E, sp_check_jobs cs ds M Q E → td_check_jobs cs (endsD Q E) (startD ["jobs", "names", "place", "job", "name", "arrival", "entry", "earlier"] ds) M) : Cal P w cs.K mg base 4 "check_jobs" ["jobs"] (sp_check_jobs cs) :=
  D.cal sc_check_jobs (td_check_jobs cs) len_check_jobs (fun f cdv A outer s H E G hG hr => have hu := DL.hu_of hr; (ss_cons (s_if (t_not (t_ofT (d_isi .tuple hG.symm (by rfl) T.n_isinstance (by rfl) T.n_tuple rfl (o_peek (pv 0)))))
(ss_one (s_rz T.x_NoJobs prI (hr.mono (by decide)) rfl (takes_of rfl rfl rfl rfl) (by rfl) v_int))
ss_nil)
(ss_cons (s_asg (i := 1) sc_check_jobs.nd rfl (Or.inl rfl) (d_lst a_nil))
(ss_cons (s_for (passes_of rfl) rfl (i_enum hG.symm (by rfl) T.n_enumerate (a_cons (v_var (pv 0)) a_nil)) (g_tup hG.symm rfl (gs_cons (g_name sc_check_jobs.nd rfl (Or.inl rfl)) (gs_cons (g_name sc_check_jobs.nd rfl (Or.inl rfl)) gs_nil)))
(ss_cons (s_if (L2.PW.pt (w_or (t_not (t_val (d_cal Y_is_job hG.symm (hr.mono (by decide)) (by rfl) (takes_of rfl rfl rfl rfl) (a_cons (v_var (pv 3)) a_nil)))) (w_or1 (t_in hG.symm hu (o_v (v_fz (d_ix hG.symm (o_peek (pv 3)) (o_v v_int)))) (o_peek (pv 1))))))
(ss_one (s_rz T.x_NoJobs prI (hr.mono (by decide)) rfl (takes_of rfl rfl rfl rfl) (by rfl) (v_var (pv 2))))
ss_nil)
(ss_one (s_app hG.symm (pv 1) (v_fz (d_ix hG.symm (o_peek (pv 3)) (o_v v_int)))))))
(ss_one (s_for (passes_of rfl) rfl (i_enum hG.symm (by rfl) T.n_enumerate (a_cons (v_var (pv 0)) a_nil)) (g_tup hG.symm rfl (gs_cons (g_name sc_check_jobs.nd rfl (Or.inl rfl)) (gs_cons (g_tup hG.symm rfl (gs_cons (g_name sc_check_jobs.nd rfl (Or.inl rfl)) (gs_cons (g_name sc_check_jobs.nd rfl (Or.inr rfl)) (gs_cons (g_name sc_check_jobs.nd rfl (Or.inl rfl)) gs_nil)))) gs_nil)))
(ss_one (s_if (t_eq hG.symm hu (o_v (v_fz (d_ix hG.symm (o_peek (pv 5)) (o_v v_int)))) (o_v v_str))
(ss_cons (s_setLc (i := 7) rfl sc_check_jobs.nd rfl rfl (by rfl) (i_pk hG.symm (pv 0)) (blkOk_by (own := [(("job" : Str), 3)]) (by rfl)) (by decide) (fun G' hG' s H C cl fp => (g_name sc_check_jobs.nd rfl (by first | exact Or.inl rfl | exact Or.inr rfl))) (fun G' hG' s H C cl fp => (ts_one (t_val (d_cal Y_comes_before (hG.symm.trans hG'.symm) (hr.mono (by decide)) (by rfl) takes0 (a_cons (v_fz (d_ix (hG.symm.trans hG'.symm) (o_peek (pv 3)) (o_v v_int))) (a_cons (v_fz (d_ix (hG.symm.trans hG'.symm) (o_peek (pv 5)) (o_v v_int))) a_nil)))))) (fun G' hG' s H C cl fp => (v_var (pv 3))))
(ss_one (s_if (t_lt (o_v (v_fz (d_len hG.symm (by rfl) T.n_len (ao_cons (o_peek (pv 7)) ao_nil)))) (o_v (v_fz (d_ix hG.symm (o_peek (pv 5)) (o_v v_int)))))
(ss_one (s_rz T.x_NoJobs prI (hr.mono (by decide)) rfl (takes_of rfl rfl rfl rfl) (by rfl) (v_var (pv 2))))
ss_nil)))
ss_nil)))))))) rd
theorem ok_check_log (T : Tx P w mg base cs) (Y_is_integer : Cal P w cs.K mg base 1 "is_integer" ["value", "least"] (sp_is_integer cs)) (D : Df cs.K mg "check_log" "check_log" s_check_log ["log"]) (rd : ∀ ds M Q E, sp_check_log cs ds M Q E → td_check_log cs (endsD Q E) (startD ["log", "before", "place", "pair"] ds) M) : Cal P w cs.K mg base 3 "check_log" ["log"] (sp_check_log cs) :=
  D.cal sc_check_log (td_check_log cs) len_check_log (fun f cdv A outer s H E G hG hr => have hu := DL.hu_of hr; (ss_cons (s_if (t_not (t_ofT (d_isi .tuple hG.symm (by rfl) T.n_isinstance (by rfl) T.n_tuple rfl (o_peek (pv 0)))))
(ss_one (s_rz T.x_NoLog prI (hr.mono (by decide)) rfl (takes_of rfl rfl rfl rfl) (by rfl) v_int))
ss_nil)
(ss_cons (s_asg (i := 1) sc_check_log.nd rfl (Or.inl rfl) d_int)
(ss_one (s_for (passes_of rfl) rfl (i_enum hG.symm (by rfl) T.n_enumerate (a_cons (v_var (pv 0)) a_nil)) (g_tup hG.symm rfl (gs_cons (g_name sc_check_log.nd rfl (Or.inl rfl)) (gs_cons (g_name sc_check_log.nd rfl (Or.inl rfl)) gs_nil)))
(ss_cons (s_if (L2.PW.pt (w_or (t_not (t_ofT (d_isi .tuple hG.symm (by rfl) T.n_isinstance (by rfl) T.n_tuple rfl (o_peek (pv 3))))) (w_or1 (t_ne hG.symm hu (o_v (v_fz (d_len hG.symm (by rfl) T.n_len (ao_cons (o_peek (pv 3)) ao_nil)))) (o_v v_int)))))
(ss_one (s_rz T.x_NoLog prI (hr.mono (by decide)) rfl (takes_of rfl rfl rfl rfl) (by rfl) (v_var (pv 2))))
ss_nil)
(ss_cons (s_if (L2.PW.pt (w_or (t_not (t_val (d_cal Y_is_integer hG.symm (hr.mono (by decide)) (by rfl) (takes_of rfl rfl rfl rfl) (a_cons (v_fz (d_ix hG.symm (o_peek (pv 3)) (o_v v_int))) (a_cons (v_fz (d_add hG.symm (o_peek (pv 1)) (o_v v_int))) a_nil))))) (w_or1 (t_not (t_val (d_cal Y_is_integer hG.symm (hr.mono (by decide)) (by rfl) (takes_of rfl rfl rfl rfl) (a_cons (v_fz (d_ix hG.symm (o_peek (pv 3)) (o_v v_int))) (a_cons v_int a_nil))))))))
(ss_one (s_rz T.x_NoLog prI (hr.mono (by decide)) rfl (takes_of rfl rfl rfl rfl) (by rfl) (v_var (pv 2))))
ss_nil)
(ss_one (s_asg (i := 1) sc_check_log.nd rfl (Or.inl rfl) (d_ix hG.symm (o_peek (pv 3)) (o_v v_int))))))))))) rd
theorem ok_has_arrived (T : Tx P w mg base cs) (D : Df cs.K mg "has_arrived" "has_arrived" s_has_arrived ["arrival", "moment", "finished"]) (rd : ∀ ds M Q E, sp_has_arrived cs ds M Q E → td_has_arrived cs (endsD Q E) (startD ["arrival", "moment", "finished", "limit"] ds) M) : Cal P w cs.K mg base 1 "has_arrived" ["arrival", "moment", "finished"] (sp_has_arrived cs) :=
  D.cal sc_has_arrived (td_has_arrived cs) len_has_arrived (fun f cdv A outer s H E G hG hr => have hu := DL.hu_of hr; (ss_cons (s_asg (i := 3) sc_has_arrived.nd rfl (Or.inl rfl) (d_if (t_eq hG.symm hu (o_v (v_fz (d_ix hG.symm (o_peek (pv 0)) (o_v v_int)))) (o_v v_str)) (d_var (pv 1)) (d_var (pv 2))))
(ss_one (s_ret (d_le (o_v (v_fz (d_ix hG.symm (o_peek (pv 0)) (o_v v_int)))) (o_peek (pv 3))))))) rd
theorem ok_count_arrived (T : Tx P w mg base cs) (Y_has_arrived : Cal P w cs.K mg base 1 "has_arrived" ["arrival", "moment", "finished"] (sp_has_arrived cs)) (D : Df cs.K mg "count_arrived" "count_arrived" s_count_arrived ["jobs", "moment", "finished"]) (rd : ∀ ds M Q E, sp_count_arrived cs ds M Q E → td_count_arrived cs (endsD Q E) (startD ["jobs", "moment", "finished", "job"] ds) M) : Cal P w cs.K mg base 2 "count_arrived" ["jobs", "moment", "finished"] (sp_count_arrived cs) :=
  D.cal sc_count_arrived (td_count_arrived cs) len_count_arrived (fun f cdv A outer s H E G hG hr => have hu := DL.hu_of hr; (ss_one (s_ret (d_len hG.symm (by rfl) T.n_len (ao_cons (o_v (v_fz (d_lc rfl sc_count_arrived.nd (i_pk hG.symm (pv 0)) (blkOk_by (own := [(("job" : Str), 3)]) (by rfl)) (by decide) (fun G' hG' s H C cl fp => (g_name sc_count_arrived.nd rfl (by first | exact Or.inl rfl | exact Or.inr rfl))) (fun G' hG' s H C cl fp => (ts_one (t_val (d_cal Y_has_arrived (hG.symm.trans hG'.symm) (hr.mono (by decide)) (by rfl) takes0 (a_cons (v_fz (d_ix (hG.symm.trans hG'.symm) (o_peek (pv 3)) (o_v v_int))) (a_cons (v_var (pv 1)) (a_cons (v_var (pv 2)) a_nil))))))) (fun G' hG' s H C cl fp => (v_var (pv 3)))))) ao_nil))))) rd
theorem ok_present_in (T : Tx P w mg base cs) (Y_count_arrived : Cal P w cs.K mg base 2 "count_arrived" ["jobs", "moment", "finished"] (sp_count_arrived cs)) (D : Df cs.K mg "present_in" "present_in" s_present_in ["jobs", "unit", "finished"]) (rd : ∀ ds M Q E, sp_present_in cs ds M Q E → td_present_in cs (endsD Q E) (startD ["jobs", "unit", "finished"] ds) M) : Cal P w cs.K mg base 3 "present_in" ["jobs", "unit", "finished"] (sp_present_in cs) :=
  D.cal sc_present_in (td_present_in cs) len_present_in (fun f cdv A outer s H E G hG hr => have hu := DL.hu_of hr; (ss_one (s_ret (d_sub (o_v (v_fz (d_cal Y_count_arrived hG.symm (hr.mono (by decide)) (by rfl) (takes_of rfl rfl rfl rfl) (a_cons (v_var (pv 0)) (a_cons (v_fz (d_sub (o_peek (pv 1)) (o_v v_int))) (a_cons (v_var (pv 2)) a_nil)))))) (o_peek (pv 2)))))) rd
theorem ok_first_fault (T : Tx P w mg base cs) (Y_check_jobs : Cal P w cs.K mg base 4 "check_jobs" ["jobs"] (sp_check_jobs cs)) (Y_check_log : Cal P w cs.K mg base 3 "check_log" ["log"] (sp_check_log cs)) (Y_present_in : Cal P w cs.K mg base 3 "present_in" ["jobs", "unit", "finished"] (sp_present_in cs)) {f : Addr} {fd : FuncData} (F : Fun cs.K "first_fault" "first_fault" s_first_fault f fd) (rd : ∀ ds M Q E, sp_first_fault cs ds M Q E → td_first_fault cs (endsD Q E) (startD ["jobs", "log", "processors", "finished", "unit", "finishes", "running"] ds) M) : FnOk P w cs.K mg base (L2.CX P w) 5 f fd ["jobs", "log", "processors"] (LSp cs.K (sp_first_fault cs)) :=
  DL.Fun.okD F sc_first_fault (td_first_fault cs) len_first_fault (fun cdv A outer s H E G hG hr => have hu := DL.hu_of hr; (ss_cons (s_expr (d_cal Y_check_jobs hG.symm (hr.mono (by decide)) (by rfl) (takes_of rfl rfl rfl rfl) (a_cons (v_var (pv 0)) a_nil)))
(ss_cons (s_expr (d_cal Y_check_log hG.symm (hr.mono (by decide)) (by rfl) (takes_of rfl rfl rfl rfl) (a_cons (v_var (pv 1)) a_nil)))
(ss_cons (s_asg (i := 3) sc_first_fault.nd rfl (Or.inl rfl) d_int)
(ss_cons (s_for (passes_of rfl) rfl (i_any hG.symm (v_var (pv 1))) (g_tup hG.symm rfl (gs_cons (g_name sc_first_fault.nd rfl (Or.inl rfl)) (gs_cons (g_name sc_first_fault.nd rfl (Or.inl rfl)) gs_nil)))
(ss_cons (s_asg (i := 6) sc_first_fault.nd rfl (Or.inl rfl) (d_min2 rfl (by rfl) T.n_min (ao_cons (o_peek (pv 2)) (ao_cons (o_v (v_fz (d_cal Y_present_in hG.symm (hr.mono (by decide)) (by rfl) (takes_of rfl rfl rfl rfl) (a_cons (v_var (pv 0)) (a_cons (v_var (pv 4)) (a_cons (v_var (pv 3)) a_nil)))))) ao_nil))))
(ss_cons (s_if (t_gt (o_peek (pv 5)) (o_peek (pv 6)))
(ss_one (s_ret (d_tup (a_cons v_str (a_cons (v_var (pv 4)) (a_cons (v_var (pv 6)) a_nil))))))
ss_nil)
(ss_one (s_aug (i := 3) sc_first_fault.nd rfl (Or.inl rfl) (v_var (pv 5)) ip_add)))))
(ss_cons (s_if (t_lt (o_peek (pv 3)) (o_v (v_fz (d_len hG.symm (by rfl) T.n_len (ao_cons (o_peek (pv 0)) ao_nil)))))
(ss_one (s_ret (d_tup (a_cons v_str (a_cons (v_fz (d_sub (o_v (v_fz (d_len hG.symm (by rfl) T.n_len (ao_cons (o_peek (pv 0)) ao_nil)))) (o_peek (pv 3)))) a_nil)))))
ss_nil)
(ss_one (s_ret d_non)))))))) rd
theorem ok_law_right (T : Tx P w mg base cs) (Y_law_certificate : Cal P w cs.K mg base 2 "_law_certificate" ["jobs", "log", "cores"] (sp_law_certificate cs)) (Y_law_kind : Cal P w cs.K mg base 1 "_law_kind" ["caught"] (sp_law_kind cs)) (Y_law_log_fault : Cal P w cs.K mg base 2 "_law_log_fault" ["log"] (sp_law_log_fault cs)) (YK_first_fault_2 : CalK P w cs.K mg base 5 "first_fault" 2 [] (spk_first_fault_2 cs)) (YK_first_fault_2_processors : CalK P w cs.K mg base 5 "first_fault" 2 ["processors"] (spk_first_fault_2_processors cs)) (D : Df cs.K mg "_law_right" "_law_right" s_law_right ["jobs", "log", "cores"]) (rd : ∀ ds M Q E, sp_law_right cs ds M Q E → td_law_right cs (endsD Q E) (startD ["jobs", "log", "cores", "fault", "caught", "found", "e", "due"] ds) M) : Cal P w cs.K mg base 6 "_law_right" ["jobs", "log", "cores"] (sp_law_right cs) :=
  D.cal sc_law_right (td_law_right cs) len_law_right (fun f cdv A outer s H E G hG hr => have hu := DL.hu_of hr; (ss_cons (s_asg (i := 3) sc_law_right.nd rfl (Or.inl rfl) (d_cal Y_law_log_fault hG.symm (hr.mono (by decide)) (by rfl) (takes_of rfl rfl rfl rfl) (a_cons (v_var (pv 1)) a_nil)))
(ss_cons (s_asg (i := 4) sc_law_right.nd rfl (Or.inl rfl) d_non)
(ss_cons (s_asg (i := 5) sc_law_right.nd rfl (Or.inl rfl) d_non)
(ss_cons (s_try (i := 6) rfl rfl rfl sc_law_right.nd rfl rfl ⟨rfl, by decide, Or.inl T.c_SlotError⟩
(fun G' hG' W' pn xe tk ps => (ss_one (s_asg (i := 5) sc_law_right.nd rfl (Or.inl rfl) (d_calKn YK_first_fault_2_processors rfl (hG.symm.trans hG'.symm) (hr.mono (by decide)) (by rfl) tk (a_cons (v_var (pv 0)) (a_cons (v_var (pv 1)) a_nil)) (k_cons (v_var (pv 2)) k_nil)))))
(fun a oe pn => (ss_one (s_asg (i := 4) sc_law_right.nd rfl (Or.inl rfl) (d_var (pv 6))))))
(ss_cons (s_if (t_isNot (o_peek (pv 3)) (o_v v_non))
(ss_one (s_ret (d_and (d_isNot (o_peek (pv 4)) (o_v v_non)) (d_one (d_eq hG.symm hu (o_v (v_fz (d_cal Y_law_kind hG.symm (hr.mono (by decide)) (by rfl) (takes_of rfl rfl rfl rfl) (a_cons (v_var (pv 4)) a_nil)))) (o_v (v_fz (d_tup (a_cons v_str (a_cons (v_var (pv 3)) a_nil))))))))))
ss_nil)
(ss_cons (s_if (L2.PW.pt (w_and (t_eq hG.symm hu (o_peek (pv 2)) (o_v v_int)) (w_and1 (t_ne hG.symm hu (o_v (v_fz (d_calKn YK_first_fault_2 rfl hG.symm (hr.mono (by decide)) (by rfl) (takes_of rfl rfl rfl rfl) (a_cons (v_var (pv 0)) (a_cons (v_var (pv 1)) a_nil)) k_nil))) (o_peek (pv 5))))))
(ss_one (s_ret d_bl))
ss_nil)
(ss_cons (s_asg (i := 7) sc_law_right.nd rfl (Or.inl rfl) (d_cal Y_law_certificate hG.symm (hr.mono (by decide)) (by rfl) (takes_of rfl rfl rfl rfl) (a_cons (v_var (pv 0)) (a_cons (v_var (pv 1)) (a_cons (v_var (pv 2)) a_nil)))))
(ss_one (s_ret (d_and (d_is (o_peek (pv 4)) (o_v v_non)) (d_and (d_eq hG.symm hu (o_peek (pv 5)) (o_peek (pv 7))) (d_one (d_or (d_is (o_peek (pv 7)) (o_v v_non)) (d_one (d_isi .tuple hG.symm (by rfl) T.n_isinstance (by rfl) T.n_tuple rfl (o_peek (pv 5)))))))))))))))))) rd
theorem ok_law_store (T : Tx P w mg base cs) (D : Df cs.K mg "_law_store" "_law_store" s_law_store ["script"]) (rd : ∀ ds M Q E, sp_law_store cs ds M Q E → td_law_store cs (endsD Q E) (startD ["script", "mixed", "cell"] ds) M) : Cal P w cs.K mg base 1 "_law_store" ["script"] (sp_law_store cs) :=
  D.cal sc_law_store (td_law_store cs) len_law_store (fun f cdv A outer s H E G hG hr => have hu := DL.hu_of hr; (ss_cons (s_asg (i := 1) sc_law_store.nd rfl (Or.inl rfl) (d_len hG.symm (by rfl) T.n_len (ao_cons (o_peek (pv 0)) ao_nil)))
(ss_cons (s_for (passes_of rfl) rfl (i_any hG.symm (v_fz (d_slice hG.symm (o_peek (pv 0)) p_none (p_some d_int)))) (g_name sc_law_store.nd rfl (Or.inl rfl))
(ss_one (s_asg (i := 1) sc_law_store.nd rfl (Or.inl rfl) (d_mod (o_v (v_fz (d_add hG.symm (o_v (v_fz (d_add hG.symm (o_v (v_fz (d_mul hG.symm (o_peek (pv 1)) (o_v v_int)))) (o_v (v_fz (d_mod (o_peek (pv 2)) (o_v v_int))))))) (o_v v_int)))) (o_v v_int)))))
(ss_one (s_ret (d_lst (a_cons (v_fz (d_slice hG.symm (o_peek (pv 0)) p_none (p_some d_int))) (a_cons v_int (a_cons v_int (a_cons (v_var (pv 1)) (a_cons v_int a_nil))))))))))) rd
theorem ok_law (T : Tx P w mg base cs) (Y_law_bad_log : Cal P w cs.K mg base 3 "_law_bad_log" ["store", "log"] (sp_law_bad_log cs)) (Y_law_jobs : Cal P w cs.K mg base 4 "_law_jobs" ["store", "most", "late"] (sp_law_jobs cs)) (Y_law_log : Cal P w cs.K mg base 3 "_law_log" ["store", "jobs", "cores", "wide"] (sp_law_log cs)) (Y_law_log_fault : Cal P w cs.K mg base 2 "_law_log_fault" ["log"] (sp_law_log_fault cs)) (Y_law_pick : Cal P w cs.K mg base 2 "_law_pick" ["store", "count"] (sp_law_pick cs)) (Y_law_right : Cal P w cs.K mg base 6 "_law_right" ["jobs", "log", "cores"] (sp_law_right cs)) (Y_law_store : Cal P w cs.K mg base 1 "_law_store" ["script"] (sp_law_store cs)) (YK_first_fault_2 : CalK P w cs.K mg base 5 "first_fault" 2 [] (spk_first_fault_2 cs)) {f : Addr} {fd : FuncData} (F : Fun cs.K "law" "law" s_law f fd) (rd : ∀ ds M Q E, sp_law cs ds M Q E → td_law cs (endsD Q E) (startD ["script", "store", "turn", "jobs", "cores", "log", "some", "k", "bad"] ds) M) : FnOk P w cs.K mg base (L2.CX P w) 7 f fd ["script"] (LSp cs.K (sp_law cs)) :=
  DL.Fun.okD F sc_law (td_law cs) len_law (fun cdv A outer s H E G hG hr => have hu := DL.hu_of hr; (ss_cons (s_asg (i := 1) sc_law.nd rfl (Or.inl rfl) (d_cal Y_law_store hG.symm (hr.mono (by decide)) (by rfl) (takes_of rfl rfl rfl rfl) (a_cons (v_var (pv 0)) a_nil)))
(ss_share 1 (ss_cons (s_for (passes_of rfl) rfl (i_range1 (by rfl) T.n_range (a_cons v_int a_nil)) (g_name sc_law.nd rfl (Or.inl rfl))
(ss_frz 1 (ss_cons (s_asg (i := 3) sc_law.nd rfl (Or.inl rfl) (d_cal Y_law_jobs hG.symm (hr.mono (by decide)) (by rfl) (takes_of rfl rfl rfl rfl) (a_cons (v_var (pv 1)) (a_cons (v_fz (d_ix hG.symm (o_v (v_fz (d_lst (a_cons v_int (a_cons v_int (a_cons v_int a_nil)))))) (o_peek (pv 2)))) (a_cons v_int a_nil)))))
(ss_frz 1 (ss_cons (s_asg (i := 4) sc_law.nd rfl (Or.inl rfl) (d_add hG.symm (o_v v_int) (o_v (v_fz (d_cal Y_law_pick hG.symm (hr.mono (by decide)) (by rfl) (takes_of rfl rfl rfl rfl) (a_cons (v_var (pv 1)) (a_cons v_int a_nil)))))))
(ss_frz 1 (ss_cons (s_asg (i := 5) sc_law.nd rfl (Or.inl rfl) (d_cal Y_law_log hG.symm (hr.mono (by decide)) (by rfl) (takes_of rfl rfl rfl rfl) (a_cons (v_var (pv 1)) (a_cons (v_var (pv 3)) (a_cons (v_var (pv 4)) (a_cons v_int a_nil))))))
(ss_cons (s_for (passes_of rfl) rfl (i_any hG.symm (v_fz (d_lst (a_cons (v_var (pv 4)) (a_cons (v_fz (d_max2 rfl (by rfl) T.n_max (ao_cons (o_v v_int) (ao_cons (o_v (v_fz (d_sub (o_peek (pv 4)) (o_v v_int)))) ao_nil)))) (a_cons (v_fz (d_min2 rfl (by rfl) T.n_min (ao_cons (o_v v_int) (ao_cons (o_v (v_fz (d_add hG.symm (o_peek (pv 4)) (o_v v_int)))) ao_nil)))) a_nil)))))) (g_name sc_law.nd rfl (Or.inl rfl))
(ss_one (s_if (L2.PW.pt (w_or (t_not (t_val (d_cal Y_law_right hG.symm (hr.mono (by decide)) (by rfl) (takes_of rfl rfl rfl rfl) (a_cons (v_var (pv 3)) (a_cons (v_var (pv 5)) (a_cons (v_var (pv 6)) a_nil)))))) (w_or1 (t_not (t_val (d_cal Y_law_right hG.symm (hr.mono (by decide)) (by rfl) (takes_of rfl rfl rfl rfl) (a_cons (v_var (pv 3)) (a_cons (v_fz (d_slice hG.symm (o_peek (pv 5)) p_none (p_some (d_neg (o_v v_int))))) (a_cons (v_var (pv 6)) a_nil)))))))))
(ss_one (s_ret d_bl))
ss_nil)))
(ss_one (s_for (passes_of rfl) rfl (i_range1 (by rfl) T.n_range (a_cons v_int a_nil)) (g_name sc_law.nd rfl (Or.inl rfl))
(ss_frz 1 (ss_cons (s_asg (i := 8) sc_law.nd rfl (Or.inl rfl) (d_cal Y_law_bad_log hG.symm (hr.mono (by decide)) (by rfl) (takes_of rfl rfl rfl rfl) (a_cons (v_var (pv 1)) (a_cons (v_var (pv 5)) a_nil))))
(ss_cons (s_if (t_not (t_val (d_cal Y_law_right hG.symm (hr.mono (by decide)) (by rfl) (takes_of rfl rfl rfl rfl) (a_cons (v_var (pv 3)) (a_cons (v_var (pv 8)) (a_cons (v_var (pv 4)) a_nil))))))
(ss_one (s_ret d_bl))
ss_nil)
(ss_frz 1 (ss_one (s_if (L2.PW.pt (w_and (t_is (o_v (v_fz (d_cal Y_law_log_fault hG.symm (hr.mono (by decide)) (by rfl) (takes_of rfl rfl rfl rfl) (a_cons (v_var (pv 8)) a_nil)))) (o_v v_non)) (w_and1 (t_not (t_val (d_cal Y_law_right hG.symm (hr.mono (by decide)) (by rfl) (takes_of rfl rfl rfl rfl) (a_cons (v_var (pv 3)) (a_cons (v_fz (d_cal Y_law_bad_log hG.symm (hr.mono (by decide)) (by rfl) (takes_of rfl rfl rfl rfl) (a_cons (v_var (pv 1)) (a_cons (v_var (pv 8)) a_nil)))) (a_cons (v_var (pv 4)) a_nil)))))))))
(ss_one (s_ret d_bl))
ss_nil))))))))))))))))
(ss_cons (s_asg (i := 3) sc_law.nd rfl (Or.inl rfl) (d_tup (a_cons (v_fz (d_tup (a_cons v_str (a_cons (v_fz (d_tup (a_cons v_str (a_cons v_int a_nil)))) (a_cons v_int a_nil))))) (a_cons (v_fz (d_tup (a_cons v_str (a_cons (v_fz (d_tup (a_cons v_str (a_cons v_int a_nil)))) (a_cons v_int a_nil))))) a_nil))))
(ss_one (s_ret (d_and (d_eq hG.symm hu (o_v (v_fz (d_calKn YK_first_fault_2 rfl hG.symm (hr.mono (by decide)) (by rfl) (takes_of rfl rfl rfl rfl) (a_cons (v_var (pv 3)) (a_cons (v_fz (d_tup (a_cons (v_fz (d_tup (a_cons v_int (a_cons v_int a_nil)))) (a_cons (v_fz (d_tup (a_cons v_int (a_cons v_int a_nil)))) a_nil)))) a_nil)) k_nil))) (o_v (v_fz (d_tup (a_cons v_str (a_cons v_int (a_cons v_int a_nil))))))) (d_one (d_is (o_v (v_fz (d_calKn YK_first_fault_2 rfl hG.symm (hr.mono (by decide)) (by rfl) (takes_of rfl rfl rfl rfl) (a_cons (v_fz (d_tup a_nil)) (a_cons (v_fz (d_tup a_nil)) a_nil)) k_nil))) (o_v v_non))))))))))) rd
end
end Lw

set_option Elab.async false
set_option linter.all false
set_option maxRecDepth 100000
set_option maxHeartbeats 4000000
namespace Lw
open PySem PySem.Spec PyProof.Rows L2 DL
section
variable {cs : Cs} {M : MH} {Q : Sl → MH → Prop} {E : Addr → List (Str × D) → MH → Prop}
theorem rd_law_mix : ∀ ds M Q E, sp_law_mix cs ds M Q E → td_law_mix cs (endsD Q E) (startD ["number", "turn", "value"] ds) M := rd_mix
theorem store_mono {M : MH} {a : Addr} {n m : Nat} (h : StoreAt M a n) (hm : n ≤ m) : StoreAt M a m := by
  obtain ⟨cs, i, l, x, d, h1, h2, h3, h4, h5⟩ := h
  exact ⟨cs, i, l, x, d, h1, h2, h3, h4, by omega⟩
theorem store_ext {M M' : MH} {a : Addr} {n : Nat} (h : StoreAt M a n) (e : ∀ b o, M b = some o → M' b = some o) : StoreAt M' a n := by
  obtain ⟨cs, i, l, x, d, h1, h2⟩ := h
  exact ⟨cs, i, l, x, d, e _ _ h1, h2⟩
theorem rd_law_pick : ∀ ds M Q E, sp_law_pick cs ds M Q E → td_law_pick cs (endsD Q E) (startD ["store", "count", "cell", "digit"] ds) M := rd_pick
/-- a draw -/
theorem pick_at {a : Addr} {c : Int} {n : Nat} (h : StoreAt M a n) (h1 : 0 < c) (h2 : c < 1073741824) (h3 : n < 2 ^ 62) (k : ∀ r M', 0 ≤ r → r < c → StoreAt M' a (n + 1) → (∀ b, b ≠ a → M' b = M b) → Q (.d (.int r)) M') : sp_law_pick cs [.ref a, .int c] M Q E :=
  ⟨a, c, n, rfl, h, h1, h2, h3, k⟩
end
end Lw

set_option Elab.async false
set_option linter.all false
set_option maxRecDepth 100000
set_option maxHeartbeats 4000000
namespace Lw
open PySem PySem.Spec PyProof.Rows L2 DL
section
variable {cs : Cs} {M : MH} {Q : Sl → MH → Prop} {E : Addr → List (Str × D) → MH → Prop}
theorem lets_tx : Str.ofString "abcdefghijklmnopqrstuvwxyz" = tx lets := by decide +kernel
theorem so_at : PyData.strOk (Str.ofString "at") = true := by decide +kernel
theorem so_after : PyData.strOk (Str.ofString "after") = true := by decide +kernel
theorem ne_aft : Str.ofString "after" ≠ Str.ofString "at" := by decide +kernel
theorem befA_eq {k : Str} {m n : Int} : befA (.tup [.str k, .int m]) n = (decide (k = "at") || decide (m < n)) := by
  show (!(!decide (k = "at")) || decide (m < n)) = _
  rw [Bool.not_not]
theorem isArrD_eq {s : Str} {b : D} : isArrD (.tup [.str s, b]) = if s = "at" then isIntD b 0 else decide (s = "after") && isIntD b 1 := rfl
theorem isNameD_eq {s : Str} : isNameD (.str s) = (decide (1 ≤ s.length ∧ s.length ≤ 8) && s.cps.toList.all fun c => decide (c ∈ lets)) := rfl
/-- a sign of a text -/
def chD : D → Nat
  | .str s => s.cps.toList.headD 0
  | _ => 0
theorem mem_sgD {s : Str} {x : D} (h : x ∈ sgD s) : ∃ c, c ∈ s.cps.toList ∧ x = .str ⟨#[c]⟩ := by
  obtain ⟨c, hc, e⟩ := List.mem_map.mp h
  exact ⟨c, hc, e.symm⟩
theorem sgD_len {s : Str} : (sgD s).length = s.length := by simp [sgD, Str.length]
theorem bad_signs {s : Str} (h : PyData.strOk s = true) : D.Ok (.lst (([] : List D) ++ ((sgD s).filter fun d => !decide (chD d ∈ lets)).map fun d => d)) ∧
    (([] : List D) ++ ((sgD s).filter fun d => !decide (chD d ∈ lets)).map fun d => d).isEmpty = s.cps.toList.all fun c => decide (c ∈ lets) := by
  refine ⟨ok_flatL fun x hx => ?_, ?_⟩
  · simp only [List.nil_append, List.map_id'] at hx
    obtain ⟨c, hc, rfl⟩ := mem_sgD (List.mem_filter.mp hx).1
    refine ⟨rfl, ?_⟩
    have h' : ∀ c ∈ s.cps.toList, c < 0x110000 := by
      have h0 : (s.cps.all fun c => decide (c < 0x110000)) = true := h
      rw [← Array.all_toList] at h0
      intro c hc
      simpa using List.all_eq_true.mp h0 c hc
    simp only [D.nr, PyData.strOk]
    simpa using h' c hc
  · simp only [List.nil_append, List.map_id']
    rw [Bool.eq_iff_iff, List.isEmpty_iff, List.filter_eq_nil_iff, List.all_eq_true]
    constructor
    · intro h c hc
      have := h (.str ⟨#[c]⟩) (List.mem_map.mpr ⟨c, hc, rfl⟩)
      simpa [chD] using this
    · intro h d hd
      obtain ⟨c, hc, rfl⟩ := mem_sgD hd
      simpa [chD] using h c hc
theorem name_parts {v : D} (h : isNameD v = true) : ∃ s, v = .str s ∧ (1 ≤ s.length ∧ s.length ≤ 8) ∧ ∀ c ∈ s.cps.toList, c ∈ lets := by
  cases v with
  | str s =>
    rw [isNameD_eq, Bool.and_eq_true] at h
    exact ⟨s, rfl, of_decide_eq_true h.1, fun c hc => by simpa using List.all_eq_true.mp h.2 c hc⟩
  | _ => cases h
theorem int_parts {v : D} {l : Int} (h : isIntD v l = true) : ∃ i, v = .int i ∧ l ≤ i := by
  cases v with
  | int i => exact ⟨i, rfl, of_decide_eq_true h⟩
  | _ => cases h
theorem arr_parts {v : D} (h : isArrD v = true) : ∃ k m, v = .tup [.str k, .int m] ∧ PyData.strOk k = true ∧ (k = "at" ∧ 0 ≤ m ∨ k = "after" ∧ 1 ≤ m) := by
  unfold isArrD at h
  split at h
  · rename_i k x
    split at h
    · rename_i e
      obtain ⟨i, rfl, hi⟩ := int_parts h
      exact ⟨k, i, rfl, by rw [e]; exact so_at, .inl ⟨e, hi⟩⟩
    · rw [Bool.and_eq_true] at h
      obtain ⟨i, rfl, hi⟩ := int_parts h.2
      have e := of_decide_eq_true h.1
      exact ⟨k, i, rfl, by rw [e]; exact so_after, .inr ⟨e, hi⟩⟩
  · cases h
theorem job_parts {v : D} (h : isJobD v = true) : ∃ s k m i, v = .tup [.str s, .tup [.str k, .int m], .int i] ∧ isNameD (.str s) = true ∧ PyData.strOk k = true ∧ (k = "at" ∧ 0 ≤ m ∨ k = "after" ∧ 1 ≤ m) ∧ 0 ≤ i ∧ i ≤ 9 := by
  unfold isJobD at h
  split at h
  · rename_i n a e
    rw [Bool.and_eq_true, Bool.and_eq_true] at h
    obtain ⟨s, rfl, _⟩ := name_parts h.1.1
    obtain ⟨k, m, rfl, hk, hm⟩ := arr_parts h.1.2
    have h2 := h.2
    cases e with
    | int i =>
      have h3 : (decide (0 ≤ i) && decide (i ≤ 9)) = true := h2
      rw [Bool.and_eq_true] at h3
      exact ⟨s, k, m, i, rfl, h.1.1, hk, hm, of_decide_eq_true h3.1, of_decide_eq_true h3.2⟩
    | _ => cases h2
  · cases h
theorem name_ok {s : Str} (h : isNameD (.str s) = true) : PyData.strOk s = true ∧ s.length ≤ 8 := by
  obtain ⟨s', e, hl, hc⟩ := name_parts h
  cases e
  refine ⟨?_, hl.2⟩
  have h0 : (s.cps.all fun c => decide (c < 0x110000)) = true := by
    rw [← Array.all_toList, List.all_eq_true]
    intro c h
    have := hc c h
    have := List.mem_range'.mp this
    obtain ⟨i, hi, rfl⟩ := this
    exact decide_eq_true (by omega)
  exact h0
theorem job_fit {v : D} (h : isJobD v = true) : v.fit = true ∧ FlatA v ∧ v.dp ≤ 2 := by
  obtain ⟨s, k, m, i, rfl, hn, hk, hm, _⟩ := job_parts h
  obtain ⟨h1, h2⟩ := name_ok hn
  have hl : k.length ≤ 1000 := by rcases hm with ⟨rfl, _⟩ | ⟨rfl, _⟩ <;> decide +kernel
  refine ⟨?_, fun n x y e he => ?_, by simp [D.dp, D.dps]⟩
  · simp [D.fit, D.fits, h1, hk, hl]
    omega
  · cases he
    rfl
theorem f1_cons {j : D} {r seen : List D} {i : Nat} : f1 (j :: r) seen i = if (isJobD j && !(seen.any fun z => D.eq z (fstD j))) = true then f1 r (seen ++ [fstD j]) (i + 1) else some i := rfl
theorem f2_cons {j : D} {r all : List D} {i : Nat} : f2 (j :: r) all i = if (aftA (arrD j) && decide ((cntB all (numA (arrD j)) : Int) < numA (arrD j))) = true then some i else f2 r all (i + 1) := rfl
theorem fst_job {v : D} (h : isJobD v = true) : ∃ s r, v = .tup (.str s :: r) ∧ fstD v = .str s ∧ PyData.strOk s = true := by
  obtain ⟨s, k, m, i, rfl, hn, _⟩ := job_parts h
  exact ⟨s, _, rfl, rfl, (name_ok hn).1⟩
theorem cnt_len {all : List D} {n : Int} : (([] : List D) ++ (all.filter fun j => befA (arrD j) n).map fun d => d).length = cntB all n := by
  rw [List.nil_append, List.map_id', cntB, List.countP_eq_length_filter]
theorem f1_none : ∀ (r seen : List D) (i : Nat), f1 r seen i = none → ∀ j ∈ r, isJobD j = true
  | [], _, _, _, j, hj => by cases hj
  | x :: r, seen, i, h, j, hj => by
    rw [f1_cons] at h
    split at h
    · rename_i hc
      rw [Bool.and_eq_true] at hc
      rcases List.mem_cons.mp hj with rfl | hj
      · exact hc.1
      · exact f1_none r _ _ h j hj
    · cases h
theorem faultJ_tup {js : List D} : faultJ (.tup js) = match f1 js [] 0 with
    | some i => .int i
    | none => match f2 js js 0 with
      | some i => .int i
      | none => .non := rfl
theorem valid_fit {js : List D} (h : ∀ j ∈ js, isJobD j = true) : D.fit (.tup js) = true := fit_tup.mpr fun j hj => (job_fit (h j hj)).1
theorem valid_wf {js : List D} (h : ∀ j ∈ js, isJobD j = true) (hl : js.length ≤ 1000) : WfJ (.tup js) := ⟨valid_fit h, fun js' e => by cases e; exact ⟨hl, fun j hj => (job_fit (h j hj)).2.1⟩⟩
theorem fault_cases (v : D) : faultJ v = .non ∨ ∃ k : Int, faultJ v = .int k := by
  unfold faultJ
  split
  · split
    · exact .inr ⟨_, rfl⟩
    · split
      · exact .inr ⟨_, rfl⟩
      · exact .inl rfl
  · exact .inr ⟨_, rfl⟩
theorem fault_tup {v : D} (h : faultJ v = .non) : ∃ js, v = .tup js ∧ JobsOk js := by
  cases v with
  | tup js =>
    rw [faultJ_tup] at h
    cases h1 : f1 js [] 0 with
    | some i => rw [h1] at h; cases h
    | none =>
      rw [h1] at h
      cases h2 : f2 js js 0 with
      | some i => rw [h2] at h; cases h
      | none => exact ⟨js, rfl, f1_none _ _ _ h1, h1, h2⟩
  | _ => cases h
theorem FarL.len : ∀ {r r' : List D}, FarL r r' → r'.length = r.length
  | _, _, .nil => rfl
  | _, _, .cons _ h => by rw [List.length_cons, List.length_cons, FarL.len h]
theorem FarL.app : ∀ {r r' s s' : List D}, FarL r r' → FarL s s' → FarL (r ++ s) (r' ++ s')
  | _, _, _, _, .nil, h => h
  | _, _, _, _, .cons a b, h => .cons a (FarL.app b h)
theorem FarL.job : ∀ {r r' : List D}, FarL r r' → ∀ j ∈ r', isJobD j = true
  | _, _, .nil, j, h => by cases h
  | _, _, .cons a b, j, h => by
    rcases List.mem_cons.mp h with rfl | h
    · exact a.1
    · exact FarL.job b j h
theorem FarL.f1 : ∀ {r r' : List D}, FarL r r' → (∀ j ∈ r, isJobD j = true) → ∀ (seen : List D) (i : Nat), Lw.f1 r' seen i = Lw.f1 r seen i
  | _, _, .nil, _, _, _ => rfl
  | _, _, .cons a b, h, seen, i => by
    rw [f1_cons, f1_cons, a.1, h _ (List.mem_cons_self ..), a.2.1, FarL.f1 b fun j hj => h j (List.mem_cons_of_mem _ hj)]
theorem Alike.bef {j j' : D} (h : Alike j j') (n : Int) : befA (arrD j') n = befA (arrD j) n := by
  unfold befA
  rw [h.2.2.1]
  cases e : aftA (arrD j) with
  | false => rfl
  | true => rw [h.2.2.2 e]
theorem FarL.cnt : ∀ {r r' : List D}, FarL r r' → ∀ n : Int, cntB r' n = cntB r n
  | _, _, .nil, _ => rfl
  | _, _, .cons a b, n => by
    have := FarL.cnt b n
    unfold cntB at this ⊢
    rw [List.countP_cons, List.countP_cons, this, a.bef]
theorem FarL.f2 {all all' : List D} (ha : FarL all all') : ∀ {r r' : List D}, FarL r r' → ∀ (i : Nat), Lw.f2 r' all' i = Lw.f2 r all i
  | _, _, .nil, _ => rfl
  | _, _, .cons a b, i => by
    rw [f2_cons, f2_cons, FarL.f2 ha b, a.2.2.1, ha.cnt]
    cases e : aftA (arrD _) with
    | false => rfl
    | true => rw [a.2.2.2 e]
theorem JobsOk.far {js js' : List D} (h : JobsOk js) (f : FarL js js') : JobsOk js' :=
  ⟨f.job, by rw [f.f1 h.job]; exact h.nd, by rw [FarL.f2 f f]; exact h.wt⟩
theorem Sm.mono {n m : Nat} {v : D} (h : Sm n v) (hm : n ≤ m) : Sm m v := ⟨h.1, by have := h.2; omega⟩
theorem sm_tup {n : Nat} {xs : List D} (h : ∀ x ∈ xs, Sm n x) : Sm (n + 1) (.tup xs) :=
  ⟨by simp only [D.nr]; exact nrs_iff.mpr fun x hx => (h x hx).1, by simp only [D.dp]; have := dps_le.mpr fun x hx => (h x hx).2; omega⟩
theorem sm_lst {n : Nat} {xs : List D} (h : ∀ x ∈ xs, Sm n x) : Sm (n + 1) (.lst xs) :=
  ⟨by simp only [D.nr]; exact nrs_iff.mpr fun x hx => (h x hx).1, by simp only [D.dp]; have := dps_le.mpr fun x hx => (h x hx).2; omega⟩
theorem sm_non {n : Nat} : Sm n .non := ⟨by simp [D.nr], by simp [D.dp]⟩
theorem sm_int {n : Nat} {i : Int} : Sm n (.int i) := ⟨by simp [D.nr], by simp [D.dp]⟩
theorem sm_bl {n : Nat} {i : Bool} : Sm n (.bl i) := ⟨by simp [D.nr], by simp [D.dp]⟩
theorem sm_str {n : Nat} {s : Str} (h : PyData.strOk s = true) : Sm n (.str s) := ⟨by simp [D.nr, h], by simp [D.dp]⟩
theorem sm2 {n : Nat} {a b : D} (h1 : Sm n a) (h2 : Sm n b) : ∀ x ∈ [a, b], Sm n x := by
  intro x hx
  simp at hx
  rcases hx with rfl | rfl <;> assumption
theorem wf_rule {ls : List D} {b : D} (hb : Sm 3 b) (h : ∀ l ∈ ls, WfLevel l) : WfRule (.tup [.tup ls, b]) :=
  ⟨sm_tup fun x hx => by
    simp at hx
    rcases hx with rfl | rfl
    · exact sm_tup fun l hl => (h l hl).1
    · exact hb.mono (by decide), fun ls' b' e => by cases e; exact h⟩
theorem so_qs : PyData.strOk (Str.ofString "queue") = true ∧ PyData.strOk (Str.ofString "stack") = true := by decide +kernel
theorem QuB.sm {n : Nat} {q : D} (h : QuB q) : Sm n q := by
  rcases h with rfl | ⟨i, rfl, _⟩
  · exact sm_non
  · exact sm_int
theorem LevB.wf {l : D} (h : LevB l) : WfLevel l := by
  obtain ⟨k, q, rfl, hk, hq⟩ := h
  refine ⟨sm_tup (n := 3) (sm2 (sm_str ?_) hq.sm), fun a b e => by cases e; rfl⟩
  rcases hk with rfl | rfl
  · exact so_qs.1
  · exact so_qs.2
theorem LevB.lev {l : D} (h : LevB l) : isLevelD l = true := by
  obtain ⟨k, q, rfl, hk, hq⟩ := h
  have e : isLevelD (.tup [.str k, q]) = ((D.eq (.str "queue") (.str k) || D.eq (.str "stack") (.str k)) && (DL.isNon q || isIntD q 1)) := rfl
  rw [e, eq_ss, eq_ss]
  have h1 : (DL.isNon q || isIntD q 1) = true := by
    rcases hq with rfl | ⟨i, rfl, hi, _⟩
    · rfl
    · simp [isIntD, hi]
  rw [h1, Bool.and_true]
  rcases hk with rfl | rfl <;> simp
theorem RuleB.wf {v : D} (h : RuleB v) : WfRule v := by
  obtain ⟨ls, b, rfl, _, _, hl, hb⟩ := h
  exact wf_rule hb.sm fun l hl' => (hl l hl').wf
theorem firstBad_none : ∀ {ls : List D} {k : Nat}, (∀ l ∈ ls, isLevelD l = true) → firstBad ls k = none
  | [], _, _ => rfl
  | l :: r, k, h => by
    have e : firstBad (l :: r) k = if isLevelD l = true then firstBad r (k + 1) else some k := rfl
    rw [e, if_pos (h l (List.mem_cons_self ..))]
    exact firstBad_none fun l hl => h l (List.mem_cons_of_mem _ hl)
theorem faultR_eq {ls : List D} {b : D} : faultR (.tup [.tup ls, b]) = if 1 ≤ ls.length ∧ ls.length ≤ 6 then (match firstBad ls 0 with
      | some i => .int i
      | none => if (DL.isNon b || isIntD b 1) = true then .non else .int ls.length) else .int 0 := rfl
theorem RuleB.ok {v : D} (h : RuleB v) : faultR v = .non := by
  obtain ⟨ls, b, rfl, h1, h2, hl, hb⟩ := h
  rw [faultR_eq, if_pos ⟨h1, h2⟩, firstBad_none fun l h => (hl l h).lev]
  rcases hb with rfl | ⟨i, rfl, hi, _⟩
  · rfl
  · simp [isIntD, hi]
theorem wf_parts {ls : List D} {b : D} (h : WfRule (.tup [.tup ls, b])) : (∀ l ∈ ls, WfLevel l) ∧ b.nr = true := by
  refine ⟨h.2 ls b rfl, ?_⟩
  have := h.1.1
  simp [D.nr, D.nrs] at this
  exact this.2
theorem e_sSet {te ti : DX} {j : Nat} {E : DEnds} {δ : DS} {M : MH} : sSet te j ti E δ M = te δ M (fun d M1 => ti δ M1 (fun x M2 => pk δ j fun s => asO s fun xs => asI x fun k => setI xs k d fun xs' => setK δ j (some (.own xs')) fun δ' => E.nx δ' M2) E.ex) E.ex := by
  unfold sSet
  congr 1
  funext d M1
  congr 1
  funext x M2
  exact propext ⟨fun ⟨xs, k, n, h1, h2, h3, q⟩ => ⟨_, h1, xs, rfl, k, h2, n, h3, q⟩, fun ⟨_, h1, xs, e, k, h2, n, h3, q⟩ => ⟨xs, k, n, by rw [h1, e], h2, h3, q⟩⟩
theorem setI_at {xs : List D} {i : Int} {d : D} {k : List D → Prop} (h0 : 0 ≤ i) (h : i < xs.length) : setI xs i d k = k (xs.set i.toNat d) := by
  have e : ixN xs.length i = some i.toNat := by
    unfold ixN
    rw [if_pos h0, if_pos h]
  exact propext ⟨fun ⟨n, h', q⟩ => by rw [e] at h'; cases h'; exact q, fun q => ⟨_, e, q⟩⟩
theorem flL_cons {p : D} {r : List D} {b : Int} {i : Nat} : flL (p :: r) b i = if isPairD b p = true then flL r (uD p) (i + 1) else some i := rfl
theorem faultL_tup {ls : List D} : faultL (.tup ls) = match flL ls 0 0 with
    | some i => .int i
    | none => .non := rfl
theorem pair_parts {b : Int} {p : D} (h : isPairD b p = true) : ∃ x y : Int, p = .tup [.int x, .int y] ∧ b + 1 ≤ x ∧ 1 ≤ y := by
  unfold isPairD at h
  split at h
  · rename_i x y
    rw [Bool.and_eq_true] at h
    obtain ⟨i, rfl, hi⟩ := int_parts h.1
    obtain ⟨j, rfl, hj⟩ := int_parts h.2
    exact ⟨i, j, rfl, hi, hj⟩
  · cases h
theorem pair_is {b x y : Int} : isPairD b (.tup [.int x, .int y]) = (decide (b + 1 ≤ x) && decide (1 ≤ y)) := rfl
theorem flL_lt : ∀ (ls : List D) (b : Int) (k i : Nat), flL ls b k = some i → i < k + ls.length
  | [], _, _, _, h => by cases h
  | x :: r, b, k, i, h => by
    rw [flL_cons] at h
    split at h
    · have := flL_lt r _ (k + 1) i h
      simp only [List.length_cons]
      omega
    · cases h
      simp only [List.length_cons]
      omega
theorem flL_none : ∀ (ls : List D) (b : Int) (k : Nat), flL ls b k = none → ∃ ps, ls = logD ps ∧ Rise b ps
  | [], b, k, h => ⟨[], rfl, trivial⟩
  | p :: r, b, k, h => by
    rw [flL_cons] at h
    split at h
    · rename_i hp
      obtain ⟨x, y, rfl, h1, h2⟩ := pair_parts hp
      obtain ⟨ps, rfl, h3⟩ := flL_none r _ _ h
      exact ⟨(x, y) :: ps, rfl, h1, h2, h3⟩
    · cases h
theorem flL_rise : ∀ (ps : Prs) (b : Int) (k : Nat), Rise b ps → flL (logD ps) b k = none
  | [], _, _, _ => rfl
  | (x, y) :: r, b, k, ⟨h1, h2, h3⟩ => by
    show flL (D.tup [.int x, .int y] :: logD r) b k = none
    rw [flL_cons, pair_is, if_pos (by simp [h1, h2])]
    exact flL_rise r _ _ h3
theorem faultL_rise {ps : Prs} (h : Rise 0 ps) : faultL (.tup (logD ps)) = .non := by rw [faultL_tup, flL_rise ps 0 0 h]
theorem faultL_non {v : D} (h : faultL v = .non) : ∃ ps, v = .tup (logD ps) ∧ Rise 0 ps := by
  cases v with
  | tup ls =>
    rw [faultL_tup] at h
    split at h
    · cases h
    · rename_i h1
      obtain ⟨ps, rfl, h2⟩ := flL_none ls 0 0 h1
      exact ⟨ps, rfl, h2⟩
  | _ => cases h
theorem faultL_cases (v : D) (hl : ∀ ls, v = .tup ls → ls.length ≤ 1000) : faultL v = .non ∨ ∃ k : Int, faultL v = .int k ∧ 0 ≤ k ∧ k ≤ 1000 := by
  cases v with
  | tup ls =>
    rw [faultL_tup]
    cases h : flL ls 0 0 with
    | none => exact .inl rfl
    | some i =>
      have := flL_lt _ _ _ _ h
      have := hl ls rfl
      exact .inr ⟨i, rfl, by omega, by omega⟩
  | _ => exact .inr ⟨0, rfl, by decide, by decide⟩
theorem logD_inj : ∀ {ps qs : Prs}, logD ps = logD qs → ps = qs
  | [], [], _ => rfl
  | [], _ :: _, h => by cases h
  | _ :: _, [], h => by cases h
  | (a, b) :: ps, (c, d) :: qs, h => by
    have h' : D.tup [.int a, .int b] :: logD ps = D.tup [.int c, .int d] :: logD qs := h
    injection h' with h1 h2
    cases h1
    rw [logD_inj h2]
theorem logD_len {ps : Prs} : (logD ps).length = ps.length := by simp [logD]
theorem logD_cons {p : Int × Int} {r : Prs} : logD (p :: r) = .tup [.int p.1, .int p.2] :: logD r := rfl
theorem elp_pr {B : Int} {p : Int × Int} (h1 : p.1 ≤ B) (h2 : p.2 ≤ B) : ElP B (prD p) := ⟨sm_tup (n := 2) (sm2 sm_int sm_int), fun a b e => by cases e; exact ⟨h1, h2⟩⟩
theorem ElP.mono {B C : Int} {d : D} (h : ElP B d) (hB : B ≤ C) : ElP C d := ⟨h.1, fun a b e => by have := h.2 a b e; omega⟩
theorem WfN.wf {B : Int} {v : D} (h : WfN B v) : WfL v := ⟨h.1, fun ls e => (h.2 ls e).1⟩
theorem WfN.mono {B C : Int} {v : D} (h : WfN B v) (hB : B ≤ C) : WfN C v := ⟨h.1, fun ls e => ⟨(h.2 ls e).1, fun d hd => ((h.2 ls e).2 d hd).mono hB⟩⟩
theorem wfn_log {B : Int} {ps : Prs} (hl : ps.length ≤ 1000) (h : ∀ p ∈ ps, p.1 ≤ B ∧ p.2 ≤ B) : WfN B (.tup (logD ps)) := by
  have g : ∀ d ∈ logD ps, ElP B d := fun d hd => by
    obtain ⟨p, hp, rfl⟩ := List.mem_map.mp hd
    exact elp_pr (h p hp).1 (h p hp).2
  exact ⟨(sm_tup (n := 3) fun d hd => (g d hd).1).mono (by decide), fun ls e => by cases e; exact ⟨by rw [logD_len]; exact hl, g⟩⟩
theorem wfl_log {ps : Prs} (hl : ps.length ≤ 1000) : WfL (.tup (logD ps)) := by
  refine ⟨(sm_tup (n := 3) fun d hd => ?_).mono (by decide), fun ls e => by cases e; rw [logD_len]; exact hl⟩
  obtain ⟨p, hp, rfl⟩ := List.mem_map.mp hd
  exact sm_tup (n := 2) (sm2 sm_int sm_int)
theorem WfN.bound {B : Int} {ps : Prs} (h : WfN B (.tup (logD ps))) : ∀ p ∈ ps, p.1 ≤ B ∧ p.2 ≤ B := fun p hp => ((h.2 _ rfl).2 (prD p) (List.mem_map.mpr ⟨p, hp, rfl⟩)).2 _ _ rfl
/-! present jobs -/
theorem hasA_mono {a : D} {m m' f f' : Int} (h1 : m ≤ m') (h2 : f ≤ f') (h : hasA a m f = true) : hasA a m' f' = true := by
  unfold hasA at h ⊢
  have := of_decide_eq_true h
  refine decide_eq_true ?_
  split at this <;> simp_all <;> omega
theorem cntArr_mono {js : List D} {m m' f f' : Int} (h1 : m ≤ m') (h2 : f ≤ f') : cntArr js m f ≤ cntArr js m' f' := by
  unfold cntArr
  exact List.countP_mono_left fun j _ h => hasA_mono h1 h2 h
theorem cntArr_le {js : List D} {m f : Int} : cntArr js m f ≤ js.length := List.countP_le_length
/-! stretches -/
theorem addR_nil {a l p : Int} : addR [] a l p = [(a, l, p)] := rfl
theorem addR_cons {r : Row} {t : List Row} {a l p : Int} : addR (r :: t) a l p = if r.2.2 = p then (r.1, l, p) :: t else (a, l, p) :: r :: t := rfl
theorem addR_len {rs : List Row} {a l p : Int} : (addR rs a l p).length ≤ rs.length + 1 ∧ 1 ≤ (addR rs a l p).length := by
  cases rs with
  | nil => simp [addR_nil]
  | cons r t => rw [addR_cons]; split <;> simp
theorem addR_again {rs : List Row} {a l m k p : Int} : addR (addR rs a l p) m k p = addR rs a k p := by
  cases rs with
  | nil => rw [addR_nil, addR_cons]; simp [addR_nil]
  | cons r t =>
    rw [addR_cons, addR_cons]
    split
    · rename_i h
      rw [addR_cons]; simp
    · rw [addR_cons]; simp
theorem lastP_addR {rs : List Row} {a l p : Int} : lastP (addR rs a l p) = p := by
  cases rs with
  | nil => rfl
  | cons r t => rw [addR_cons]; split <;> rfl
theorem addU_succ {js : List D} {f : Int} {n : Nat} {u : Int} {rs : List Row} : addU js f (n + 1) u rs = addU js f n (u + 1) (addR rs u u (pres js u f)) := rfl
theorem addU_app {js : List D} {f : Int} : ∀ (n m : Nat) (u : Int) (rs : List Row), addU js f (n + m) u rs = addU js f m (u + n) (addU js f n u rs)
  | 0, m, u, rs => by simp [addU]
  | n + 1, m, u, rs => by
    rw [show n + 1 + m = n + m + 1 from by omega, addU_succ, addU_succ, addU_app n m]
    congr 1
    omega
/-- a stretch of equal numbers -/
theorem addU_seg' {js : List D} {f p : Int} : ∀ (n : Nat) (m l s : Int) (rs : List Row), (∀ u, m ≤ u → u < m + n → pres js u f = p) → addU js f n m (addR rs s (m - 1) p) = addR rs s (m - 1 + n) p
  | 0, m, l, s, rs, h => by simp [addU]
  | n + 1, m, l, s, rs, h => by
    rw [addU_succ, h m (by omega) (by omega), addR_again]
    have := addU_seg' n (m + 1) l s rs (fun u h1 h2 => h u (by omega) (by omega))
    rw [show m + 1 - 1 = m from by omega] at this
    rw [this]
    congr 1
    omega
theorem addU_seg {js : List D} {f : Int} {n : Nat} {s : Int} {rs : List Row} (h : ∀ u, s ≤ u → u < s + (n + 1 : Nat) → pres js u f = pres js s f) : addU js f (n + 1) s rs = addR rs s (s + n) (pres js s f) := by
  rw [addU_succ]
  have := addU_seg' n (s + 1) 0 s rs (p := pres js s f) (fun u h1 h2 => h u (by omega) (by omega))
  rw [show s + 1 - 1 = s from by omega] at this
  exact this
theorem addU_len {js : List D} {f : Int} : ∀ (n : Nat) (u : Int) (rs : List Row), (addU js f n u rs).length ≤ rs.length + n
  | 0, u, rs => by simp [addU]
  | n + 1, u, rs => by
    rw [addU_succ]
    have := addU_len n (u + 1) (addR rs u u (pres js u f)) (js := js) (f := f)
    have := (addR_len (rs := rs) (a := u) (l := u) (p := pres js u f)).1
    omega
theorem addU_ne {js : List D} {f : Int} {n : Nat} {u : Int} {rs : List Row} (h : 0 < n) : addU js f n u rs ≠ [] := by
  have g : ∀ (n : Nat) (u : Int) (rs : List Row), rs ≠ [] → addU js f n u rs ≠ [] := by
    intro n
    induction n with
    | zero => intro u rs h; exact h
    | succ n ih =>
      intro u rs h
      rw [addU_succ]
      exact ih _ _ fun e => by have := (addR_len (rs := rs) (a := u) (l := u) (p := pres js u f)).2; rw [e] at this; simp at this
  cases n with
  | zero => cases h
  | succ n =>
    rw [addU_succ]
    exact g _ _ _ fun e => by have := (addR_len (rs := rs) (a := u) (l := u) (p := pres js u f)).2; rw [e] at this; simp at this
theorem rowsD_len {rs : List Row} : (rowsD rs).length = rs.length := by simp [rowsD]
theorem rowsD_cons {r : Row} {t : List Row} : rowsD (r :: t) = rowsD t ++ [rowD r] := by simp [rowsD]
theorem rowD_eq {a l p : Int} : rowD (a, l, p) = .tup [.int a, .int l, .int p] := rfl
theorem rowsD_ok {rs : List Row} : Sm 2 (.tup (rowsD rs)) ∧ Sm 2 (.lst (rowsD rs)) := by
  have h : ∀ x ∈ rowsD rs, Sm 1 x := fun x hx => by
    obtain ⟨r, _, rfl⟩ := List.mem_map.mp hx
    exact ⟨by simp [rowD, D.nr, D.nrs], by simp [rowD, D.dp, D.dps]⟩
  exact ⟨sm_tup h, sm_lst h⟩
theorem Sm.ok {n : Nat} {v : D} (h : Sm n v) (hn : n ≤ 15) : v.Ok := ⟨h.1, by have := h.2; omega⟩
theorem ixI_last {xs : List D} {y : D} {k : D → Prop} : ixI (xs ++ [y]) (-1) k = k y := by
  have e : atI (xs ++ [y]) (-1) = some y := by
    have h1 : (1 : Int) ≤ (xs.length : Int) + 1 := by omega
    have h2 : (-1 + ((xs.length : Int) + 1)).toNat = xs.length := by omega
    unfold atI ixN
    simp [h1, h2]
  exact propext ⟨fun ⟨d, h, q⟩ => by rw [e] at h; cases h; exact q, fun q => ⟨y, e, q⟩⟩
theorem setI_last {xs : List D} {y d : D} {k : List D → Prop} : setI (xs ++ [y]) (-1) d k = k (xs ++ [d]) := by
  have e : ixN (xs ++ [y]).length (-1) = some xs.length := by
    unfold ixN
    simp
    exact ⟨by omega, by omega⟩
  have e2 : (xs ++ [y]).set xs.length d = xs ++ [d] := by simp
  exact propext ⟨fun ⟨n, h, q⟩ => by rw [e] at h; cases h; rw [e2] at q; exact q, fun q => ⟨_, e, by rw [e2]; exact q⟩⟩
theorem dueL_cons {js : List D} {p : Int × Int} {r : Prs} {b f : Int} {i : Nat} {rs : List Row} : dueL js (p :: r) b f i rs = if lastP (addU js f (p.1 - b).toNat (b + 1) rs) < p.2 then .bad i else dueL js r p.1 (f + p.2) (i + 1) (addU js f (p.1 - b).toNat (b + 1) rs) := rfl
theorem wfn_tup {B : Int} {ls : List D} (hl : ls.length ≤ 1000) (h : ∀ d ∈ ls, ElP B d) : WfN B (.tup ls) :=
  ⟨(sm_tup (n := 3) fun d hd => (h d hd).1).mono (by decide), fun ls' e => by cases e; exact ⟨hl, h⟩⟩
theorem elp_ints {B : Int} {x y : Int} (h1 : x ≤ B) (h2 : y ≤ B) : ElP B (.tup [.int x, .int y]) := elp_pr (p := (x, y)) h1 h2
theorem elp_sm {B : Int} {d : D} (h : Sm 3 d) (hn : ∀ a b, d ≠ .tup [.int a, .int b]) : ElP B d := ⟨h, fun a b e => absurd e (hn a b)⟩
theorem elp_non {B : Int} : ElP B .non := elp_sm sm_non fun _ _ e => by cases e
theorem elp_lst {B : Int} {xs : List D} (h : ∀ x ∈ xs, Sm 2 x) : ElP B (.lst xs) := elp_sm (sm_lst h) fun _ _ e => by cases e
theorem so_1 : PyData.strOk (Str.ofString "1") = true := by decide +kernel
theorem elp_pairs {B u c : Int} (hB : 1 ≤ B) (hu : u ≤ B) (hc : c ≤ B) : ∀ d ∈ [D.tup [.int u, .int 0], .tup [.int u, .int (-1)], .tup [.int u, .bl true], .tup [.int 0, .int c], .tup [.bl true, .int c], .tup [.int (-1), .int c], .tup [.int u], .lst [.int u, .int c], .tup [.int u, .int c, .int 0], .non, .tup [.int u, .non], .tup [.str "1", .int c], .tup [.int u, .int (c + 1)], .tup [.int (u + 1), .int c]], ElP (B + 1) d := by
  intro d hd
  simp only [List.mem_cons, List.not_mem_nil, or_false] at hd
  rcases hd with rfl | rfl | rfl | rfl | rfl | rfl | rfl | rfl | rfl | rfl | rfl | rfl | rfl | rfl
  · exact elp_ints (by omega) (by omega)
  · exact elp_ints (by omega) (by omega)
  · exact elp_sm (sm_tup (n := 2) (sm2 sm_int sm_bl)) fun _ _ e => by cases e
  · exact elp_ints (by omega) (by omega)
  · exact elp_sm (sm_tup (n := 2) (sm2 sm_bl sm_int)) fun _ _ e => by cases e
  · exact elp_ints (by omega) (by omega)
  · exact elp_sm (sm_tup (n := 2) fun x hx => by simp at hx; subst hx; exact sm_int) fun _ _ e => by cases e
  · exact elp_lst (sm2 sm_int sm_int)
  · exact elp_sm (sm_tup (n := 2) fun x hx => by simp at hx; rcases hx with rfl | rfl | rfl <;> exact sm_int) fun _ _ e => by cases e
  · exact elp_non
  · exact elp_sm (sm_tup (n := 2) (sm2 sm_int sm_non)) fun _ _ e => by cases e
  · exact elp_sm (sm_tup (n := 2) (sm2 (sm_str so_1) sm_int)) fun _ _ e => by cases e
  · exact elp_ints (by omega) (by omega)
  · exact elp_ints (by omega) (by omega)
theorem rd_law_bad_log : ∀ ds M Q E, sp_law_bad_log cs ds M Q E → td_law_bad_log cs (endsD Q E) (startD ["store", "log", "at", "unit", "finishes", "pairs", "way"] ds) M := by
  rintro ds M Q E ⟨a, n, ps, B, rfl, hs, hn, hl, hB, hb, k⟩
  have szl := sizeLine_eq
  show td_law_bad_log cs (endsD Q E) [some (.d (.ref a)), some (.d (.tup (logD ps))), none, none, none, none, none] M
  have hlen := logD_len (ps := ps)
  have wfl := (wfl_log (ps := ps) (by omega)).1
  have hel : ∀ d ∈ logD ps, ElP (B + 1) d := fun d hd => by
    obtain ⟨p, hp, rfl⟩ := List.mem_map.mp hd
    exact elp_pr (by have := (hb p hp).1; omega) (by have := (hb p hp).2; omega)
  simp [td_law_bad_log]
  rw [eq_of (wfl.ok (by decide)) ok_nilT, eq_nilT]
  by_cases h0 : ps = []
  · subst h0
    simp [logD]
    refine ⟨a, 5, n, rfl, hs, by decide, by decide, by omega, fun i M1 i0 i1 hs1 fr1 => ?_⟩
    try simp
    refine ixI_mem i0 (by simpa using i1) fun y hy => ?_
    have one : ∀ d, ElP (B + 1) d → WfN (B + 1) (.tup [d]) ∧ ∀ ls, D.tup [d] = .tup ls → ls.length ≤ 1 := fun d hd => ⟨wfn_tup (by simp) fun x hx => by simp at hx; subst hx; exact hd, fun ls e => by cases e; simp⟩
    have no : ∀ d, Sm 5 d → (∀ ls, d ≠ .tup ls) → WfN (B + 1) d ∧ ∀ ls, d = .tup ls → ls.length ≤ 1 := fun d hd hn => ⟨⟨hd, fun ls e => absurd e (hn ls)⟩, fun ls e => absurd e (hn ls)⟩
    have hy' : WfN (B + 1) y ∧ ∀ ls, y = .tup ls → ls.length ≤ 1 := by
      simp only [List.mem_cons, List.not_mem_nil, or_false] at hy
      rcases hy with rfl | rfl | rfl | rfl | rfl
      · exact no _ (sm_lst (n := 4) fun x hx => by cases hx) fun _ e => by cases e
      · exact no _ sm_non fun _ e => by cases e
      · exact one _ (elp_ints (by omega) (by omega))
      · exact one _ (elp_ints (by omega) (by omega))
      · exact one _ (elp_ints (by omega) (by omega))
    exact k y M1 hy'.1 (by simpa using hy'.2) (store_mono hs1 (by omega)) fr1
  have hne : (logD ps).isEmpty = false := by cases ps with | nil => exact absurd rfl h0 | cons p r => rfl
  have hpos : 0 < ps.length := by cases ps with | nil => exact absurd rfl h0 | cons p r => simp
  rw [hne, hlen]
  simp
  refine ⟨a, ps.length, n, rfl, hs, by omega, by omega, by omega, fun i M1 i0 i1 hs1 fr1 => ?_⟩
  have hi : i.toNat < ps.length := by omega
  have hget : (logD ps)[i.toNat]? = some (.tup [.int (ps[i.toNat]).1, .int (ps[i.toNat]).2]) := by
    show (ps.map prD)[i.toNat]? = _
    rw [List.getElem?_map, List.getElem?_eq_getElem hi]
    rfl
  obtain ⟨hu, hc⟩ := hb _ (List.getElem_mem hi)
  generalize (ps[i.toNat]).1 = u at hget hu
  generalize (ps[i.toNat]).2 = c at hget hc
  try simp
  rw [ixI_at i0 hget]
  have i10 : (i + 1).toNat = i.toNat + 1 := by omega
  have fin : ∀ (ls : List D) (M' : MH) (m : Nat), (∀ d ∈ ls, ElP (B + 1) d) → ls.length ≤ ps.length + 1 → StoreAt M' a m → m ≤ n + 10 → (∀ b, b ≠ a → M' b = M b) → Q (.d (.tup ls)) M' := fun ls M' m h1 h2 h3 h4 h5 =>
    k _ M' (wfn_tup (by omega) h1) (fun ls' e => by cases e; exact h2) (store_mono h3 h4) h5
  have tk : ∀ (j : Nat) (d : D), d ∈ (logD ps).take j → ElP (B + 1) d := fun j d h => hel d (List.mem_of_mem_take h)
  have dr : ∀ (j : Nat) (d : D), d ∈ (logD ps).drop j → ElP (B + 1) d := fun j d h => hel d (List.mem_of_mem_drop h)
  simp
  rw [cutD_to i0, cutD_from (by omega), cutD_from i0, cutD_from (by decide), cutD_to (by decide)]
  refine ⟨a, 5, n + 1, rfl, hs1, by decide, by decide, by omega, fun w M2 w0 w1 hs2 fr2 => ?_⟩
  have fr2 : ∀ b, b ≠ a → M2 b = M b := fun b hb => by rw [fr2 b hb, fr1 b hb]
  simp [hlen, i10]
  by_cases g0 : w = 0
  · rw [if_pos g0]
    refine ⟨by omega, fin _ M2 _ (fun d hd => ?_) ?_ hs2 (by omega) fr2⟩
    · rcases List.mem_append.mp hd with h | h
      · exact tk _ d h
      · exact dr _ d h
    · simp [hlen]; omega
  rw [if_neg g0]
  by_cases g1 : w = 1
  · rw [if_pos g1, ixI_at i0 hget]
    refine ⟨by omega, by omega, fin _ M2 _ (fun d hd => ?_) ?_ hs2 (by omega) fr2⟩
    · rcases List.mem_append.mp hd with h | h
      · exact tk _ d h
      · rcases List.mem_cons.mp h with rfl | h
        · exact hel _ (List.mem_of_getElem? hget)
        · exact dr _ d h
    · simp [hlen]; omega
  rw [if_neg g1]
  by_cases g2 : w = 2
  · rw [if_pos g2]
    obtain ⟨qs, q, e⟩ : ∃ qs q, ps = qs ++ [q] := ⟨ps.dropLast, ps.getLast h0, (List.dropLast_concat_getLast h0).symm⟩
    obtain ⟨x, y⟩ := q
    have hx : x ≤ B := (hb (x, y) (by rw [e]; simp)).1
    have el : logD ps = logD qs ++ [.tup [.int x, .int y]] := by rw [e]; simp [logD, prD]
    have e1 : ∀ kk : D → Prop, ixI (logD ps) (-1) kk = kk (.tup [.int x, .int y]) := fun kk => by rw [el]; exact ixI_last
    rw [e1]
    simp
    refine ⟨by omega, by omega, a, 4, n + 1 + 1, rfl, hs2, by decide, by decide, by omega, fun j M3 j0 j1 hs3 fr3 => ?_⟩
    have fr3 : ∀ b, b ≠ a → M3 b = M b := fun b hb => by rw [fr3 b hb, fr2 b hb]
    try simp
    refine ixI_mem j0 (by simpa using j1) fun z hz => ?_
    simp only [List.mem_cons, List.not_mem_nil, or_false] at hz
    rcases hz with rfl | rfl | rfl | rfl
    · exact k _ M3 ⟨(sm_lst (n := 3) fun d hd => (hel d hd).1).mono (by decide), fun ls e => by cases e⟩ (fun ls e => by cases e) (store_mono hs3 (by omega)) fr3
    · exact fin _ M3 _ (fun d hd => hel d (List.mem_reverse.mp hd)) (by simp [hlen]) hs3 (by omega) fr3
    · refine fin _ M3 _ (fun d hd => ?_) (by simp [hlen]) hs3 (by omega) fr3
      rcases List.mem_append.mp hd with h | h
      · exact hel d h
      · simp at h
        subst h
        exact elp_ints (by omega) (by omega)
    · refine fin _ M3 _ (fun d hd => ?_) (by simp [hlen]; omega) hs3 (by omega) fr3
      rcases List.mem_append.mp hd with h | h
      · exact hel d (by first | exact List.mem_of_mem_tail h | exact List.mem_of_mem_drop h)
      · exact tk _ d h
  rw [if_neg g2]
  refine ⟨a, 14, n + 1 + 1, rfl, hs2, by decide, by decide, by omega, fun j M3 j0 j1 hs3 fr3 => ?_⟩
  have fr3 : ∀ b, b ≠ a → M3 b = M b := fun b hb => by rw [fr3 b hb, fr2 b hb]
  try simp
  refine ixI_mem j0 (by simpa using j1) fun z hz => ?_
  have hz := elp_pairs hB hu hc z hz
  refine ⟨by omega, by omega, fin _ M3 _ (fun d hd => ?_) ?_ hs3 (by omega) fr3⟩
  · rcases List.mem_append.mp hd with h | h
    · exact tk _ d h
    · rcases List.mem_cons.mp h with rfl | h
      · exact hz
      · exact dr _ d h
  · simp [hlen]; omega
theorem rd_law_before : ∀ ds M Q E, sp_law_before cs ds M Q E → td_law_before cs (endsD Q E) (startD ["arrival", "finishes"] ds) M := by
  rintro ds M Q E ⟨s, m, n, rfl, hs, k⟩
  show td_law_before cs (endsD Q E) [some (.d (.tup [.str s, .int m])), some (.d (.int n))] M
  rw [befA_eq] at k
  simp [td_law_before, hs, so_at]
  by_cases h : s = "at"
  · rw [decide_eq_true h, Bool.true_or] at k
    rw [if_pos h]
    exact k
  · rw [decide_eq_false h, Bool.false_or] at k
    rw [if_neg h]
    exact k
theorem nodup_len {α : Type} [DecidableEq α] : ∀ {l1 l2 : List α}, l1.Nodup → (∀ x ∈ l1, x ∈ l2) → l1.length ≤ l2.length
  | [], _, _, _ => Nat.zero_le _
  | x :: l, l2, h, hs => by
    rw [List.nodup_cons] at h
    have hx := hs x (List.mem_cons_self ..)
    have := nodup_len (l2 := l2.erase x) h.2 fun y hy => (List.mem_erase_of_ne (fun e => by subst e; exact h.1 hy)).mpr (hs y (List.mem_cons_of_mem _ hy))
    rw [List.length_erase_of_mem hx] at this
    have : 0 < l2.length := List.length_pos_of_mem hx
    simp only [List.length_cons]
    omega
/-- the word of a late turn -/
def lateW (u : Nat) : List Nat := [97 + u % 26, 113, 97 + u / 26 % 26]
theorem lateW_inj {u v : Nat} (hu : u < 676) (hv : v < 676) (h : lateW u = lateW v) : u = v := by
  unfold lateW at h
  simp at h
  omega
theorem mem_lets {c : Nat} : c ∈ lets ↔ 97 ≤ c ∧ c < 123 := by
  unfold lets
  rw [List.mem_range'_1]
theorem lateW_ok (u : Nat) : wordOk (lateW u) := ⟨by show 1 ≤ 3; decide, by show 3 ≤ 8; decide, fun c hc => by
  rw [mem_lets]
  unfold lateW at hc
  simp at hc
  omega⟩
theorem late_len {ws : List (List Nat)} {t : Nat} (ht : t < 600) (h : ∀ u, 40 < u → u ≤ t → lateW u ∈ ws) : t ≤ 40 + ws.length := by
  by_cases hc : t ≤ 40
  · omega
  · have hn : ((List.range (t - 40)).map fun i => lateW (41 + i)).Nodup := by
      rw [List.nodup_iff_pairwise_ne, List.pairwise_map]
      refine List.Pairwise.imp_of_mem ?_ (List.pairwise_lt_range)
      intro a b ha hb hab e
      rw [List.mem_range] at ha hb
      have := lateW_inj (by omega) (by omega) e
      omega
    have := nodup_len hn (l2 := ws) fun x hx => by
      obtain ⟨i, hi, rfl⟩ := List.mem_map.mp hx
      rw [List.mem_range] at hi
      exact h _ (by omega) (by omega)
    rw [List.length_map, List.length_range] at this
    omega
def wsD (ws : List (List Nat)) : List D := ws.map fun w => .str (tx w)
theorem wsD_flat {ws : List (List Nat)} : ∀ z ∈ wsD ws, flatD z = true := fun z hz => by
  obtain ⟨w, _, rfl⟩ := List.mem_map.mp hz
  rfl
theorem wsD_any {ws : List (List Nat)} {v : List Nat} : ((wsD ws).any fun z => D.eq z (.str (tx v))) = decide (v ∈ ws) := by
  rw [Bool.eq_iff_iff, List.any_eq_true, decide_eq_true_iff]
  constructor
  · rintro ⟨z, hz, he⟩
    obtain ⟨w, hw, rfl⟩ := List.mem_map.mp hz
    rw [eq_ss] at he
    rw [← tx_inj (of_decide_eq_true he)]
    exact hw
  · intro h
    exact ⟨_, List.mem_map.mpr ⟨v, h, rfl⟩, by rw [eq_ss]; exact decide_eq_true rfl⟩
theorem word_strOk {w : List Nat} (h : ∀ c ∈ w, c ∈ lets) : PyData.strOk (tx w) = true := by
  have h0 : ((tx w).cps.all fun c => decide (c < 0x110000)) = true := by
    rw [← Array.all_toList, tx_cps, List.all_eq_true]
    intro c hc
    have := mem_lets.mp (h c hc)
    exact decide_eq_true (by omega)
  exact h0
theorem wsD_ok {ws : List (List Nat)} (h : ∀ w ∈ ws, wordOk w) : D.Ok (.lst (wsD ws)) := ok_flatL fun z hz => by
  obtain ⟨w, hw, rfl⟩ := List.mem_map.mp hz
  exact ⟨rfl, by simp [D.nr, word_strOk (h w hw).2.2]⟩
/-- the state ahead of a turn -/
structure NmI (M0 : MH) (a : Addr) (count n0 : Nat) (ws : List (List Nat)) (t : Nat) (M : MH) : Prop where
  st : StoreAt M a (n0 + 20 * t)
  fr : ∀ b, b ≠ a → M b = M0 b
  nd : ws.Nodup
  ok : ∀ w ∈ ws, wordOk w
  le : ws.length ≤ count
  lt : ∀ u, 40 < u → u ≤ t → lateW u ∈ ws
theorem names_R11 {M0 M : MH} {a : Addr} {count n0 t d : Nat} {ws : List (List Nat)} {w : List Nat} {E : DEnds} {o6 o7 : Option Sl} (hst : StoreAt M a (n0 + 20 * (t + 1))) (fr : ∀ b, b ≠ a → M b = M0 b) (nd : ws.Nodup) (ok : ∀ w ∈ ws, wordOk w) (le : ws.length < count) (hc : count ≤ 40)
    (lt : ∀ u, 40 < u → u ≤ t → lateW u ∈ ws) (hw : wordOk w) (hl : 40 < t + 1 → w = lateW (t + 1))
    (k : ∀ ws' o5, NmI M0 a count n0 ws' (t + 1) M → E.nx [some (.d (.ref a)), some (.d (.int count)), some (.d (.str (tx lets))), some (.own (wsD ws')), some (.d (.int ((t : Int) + 1))), o5, o6, o7, none] M) :
    td_law_names_R11 cs E [some (.d (.ref a)), some (.d (.int count)), some (.d (.str (tx lets))), some (.own (wsD ws)), some (.d (.int ((t : Int) + 1))), some (.d (.str (tx w))), o6, o7, none] M := by
  have hsl : (wsD ws).length < sizeLine := by rw [sizeLine_eq]; simp [wsD]; omega
  simp only [↓u_law_names_R11]
  simp only [↓e_sIf, ↓e_dCmp, ↓e_oPeek, ↓pk5, ↓pk3, ↓e_fzd, ↓e_fzo]
  refine ⟨.inl ⟨rfl, List.all_eq_true.mpr wsD_flat⟩, ?_⟩
  show tif (!((wsD ws).any fun z => D.eq z (.str (tx w)))) _ _
  rw [wsD_any]
  by_cases h : w ∈ ws
  · rw [decide_eq_true h]
    simp
    exact k ws _ ⟨hst, fr, nd, ok, by omega, fun u h1 h2 => by
      by_cases e : u ≤ t
      · exact lt u h1 e
      · have : u = t + 1 := by omega
        subst this
        rw [← hl h1]
        exact h⟩
  · rw [decide_eq_false h]
    simp [hsl]
    have e : wsD ws ++ [.str (tx w)] = wsD (ws ++ [w]) := by simp [wsD]
    rw [e]
    exact k (ws ++ [w]) _ ⟨hst, fr, by
      rw [List.nodup_append]
      exact ⟨nd, by simp, fun x hx y hy e' => by simp at hy; rw [e', hy] at hx; exact h hx⟩, fun v hv => by
      rcases List.mem_append.mp hv with h | h
      · exact ok v h
      · simp at h; subst h; exact hw, by simp; omega, fun u h1 h2 => by
      by_cases e : u ≤ t
      · exact List.mem_append.mpr (.inl (lt u h1 e))
      · have : u = t + 1 := by omega
        subst this
        rw [← hl h1]
        exact List.mem_append.mpr (.inr (by simp))⟩
theorem lets_at {i : Nat} (h : i < 26) : (tx lets).cps.toList[i]? = some (97 + i) := by
  rw [tx_cps]
  unfold lets
  rw [List.getElem?_range' h]
  simp
theorem letter {i : Int} {k : Nat → Prop} (h0 : 0 ≤ i) (h1 : i < 26) : chI (tx lets) i k = k (97 + i.toNat) := chI_at h0 (lets_at (by omega))
theorem names_R7 {M0 M : MH} {a : Addr} {count n0 t : Nat} {ws : List (List Nat)} {w : List Nat} {E : DEnds} {o6 o7 : Option Sl} (hst : StoreAt M a (n0 + 20 * (t + 1))) (fr : ∀ b, b ≠ a → M b = M0 b) (nd : ws.Nodup) (ok : ∀ w ∈ ws, wordOk w) (le : ws.length < count) (hc : count ≤ 40)
    (lt : ∀ u, 40 < u → u ≤ t → lateW u ∈ ws) (hw : wordOk w)
    (k : ∀ ws' o5, NmI M0 a count n0 ws' (t + 1) M → E.nx [some (.d (.ref a)), some (.d (.int count)), some (.d (.str (tx lets))), some (.own (wsD ws')), some (.d (.int ((t : Int) + 1))), o5, o6, o7, none] M) :
    td_law_names_R7 cs E [some (.d (.ref a)), some (.d (.int count)), some (.d (.str (tx lets))), some (.own (wsD ws)), some (.d (.int ((t : Int) + 1))), some (.d (.str (tx w))), o6, o7, none] M := by
  have sl : (tx lets).length ≤ sizeLine := by rw [sizeLine_eq, tx_len]; decide
  simp [↓u_law_names_R7, sl]
  by_cases h : (40 : Int) < (t : Int) + 1
  · rw [if_pos h, letter (by omega) (by omega)]
    have eq_ : Str.ofString "q" = tx [113] := by decide +kernel
    have one : ∀ c : Nat, (⟨#[c]⟩ : Str) = tx [c] := fun c => rfl
    rw [letter (by omega) (by omega), eq_, one, one, tx_app, tx_app]
    have hl : [97 + (((t : Int) + 1) % 26).toNat] ++ [113] ++ [97 + (((t : Int) + 1) / 26 % 26).toNat] = lateW (t + 1) := by
      unfold lateW
      simp
      omega
    refine ⟨by rw [tx_len, tx_len]; simp, by rw [tx_len, tx_len]; simp, ?_⟩
    rw [hl]
    exact names_R11 (d := 0) hst fr nd ok le hc lt (lateW_ok _) (fun _ => rfl) k
  · rw [if_neg h]
    exact names_R11 (d := 0) hst fr nd ok le hc lt hw (fun h' => by omega) k
theorem names_B4 {M0 M : MH} {a : Addr} {count n0 t : Nat} {ws : List (List Nat)} {E : DEnds} {o5 o6 o7 : Option Sl} (I : NmI M0 a count n0 ws t M) (le : ws.length < count) (hc : count ≤ 40) (hn : n0 + 20 * t < 2 ^ 60)
    (k : ∀ ws' o5 o6 o7 M', NmI M0 a count n0 ws' (t + 1) M' → E.nx [some (.d (.ref a)), some (.d (.int count)), some (.d (.str (tx lets))), some (.own (wsD ws')), some (.d (.int ((t : Int) + 1))), o5, o6, o7, none] M') :
    td_law_names_B4 cs E [some (.d (.ref a)), some (.d (.int count)), some (.d (.str (tx lets))), some (.own (wsD ws)), some (.d (.int (t : Nat))), o5, o6, o7, none] M := by
  have sl : (tx lets).length ≤ sizeLine := by rw [sizeLine_eq, tx_len]; decide
  simp [↓u_law_names_B4]
  refine ⟨by simp [NoOwn], pick_at I.st (by decide) (by decide) (by omega) fun r M1 r0 r1 hs1 fr1 => ?_⟩
  have b1 : -4611686018427387904 ≤ 1 + r ∧ 1 + r < 4611686018427387904 := by omega
  try simp [b1]
  refine lcD_ind (fun xs acc M' => ∃ cs : List Nat, acc = cs.map (fun c => D.str ⟨#[c]⟩) ∧ (∀ c ∈ cs, c ∈ lets) ∧ cs.length + xs.length = (1 + r).toNat ∧ StoreAt M' a (n0 + 20 * t + 1 + cs.length) ∧ ∀ b, b ≠ a → M' b = M0 b) ?_ ?_ _ _ _ ⟨[], rfl, fun c h => (by cases h), by rw [rgD_len]; simp, hs1, fun b hb => (fr1 b hb).trans (I.fr b hb)⟩
  · rintro acc M2 ⟨cs', rfl, hcs, hlen, hs2, fr2⟩
    rw [jn_l (ys := cs'.map fun c => (⟨#[c]⟩ : Str)) (by rw [List.map_map]; rfl), DL.join_ones, join_ones_len]
    simp only [List.length_nil, Nat.add_zero] at hlen
    have hw : wordOk cs' := ⟨by omega, by omega, hcs⟩
    have hz : (Str.ofString "").length = 0 := by decide +kernel
    refine ⟨by rw [hz]; omega, ?_⟩
    rw [ne_of (wsD_ok I.ok) ok_nilL, eq_nilL]
    have plain : ∀ (v : List Nat) (o6 o7 : Option Sl) (M3 : MH), wordOk v → (∃ m, m ≤ 20 ∧ StoreAt M3 a (n0 + 20 * t + m)) → (∀ b, b ≠ a → M3 b = M0 b) →
        td_law_names_R7 cs E [some (.d (.ref a)), some (.d (.int count)), some (.d (.str (tx lets))), some (.own (wsD ws)), some (.d (.int ((t : Int) + 1))), some (.d (.str (tx v))), o6, o7, none] M3 := fun v o6 o7 M3 hv ⟨m, hm, hs⟩ fr =>
      names_R7 (store_mono hs (by omega)) fr I.nd I.ok le hc I.lt hv fun ws' o5 J => k ws' o5 o6 o7 M3 J
    cases hws : ws with
    | nil =>
      have e : (wsD ([] : List (List Nat))).isEmpty = true := rfl
      rw [e]
      subst hws
      simpa using plain cs' o6 o7 M2 hw ⟨1 + cs'.length, by omega, by rw [← Nat.add_assoc]; exact hs2⟩ fr2
    | cons w0 wr =>
      have e : (wsD (w0 :: wr)).isEmpty = false := rfl
      rw [e, ← hws]
      simp
      refine pick_at hs2 (by decide) (by decide) (by omega) fun r2 M3 s0 s1 hs3 fr3 => ?_
      have fr3' : ∀ b, b ≠ a → M3 b = M0 b := fun b hb => (fr3 b hb).trans (fr2 b hb)
      simp
      by_cases h0 : r2 = 0
      · rw [if_pos h0]
        have hpos : 0 < (wsD ws).length := by rw [hws]; simp [wsD]
        have hle : (wsD ws).length ≤ 40 := by simp [wsD]; omega
        refine pick_at hs3 (by omega) (by omega) (by omega) fun r3 M4 t0 t1 hs4 fr4 => ?_
        try simp
        refine ixI_mem t0 t1 fun old hold => ?_
        obtain ⟨w1, hw1, rfl⟩ := List.mem_map.mp hold
        have hok1 := I.ok w1 hw1
        have hsl1 : (tx w1).length ≤ sizeLine := by rw [sizeLine_eq, tx_len]; have := hok1.2.1; omega
        simp [hsl1]
        rw [tx_len]
        refine pick_at hs4 (by have := hok1.1; omega) (by have := hok1.2.1; omega) (by omega) fun at_ M5 u0 u1 hs5 fr5 => ?_
        simp [hsl1]
        refine pick_at hs5 (by decide) (by decide) (by omega) fun r5 M6 v0 v1 hs6 fr6 => ?_
        simp [sl, hsl1]
        rw [letter v0 v1]
        have one : ∀ c : Nat, (⟨#[c]⟩ : Str) = tx [c] := fun c => rfl
        rw [cutS_tx, cutS_tx, one, cutA_to u0, cutA_from (by omega), tx_len, tx_len, tx_app, tx_len, tx_len, tx_app]
        have hl : (w1.take at_.toNat).length + 1 + (w1.drop (at_ + 1).toNat).length = w1.length := by
          rw [List.length_take, List.length_drop]
          omega
        have hw2 : wordOk (w1.take at_.toNat ++ [97 + r5.toNat] ++ w1.drop (at_ + 1).toNat) := by
          refine ⟨?_, ?_, fun c hc => ?_⟩
          · simp only [List.length_append, List.length_singleton]; omega
          · simp only [List.length_append, List.length_singleton]; have := hok1.2.1; omega
          · rcases List.mem_append.mp hc with h | h
            · rcases List.mem_append.mp h with h | h
              · exact hok1.2.2 c (List.mem_of_mem_take h)
              · simp at h
                rw [mem_lets]
                omega
            · exact hok1.2.2 c (List.mem_of_mem_drop h)
        have := hok1.2.1
        have szl := sizeLine_eq
        refine ⟨by rw [List.length_take]; simp; omega, by rw [List.length_append, List.length_take, List.length_drop]; simp; omega, ?_⟩
        exact plain _ _ _ M6 hw2 ⟨1 + cs'.length + 1 + 1 + 1 + 1, by omega, by
          have e : n0 + 20 * t + (1 + cs'.length + 1 + 1 + 1 + 1) = n0 + 20 * t + 1 + cs'.length + 1 + 1 + 1 + 1 := by omega
          rw [e]; exact hs6⟩ fun b hb => (fr6 b hb).trans ((fr5 b hb).trans ((fr4 b hb).trans (fr3' b hb)))
      · rw [if_neg h0]
        exact plain cs' o6 o7 M3 hw ⟨1 + cs'.length + 1, by omega, by
          have e : n0 + 20 * t + (1 + cs'.length + 1) = n0 + 20 * t + 1 + cs'.length + 1 := by omega
          rw [e]; exact hs3⟩ fr3'
  · rintro x xs acc M2 ⟨cs', rfl, hcs, hlen, hs2, fr2⟩ ih
    simp only [List.length_cons] at hlen
    have hsl : cs'.length < sizeLine := by rw [sizeLine_eq]; omega
    simp
    refine pick_at hs2 (by decide) (by decide) (by omega) fun r5 M3 v0 v1 hs3 fr3 => ?_
    simp [sl]
    rw [letter v0 v1]
    refine ⟨hsl, ih _ _ ⟨cs' ++ [97 + r5.toNat], by simp, fun c hc => ?_, by simp; omega, by simp only [List.length_append, List.length_singleton]; rw [← Nat.add_assoc]; exact hs3, fun b hb => (fr3 b hb).trans (fr2 b hb)⟩⟩
    rcases List.mem_append.mp hc with h | h
    · exact hcs c h
    · simp at h
      rw [mem_lets]
      omega
theorem rd_law_names : ∀ ds M Q E, sp_law_names cs ds M Q E → td_law_names cs (endsD Q E) (startD ["store", "count", "letters", "names", "turn", "word", "old", "at", "k"] ds) M := by
  rintro ds M Q E ⟨a, n, count, rfl, hs, hn, hc, k⟩
  show td_law_names cs (endsD Q E) [some (.d (.ref a)), some (.d (.int count)), none, none, none, none, none, none, none] M
  simp [td_law_names, lets_tx, ↓u_law_names_L4]
  refine ⟨_, whD_ind (fun m δ M' => ∃ ws t o5 o6 o7, δ = [some (.d (.ref a)), some (.d (.int count)), some (.d (.str (tx lets))), some (.own (wsD ws)), some (.d (.int (t : Nat))), o5, o6, o7, none] ∧ NmI M a count n ws t M' ∧ m + t = 40 + count)
    ?_ (40 + count) _ _ ⟨[], 0, none, none, none, rfl, ⟨hs, fun _ _ => rfl, List.nodup_nil, fun w h => (by cases h), by simp, fun u h1 h2 => by omega⟩, rfl⟩⟩
  rintro m δ M' V ⟨ws, t, o5, o6, o7, rfl, I, hm⟩ hV
  have hlen : (wsD ws).length = ws.length := by simp [wsD]
  have hle := I.le
  have hlate := late_len (by omega) I.lt
  simp [hlen]
  by_cases h : ws.length < count
  · rw [if_pos h]
    refine names_B4 I h hc (by omega) fun ws' o5 o6 o7 M2 J => ?_
    exact hV (m - 1) _ M2 (by omega) ⟨ws', t + 1, o5, o6, o7, rfl, J, by omega⟩
  · rw [if_neg h]
    simp [↓u_law_names_R4]
    exact k ws M' (by omega) I.nd I.ok (store_mono I.st (by omega)) I.fr
/-- a drawn arrival -/
def ArrOk (count late : Nat) (a : D) : Prop := ∃ k m, a = .tup [.str k, .int m] ∧ PyData.strOk k = true ∧ (k = "at" ∧ 0 ≤ m ∧ m ≤ late + 4 ∨ k = "after" ∧ 1 ≤ m ∧ m ≤ count)
def cntA (as : List D) (n : Int) : Nat := as.countP fun a => befA a n
theorem jobs_L3 {a : Addr} {most late count : Nat} {M0 : MH} {n0 : Nat} {E0 : DEnds} {o7 o8 o9 o10 o11 o12 : Option Sl} (hc : count ≤ 30) (hl : late < 1000000000) : ∀ (i : Nat) (lo : Int) (as : List D) (o5 o6 : Option Sl) (M : MH) (d : Nat), as.length + i = count → (∀ x ∈ as, ArrOk count late x) → StoreAt M a (n0 + d) → d + 6 * i ≤ 1000 → n0 < 2 ^ 60 → (∀ b, b ≠ a → M b = M0 b) →
    (∀ as' o5 o6 M', as'.length = count → (∀ x ∈ as', ArrOk count late x) → StoreAt M' a (n0 + 1000) → (∀ b, b ≠ a → M' b = M0 b) → E0.nx [some (.d (.ref a)), some (.d (.int most)), some (.d (.int late)), some (.d (.int count)), some (.own as'), o5, o6, o7, o8, o9, o10, o11, o12, none] M') →
    forD (gN 5) (td_law_jobs_B3 cs) E0 (rgD lo i) [some (.d (.ref a)), some (.d (.int most)), some (.d (.int late)), some (.d (.int count)), some (.own as), o5, o6, o7, o8, o9, o10, o11, o12, none] M
  | 0, lo, as, o5, o6, M, d, h1, h2, hs, hd, hn, fr, k => by simpa [rgD_zero] using k as o5 o6 M (by omega) h2 (store_mono hs (by omega)) fr
  | i + 1, lo, as, o5, o6, M, d, h1, h2, hs, hd, hn, fr, k => by
    have szl := sizeLine_eq
    rw [rgD_succ]
    simp [↓u_law_jobs_B3]
    refine pick_at hs (by decide) (by decide) (by omega) fun r1 M1 a0 a1 hs1 fr1 => ?_
    try simp
    refine pick_at hs1 (by omega) (by omega) (by omega) fun r2 M2 b0 b1 hs2 fr2 => ?_
    try simp
    refine pick_at hs2 (by decide) (by decide) (by omega) fun r3 M3 c0 c1 hs3 fr3 => ?_
    try simp
    refine ixI_mem c0 (by simpa using c1) fun v hv => ?_
    obtain ⟨m, rfl, hm0, hm1⟩ : ∃ m : Int, v = .int m ∧ 0 ≤ m ∧ m ≤ late + 4 := by
      simp at hv
      rcases hv with rfl | rfl | rfl
      · exact ⟨_, rfl, by omega, by omega⟩
      · exact ⟨_, rfl, by omega, by omega⟩
      · exact ⟨_, rfl, by omega, by omega⟩
    try simp
    refine pick_at hs3 (by omega) (by omega) (by omega) fun r4 M4 d0 d1 hs4 fr4 => ?_
    try simp
    refine pick_at hs4 (by decide) (by decide) (by omega) fun r5 M5 e0 e1 hs5 fr5 => ?_
    try simp
    refine ixI_mem e0 (by simpa using e1) fun v hv => ?_
    have hsl : as.length < sizeLine := by omega
    try simp [hsl]
    have hv : ArrOk count late v := by
      simp at hv
      rcases hv with rfl | rfl
      · exact ⟨_, _, rfl, so_at, .inl ⟨rfl, hm0, hm1⟩⟩
      · exact ⟨_, _, rfl, so_after, .inr ⟨rfl, by omega, by omega⟩⟩
    exact jobs_L3 (M0 := M0) hc hl i _ (as ++ [v]) _ _ M5 (d + 5) (by simp; omega) (fun x hx => by
      rcases List.mem_append.mp hx with h | h
      · exact h2 x h
      · simp at h; subst h; exact hv) hs5 (by omega) hn (fun b hb => (fr5 b hb).trans ((fr4 b hb).trans ((fr3 b hb).trans ((fr2 b hb).trans ((fr1 b hb).trans (fr b hb)))))) k
theorem befA_at {m n : Int} : befA (.tup [.str "at", .int m]) n = true := by rw [befA_eq]; simp
theorem cntA_set {as : List D} {i : Nat} {m n : Int} : cntA as n ≤ cntA (as.set i (.tup [.str "at", .int m])) n := by
  unfold cntA
  induction as generalizing i with
  | nil => simp
  | cons x r ih =>
    cases i with
    | zero =>
      simp only [List.set_cons_zero, List.countP_cons, befA_at, if_true]
      split <;> omega
    | succ i =>
      simp only [List.set_cons_succ, List.countP_cons]
      have := ih (i := i)
      omega
/-- at the places below i nobody waits for ever -/
def Calm (as : List D) (i : Nat) : Prop := ∀ (j : Nat) (x : D), j < i → as[j]? = some x → aftA x = true → numA x ≤ cntA as (numA x)
theorem cntA_len {all : List D} {n : Int} : (([] : List D) ++ (all.filter fun a => befA a n).map fun d => d).length = cntA all n := by
  rw [List.nil_append, List.map_id', cntA, List.countP_eq_length_filter]
theorem jobs_L6 {a : Addr} {most late count : Nat} {M0 : MH} {n0 : Nat} {E0 : DEnds} {o6 o10 o11 o12 : Option Sl} (hc : count ≤ 30) (hl : late < 1000000000) : ∀ (i : Nat) (lo : Nat) (as : List D) (o5 o7 o8 o9 : Option Sl) (M : MH) (d : Nat), lo + i = count → as.length = count → (∀ x ∈ as, ArrOk count late x) → Calm as lo → StoreAt M a (n0 + d) → d + i ≤ 1000 → n0 < 2 ^ 60 → (∀ b, b ≠ a → M b = M0 b) →
    (∀ as' o5 o7 o8 o9 M', as'.length = count → (∀ x ∈ as', ArrOk count late x) → Calm as' count → StoreAt M' a (n0 + 1000) → (∀ b, b ≠ a → M' b = M0 b) → E0.nx [some (.d (.ref a)), some (.d (.int most)), some (.d (.int late)), some (.d (.int count)), some (.own as'), o5, o6, o7, o8, o9, o10, o11, o12, none] M') →
    forD (gN 5) (td_law_jobs_B6 cs) E0 (rgD lo i) [some (.d (.ref a)), some (.d (.int most)), some (.d (.int late)), some (.d (.int count)), some (.own as), o5, o6, o7, o8, o9, o10, o11, o12, none] M
  | 0, lo, as, o5, o7, o8, o9, M, d, h0, h1, h2, hcm, hs, hd, hn, fr, k => by simpa [rgD_zero] using k as o5 o7 o8 o9 M h1 h2 (by rw [← show lo = count from by omega]; exact hcm) (store_mono hs (by omega)) fr
  | i + 1, lo, as, o5, o7, o8, o9, M, d, h0, h1, h2, hcm, hs, hd, hn, fr, k => by
    have szl := sizeLine_eq
    rw [rgD_succ]
    simp [↓u_law_jobs_B6]
    have hlo : lo < as.length := by omega
    have hget : as[lo]? = some as[lo] := List.getElem?_eq_getElem hlo
    rw [ixI_at (by omega) (show as[((lo : Nat) : Int).toNat]? = some as[lo] from by simpa using hget)]
    obtain ⟨kd, m, he, hk, hm⟩ := h2 _ (List.getElem_mem hlo)
    rw [he]
    simp
    refine ⟨by simp [NoOwn], lcD_pure (fun x => befA x m) (fun x => x) _ _ (fun y hy Y N q => ?_) (by simp; omega) ?_⟩
    · obtain ⟨k', m', rfl, hk', _⟩ := h2 y hy
      have q' : if befA (.tup [.str k', .int m']) m = true then Y (.tup [.str k', .int m']) M else N M := q
      simp [↓spBefore_eq, hk']
      cases hb : befA (.tup [.str k', .int m']) m with
      | true => rw [hb, if_pos rfl] at q'; simpa using q'
      | false => rw [hb, if_neg (by decide)] at q'; simpa using q'
    · have hcl := cntA_len (all := as) (n := m)
      generalize hL : (([] : List D) ++ (as.filter fun x => befA x m).map fun d => d) = L at hcl ⊢
      simp [so_after, hk, hcl]
      have calm' : ∀ as' : List D, as'.length = count → (∀ n, cntA as n ≤ cntA as' n) → (∀ j, j < lo → as'[j]? = as[j]?) → (∀ x, as'[lo]? = some x → aftA x = true → numA x ≤ cntA as' (numA x)) → Calm as' (lo + 1) := fun as' _ h1 h2 h3 j x hj hx hax => by
        by_cases e : j < lo
        · rw [h2 j e] at hx
          have := hcm j x e hx hax
          have := h1 (numA x)
          omega
        · have : j = lo := by omega
          subst this
          exact h3 x hx hax
      have stay : (kd = "after" → ¬ (cntA as m : Int) < m) → forD (gN 5) (td_law_jobs_B6 cs) E0 (rgD ((lo : Int) + 1) i) [some (.d (.ref a)), some (.d (.int most)), some (.d (.int late)), some (.d (.int count)), some (.own as), some (.d (.int lo)), o6, some (.d (.str kd)), some (.d (.int m)), some (.own L), o10, o11, o12, none] M := fun hno =>
        jobs_L6 (M0 := M0) hc hl i (lo + 1) as _ _ _ _ M (d + 1) (by omega) h1 h2 (calm' as h1 (fun n => Nat.le_refl _) (fun j _ => rfl) fun x hx hax => by
          rw [hget] at hx
          cases hx
          rw [he] at hax ⊢
          have hne : kd ≠ "at" := fun h => by subst h; simp [aftA] at hax
          have : kd = "after" := by
            rcases hm with ⟨h, _⟩ | ⟨h, _⟩
            · exact absurd h hne
            · exact h
          have := hno this
          show m ≤ (cntA as m : Int)
          omega) (store_mono hs (by omega)) (by omega) hn fr k
      by_cases hka : kd = "after"
      · rw [if_pos hka]
        by_cases hlt : (cntA as m : Int) < m
        · rw [if_pos hlt]
          simp [↓e_sSet]
          refine pick_at hs (by omega) (by omega) (by omega) fun r1 M1 a0 a1 hs1 fr1 => ?_
          try simp
          rw [setI_at (by omega) (by omega)]
          have hset : ∀ j, j ≠ lo → (as.set lo (.tup [.str "at", .int r1]))[j]? = as[j]? := fun j hj => setNe hj
          refine jobs_L6 (M0 := M0) hc hl i (lo + 1) (as.set lo (.tup [.str "at", .int r1])) _ _ _ _ M1 (d + 1) (by omega) (by simp [h1]) (fun x hx => ?_) (calm' _ (by simp [h1]) (fun n => cntA_set) (fun j hj => hset j (by omega)) fun x hx hax => ?_) hs1 (by omega) hn (fun b hb => (fr1 b hb).trans (fr b hb)) k
          · rcases List.mem_or_eq_of_mem_set hx with h | h
            · exact h2 x h
            · subst h
              exact ⟨_, _, rfl, so_at, .inl ⟨rfl, by omega, by omega⟩⟩
          · rw [setSame hlo] at hx
            cases hx
            simp [aftA] at hax
        · rw [if_neg hlt]
          exact stay fun _ => hlt
      · rw [if_neg hka]
        exact stay fun h => absurd h hka
def JobAt (ws : List (List Nat)) (as js : List D) : Prop := ∀ (i : Nat) (x : D), js[i]? = some x → ∃ w a e, ws[i]? = some w ∧ as[i]? = some a ∧ x = .tup [.str (tx w), a, .int e] ∧ 0 ≤ e ∧ e ≤ 9
theorem jobs_L12 {a : Addr} {ws : List (List Nat)} {as : List D} {M0 : MH} {n0 : Nat} {E0 : DEnds} {o1 o2 o3 o5 o6 o7 o8 o9 : Option Sl} (has : as.length = ws.length) (hws : ws.length ≤ 40) : ∀ (r : List (List Nat)) (js : List D) (o11 o12 : Option Sl) (M : MH) (d : Nat), js.length + r.length = ws.length → ws.drop js.length = r → JobAt ws as js → StoreAt M a (n0 + d) → d + 3 * r.length ≤ 1000 → n0 < 2 ^ 60 → (∀ b, b ≠ a → M b = M0 b) →
    (∀ js' o11 o12 M', js'.length = ws.length → JobAt ws as js' → StoreAt M' a (n0 + 1000) → (∀ b, b ≠ a → M' b = M0 b) → E0.nx [some (.d (.ref a)), o1, o2, o3, some (.own as), o5, o6, o7, o8, o9, some (.own js'), o11, o12, none] M') →
    forD (gN 11) (td_law_jobs_B12 cs) E0 (wsD r) [some (.d (.ref a)), o1, o2, o3, some (.own as), o5, o6, o7, o8, o9, some (.own js), o11, o12, none] M
  | [], js, o11, o12, M, d, h1, h2, h3, hs, hd, hn, fr, k => by simpa [wsD] using k js o11 o12 M (by simpa using h1) h3 (store_mono hs (by omega)) fr
  | w :: r, js, o11, o12, M, d, h1, h2, h3, hs, hd, hn, fr, k => by
    have szl := sizeLine_eq
    simp only [List.length_cons] at h1 hd
    have hlt : js.length < ws.length := by omega
    have hw : ws[js.length]? = some w := by
      have := congrArg (fun l => l[0]?) h2
      simpa using this
    show forD (gN 11) (td_law_jobs_B12 cs) E0 (.str (tx w) :: wsD r) _ M
    simp [↓u_law_jobs_B12]
    refine pick_at hs (by decide) (by decide) (by omega) fun r1 M1 a0 a1 hs1 fr1 => ?_
    try simp
    refine pick_at hs1 (by decide) (by decide) (by omega) fun r2 M2 b0 b1 hs2 fr2 => ?_
    try simp
    refine ixI_mem b0 (by simpa using b1) fun v hv => ?_
    obtain ⟨e, rfl, he0, he1⟩ : ∃ e : Int, v = .int e ∧ 0 ≤ e ∧ e ≤ 9 := by
      simp at hv
      rcases hv with rfl | rfl
      · exact ⟨_, rfl, by omega, by omega⟩
      · exact ⟨_, rfl, by omega, by omega⟩
    have hal : js.length < as.length := by omega
    have hga : as[js.length]? = some as[js.length] := List.getElem?_eq_getElem hal
    have hsl : js.length < sizeLine := by omega
    try simp
    rw [ixI_at (by omega) (show as[((js.length : Nat) : Int).toNat]? = some as[js.length] from by simpa using hga)]
    try simp [hsl]
    refine jobs_L12 (M0 := M0) has hws r (js ++ [.tup [.str (tx w), as[js.length], .int e]]) _ _ M2 (d + 2) (by simp; omega) ?_ ?_ hs2 (by omega) hn (fun b hb => (fr2 b hb).trans ((fr1 b hb).trans (fr b hb))) k
    · rw [List.length_append, List.length_singleton, ← List.drop_drop, h2]
      rfl
    · intro i x hx
      by_cases hi : i < js.length
      · rw [List.getElem?_append_left hi] at hx
        exact h3 i x hx
      · have hi' : i = js.length := by
          have := lt_of_get hx
          simp at this
          omega
        subst hi'
        rw [List.getElem?_append_right (Nat.le_refl _), Nat.sub_self] at hx
        cases hx
        exact ⟨w, _, e, hw, hga, rfl, he0, he1⟩
theorem word_name {w : List Nat} (h : wordOk w) : isNameD (.str (tx w)) = true := by
  rw [isNameD_eq, tx_len, tx_cps, Bool.and_eq_true]
  exact ⟨decide_eq_true ⟨h.1, h.2.1⟩, List.all_eq_true.mpr fun c hc => decide_eq_true (h.2.2 c hc)⟩
theorem arr_ok {count late : Nat} {a : D} (h : ArrOk count late a) : isArrD a = true := by
  obtain ⟨k, m, rfl, _, hm⟩ := h
  rw [isArrD_eq]
  rcases hm with ⟨rfl, h, _⟩ | ⟨rfl, h, _⟩
  · rw [if_pos rfl]
    exact decide_eq_true h
  · rw [if_neg ne_aft, decide_eq_true rfl, Bool.true_and]
    exact decide_eq_true h
theorem f1_of : ∀ (r seen : List D) (i : Nat) (vs : List (List Nat)), (∀ j ∈ r, isJobD j = true) → seen ++ r.map fstD = wsD vs → vs.Nodup → f1 r seen i = none
  | [], _, _, _, _, _, _ => rfl
  | x :: r, seen, i, vs, hj, he, hn => by
    rw [f1_cons, hj x (List.mem_cons_self ..), Bool.true_and]
    have e2 : (seen ++ [fstD x]) ++ r.map fstD = wsD vs := by simpa using he
    have hany : (seen.any fun z => D.eq z (fstD x)) = false := by
      obtain ⟨v1, v2, rfl, hv1, hv2⟩ := List.map_eq_append_iff.mp he.symm
      cases v2 with
      | nil => cases hv2
      | cons v vr =>
        simp only [List.map_cons, List.cons.injEq] at hv2
        rw [← hv1, ← hv2.1]
        have : ((wsD v1).any fun z => D.eq z (.str (tx v))) = decide (v ∈ v1) := wsD_any
        refine this.trans (decide_eq_false fun h => ?_)
        rw [List.nodup_append] at hn
        exact hn.2.2 v h v (List.mem_cons_self ..) rfl
    rw [hany, if_pos (by rfl)]
    exact f1_of r _ _ vs (fun j h => hj j (List.mem_cons_of_mem _ h)) e2 hn
theorem f2_of {all : List D} : ∀ (r : List D) (i : Nat), (∀ j ∈ r, aftA (arrD j) = true → numA (arrD j) ≤ cntB all (numA (arrD j))) → f2 r all i = none
  | [], _, _ => rfl
  | x :: r, i, h => by
    have hx := h x (List.mem_cons_self ..)
    rw [f2_cons, if_neg]
    · exact f2_of r _ fun j hj => h j (List.mem_cons_of_mem _ hj)
    · rw [Bool.and_eq_true]
      rintro ⟨h1, h2⟩
      have := hx h1
      have := of_decide_eq_true h2
      omega
theorem rd_law_jobs : ∀ ds M Q E, sp_law_jobs cs ds M Q E → td_law_jobs cs (endsD Q E) (startD ["store", "most", "late", "count", "arrivals", "k", "at", "kind", "number", "earlier", "jobs", "name", "door", "one"] ds) M := by
  rintro ds M Q E ⟨a, n, most, late, rfl, hs, hn, hmost, hlate, k⟩
  show td_law_jobs cs (endsD Q E) [some (.d (.ref a)), some (.d (.int most)), some (.d (.int late)), none, none, none, none, none, none, none, none, none, none, none] M
  simp [td_law_jobs]
  refine pick_at hs (by omega) (by omega) (by omega) fun r1 M1 a0 a1 hs1 fr1 => ?_
  obtain ⟨count, rfl⟩ : ∃ c : Nat, r1 = (c : Int) := ⟨r1.toNat, by omega⟩
  have hcm : count ≤ most := by omega
  have b1 : -4611686018427387904 ≤ (count : Int) ∧ (count : Int) < 4611686018427387904 := by omega
  simp [↓u_law_jobs_L3, b1]
  refine jobs_L3 (M0 := M) (n0 := n) (by omega) hlate count 0 [] _ _ M1 1 (by simp) (fun x hx => by cases hx) hs1 (by omega) (by omega) fr1 fun as o5 o6 M2 l2 ok2 hs2 fr2 => ?_
  simp [↓u_law_jobs_R3, ↓u_law_jobs_L6, b1]
  refine jobs_L6 (M0 := M) (n0 := n + 1000) (by omega) hlate count 0 as _ _ _ _ M2 0 (by simp) l2 ok2 (fun j x hj => by omega) hs2 (by omega) (by omega) fr2 fun as o5 o7 o8 o9 M3 l3 ok3 calm hs3 fr3 => ?_
  simp [↓u_law_jobs_R6, ↓u_law_jobs_L12]
  refine ⟨a, n + 1000 + 1000, count, rfl, hs3, by omega, by omega, fun ws M4 lw nd okw hs4 fr4 => ?_⟩
  try simp
  refine jobs_L12 (M0 := M) (n0 := n + 1000 + 1000 + 2000) (by omega) (by omega) ws [] _ _ M4 0 (by simp) rfl (fun i x hx => by simp at hx) hs4 (by omega) (by omega) (fun b hb => (fr4 b hb).trans (fr3 b hb)) fun js o11 o12 M5 lj hj hs5 fr5 => ?_
  simp [↓u_law_jobs_R12]
  have hjob : ∀ j ∈ js, isJobD j = true ∧ arrD j ∈ as := fun j hjm => by
    obtain ⟨i, hi⟩ := List.getElem?_of_mem hjm
    obtain ⟨w, x, e, h1, h2, rfl, h3, h4⟩ := hj i j hi
    have e1 : isJobD (.tup [.str (tx w), x, .int e]) = (isNameD (.str (tx w)) && isArrD x && (decide (0 ≤ e) && decide (e ≤ 9))) := rfl
    rw [e1, word_name (okw w (List.mem_of_getElem? h1)), arr_ok (ok3 x (List.mem_of_getElem? h2)), decide_eq_true h3, decide_eq_true h4]
    exact ⟨rfl, List.mem_of_getElem? h2⟩
  have hfst : js.map fstD = wsD ws := by
    refine List.ext_getElem? fun i => ?_
    rw [List.getElem?_map, wsD, List.getElem?_map]
    cases hi : js[i]? with
    | none =>
      have : ws[i]? = none := by rw [List.getElem?_eq_none_iff] at hi ⊢; omega
      rw [this]
      rfl
    | some j =>
      obtain ⟨w, x, e, h1, h2, rfl, h3, h4⟩ := hj i j hi
      rw [h1]
      rfl
  have harr : js.map arrD = as := by
    refine List.ext_getElem? fun i => ?_
    rw [List.getElem?_map]
    cases hi : js[i]? with
    | none =>
      have : as[i]? = none := by rw [List.getElem?_eq_none_iff] at hi ⊢; omega
      rw [this]
      rfl
    | some j =>
      obtain ⟨w, x, e, h1, h2, rfl, h3, h4⟩ := hj i j hi
      rw [h2]
      rfl
  have hcnt : ∀ n, cntB js n = cntA as n := fun n => by
    rw [← harr, cntA, List.countP_map]
    rfl
  refine k js M5 ⟨fun j h => (hjob j h).1, f1_of js [] 0 ws (fun j h => (hjob j h).1) (by simpa using hfst) nd, f2_of js 0 fun j h hax => ?_⟩ (by omega) (fun j h => ?_) (store_mono hs5 (by omega)) fr5
  · rw [hcnt]
    obtain ⟨i, hi⟩ := List.getElem?_of_mem (hjob j h).2
    exact calm i _ (by have := lt_of_get hi; omega) hi hax
  · obtain ⟨kd, m, e, _, hm⟩ := ok3 _ (hjob j h).2
    rw [e]
    show m ≤ _
    rcases hm with ⟨_, _, h⟩ | ⟨_, _, h⟩ <;> omega
theorem lp_pres {E0 : DEnds} {o0 : Option Sl} {u f : Int} : ∀ (js : List D) (h : Int) (o4 o5 o6 : Option Sl), (∀ j ∈ js, isJobD j = true) → (∀ o4 o5 o6, E0.nx [o0, some (.d (.int u)), some (.d (.int f)), some (.d (.int (h + cntArr js (u - 1) f))), o4, o5, o6] M) →
    forD (gTupD 3 (gConsD (gN 4) (gConsD (gN 5) (gConsD (gN 6) gNilD)))) (td_law_present_B2 cs) E0 js [o0, some (.d (.int u)), some (.d (.int f)), some (.d (.int h)), o4, o5, o6] M
  | [], h, o4, o5, o6, hj, k => by simpa [cntArr] using k o4 o5 o6
  | j :: r, h, o4, o5, o6, hj, k => by
    obtain ⟨s, kk, m, i, rfl, hn, hk, hkm, hi⟩ := job_parts (hj j (List.mem_cons_self ..))
    have ih := fun h' o4 o5 o6 => lp_pres (E0 := E0) (o0 := o0) (u := u) (f := f) r h' o4 o5 o6 (fun l hl => hj l (List.mem_cons_of_mem _ hl))
    have e : ∀ b : Bool, hasA (.tup [.str kk, .int m]) (u - 1) f = b → (∀ o4 o5 o6, E0.nx [o0, some (.d (.int u)), some (.d (.int f)), some (.d (.int (h + (if b = true then 1 else 0) + cntArr r (u - 1) f))), o4, o5, o6] M) := fun b hb o4 o5 o6 => by
      have := k o4 o5 o6
      have c : cntArr (D.tup [.str s, .tup [.str kk, .int m], .int i] :: r) (u - 1) f = cntArr r (u - 1) f + if b = true then 1 else 0 := by
        unfold cntArr
        rw [List.countP_cons]
        show _ + (if hasA (.tup [.str kk, .int m]) (u - 1) f = true then 1 else 0) = _
        rw [hb]
      rw [c] at this
      have d : h + ((cntArr r (u - 1) f + if b = true then 1 else 0 : Nat) : Int) = h + (if b = true then 1 else 0) + cntArr r (u - 1) f := by cases b <;> simp <;> omega
      rw [d] at this
      exact this
    simp [↓u_law_present_B2]
    refine ⟨⟨hk, so_after⟩, ?_⟩
    have ha : hasA (.tup [.str kk, .int m]) (u - 1) f = decide (m ≤ if kk = "at" then u - 1 else f) := by
      show decide (m ≤ if (!decide (kk = "at")) = true then f else u - 1) = _
      by_cases h : kk = "at" <;> simp [h]
    rcases hkm with ⟨rfl, _⟩ | ⟨rfl, _⟩
    · rw [if_neg (fun h => ne_aft h.symm)]
      rw [if_pos rfl] at ha
      simp
      have := ih _ (some (.d (.str s))) (some (.d (.tup [.str "at", .int m]))) (some (.d (.int i))) (e _ ha)
      simpa using this
    · rw [if_pos rfl]
      rw [if_neg ne_aft] at ha
      simp
      have := ih _ (some (.d (.str s))) (some (.d (.tup [.str "after", .int m]))) (some (.d (.int i))) (e _ ha)
      simpa using this
theorem rd_law_present : ∀ ds M Q E, sp_law_present cs ds M Q E → td_law_present cs (endsD Q E) (startD ["jobs", "unit", "finished", "here", "name", "arrival", "door"] ds) M := by
  rintro ds M Q E ⟨js, u, f, rfl, hj, hl, q⟩
  show td_law_present cs (endsD Q E) [some (.d (.tup js)), some (.d (.int u)), some (.d (.int f)), none, none, none, none] M
  simp [td_law_present, ↓u_law_present_L2]
  refine lp_pres js 0 _ _ _ hj fun o4 o5 o6 => ?_
  simpa [pres, ↓u_law_present_R2] using q
end
end Lw

set_option Elab.async false
set_option linter.all false
set_option maxRecDepth 100000
set_option maxHeartbeats 4000000
namespace Lw
open PySem PySem.Spec PyProof.Rows L2 DL
section
variable {cs : Cs} {M : MH} {Q : Sl → MH → Prop} {E : Addr → List (Str × D) → MH → Prop}
theorem f2_none : ∀ (r all : List D) (i : Nat), Lw.f2 r all i = none → ∀ j ∈ r, aftA (arrD j) = true → numA (arrD j) ≤ (cntB all (numA (arrD j)) : Int)
  | [], _, _, _, j, hj => by cases hj
  | x :: r, all, i, h, j, hj => by
    rw [f2_cons] at h
    split at h
    · cases h
    · rename_i hc
      intro ha
      rcases List.mem_cons.mp hj with rfl | hj
      · rw [ha, Bool.true_and] at hc
        have := mt decide_eq_true hc
        omega
      · exact f2_none r all _ h j hj ha
/-- somebody comes -/
theorem more_come {js : List D} {m f : Int} (h : JobsOk js) (hf : (cntArr js m f : Int) = f) (hlt : f < js.length) : ∃ j ∈ js, aftA (arrD j) = false ∧ m < numA (arrD j) := by
  -- the least n of those who wait for finishes
  refine Classical.byContradiction fun hno => ?_
  have hat : ∀ j ∈ js, aftA (arrD j) = false → hasA (arrD j) m f = true := fun j hj ha => by
    unfold hasA
    rw [ha]
    refine decide_eq_true ?_
    simp
    refine Classical.byContradiction fun hc => hno ⟨j, hj, ha, by omega⟩
  have hwait : ∃ j ∈ js, aftA (arrD j) = true ∧ f < numA (arrD j) := by
    refine Classical.byContradiction fun hw => ?_
    have : cntArr js m f = js.length := by
      unfold cntArr
      rw [List.countP_eq_length]
      intro j hj
      cases ha : aftA (arrD j) with
      | false => exact hat j hj ha
      | true =>
        unfold hasA
        rw [ha]
        refine decide_eq_true ?_
        simp
        refine Classical.byContradiction fun hc => hw ⟨j, hj, ha, by omega⟩
    omega
  have least : ∀ (k : Nat) (j : D), j ∈ js → aftA (arrD j) = true → f < numA (arrD j) → (numA (arrD j) - f).toNat ≤ k → False := by
    intro k
    induction k with
    | zero => intro j hj ha hc hk; omega
    | succ k ih =>
      intro j hj ha hc hk
      have hb := f2_none js js 0 h.wt j hj ha
      have : cntB js (numA (arrD j)) ≤ cntArr js m f := by
        unfold cntB cntArr
        refine List.countP_mono_left fun i hi hbi => ?_
        cases ha' : aftA (arrD i) with
        | false => exact hat i hi ha'
        | true =>
          unfold befA at hbi
          rw [ha'] at hbi
          have hlt' : numA (arrD i) < numA (arrD j) := by simpa using hbi
          unfold hasA
          rw [ha']
          refine decide_eq_true ?_
          simp
          refine Classical.byContradiction fun hc' => ih i hi ha' (by omega) (by omega)
      omega
  obtain ⟨j, hj, ha, hc⟩ := hwait
  exact least _ j hj ha hc (Nat.le_refl _)
theorem cntArr_lt {js : List D} {m m' f : Int} {j : D} (hj : j ∈ js) (ha : aftA (arrD j) = false) (h1 : m < numA (arrD j)) (h2 : numA (arrD j) ≤ m') : cntArr js m f < cntArr js m' f := by
  have key : ∀ (l : List D), j ∈ l → cntArr l m f < cntArr l m' f := by
    intro l
    induction l with
    | nil => intro h; cases h
    | cons x r ih =>
      intro h
      have e : ∀ k, cntArr (x :: r) k f = cntArr r k f + if hasA (arrD x) k f = true then 1 else 0 := fun k => by unfold cntArr; rw [List.countP_cons]
      rw [e, e]
      have mono : cntArr r m f ≤ cntArr r m' f := cntArr_mono (by omega) (Int.le_refl _)
      rcases List.mem_cons.mp h with rfl | h
      · have a1 : hasA (arrD j) m f = false := by unfold hasA; rw [ha]; simp; omega
        have a2 : hasA (arrD j) m' f = true := by unfold hasA; rw [ha]; simp; omega
        rw [a1, a2]
        simp
        omega
      · have := ih h
        have : (if hasA (arrD x) m f = true then 1 else 0) ≤ if hasA (arrD x) m' f = true then 1 else 0 := by
          split
          · rename_i hx
            rw [if_pos (hasA_mono (by omega) (Int.le_refl _) hx)]
            exact Nat.le_refl _
          · omega
        omega
  exact key js hj
theorem Rise.snoc : ∀ {ps : Prs} {b u c : Int}, Rise b ps → (∀ p ∈ ps, p.1 < u) → b < u → 1 ≤ c → Rise b (ps ++ [(u, c)])
  | [], b, u, c, _, _, h, hc => ⟨h, hc, trivial⟩
  | p :: r, b, u, c, ⟨h1, h2, h3⟩, hu, h, hc => ⟨h1, h2, Rise.snoc h3 (fun q hq => hu q (List.mem_cons_of_mem _ hq)) (hu p (List.mem_cons_self ..)) hc⟩
/-- a log that goes to f finishes -/
def LogTo (js : List D) (cores : Int) : Int → Prs → Int → Prop
  | f, [], g => f = g
  | f, p :: r, g => p.2 ≤ cores ∧ p.2 ≤ pres js p.1 f ∧ LogTo js cores (f + p.2) r g
theorem LogTo.snoc {js : List D} {cores : Int} : ∀ {ps : Prs} {f g u c : Int}, LogTo js cores f ps g → c ≤ cores → c ≤ pres js u g → LogTo js cores f (ps ++ [(u, c)]) (g + c)
  | [], f, g, u, c, h, h1, h2 => by
    have h : f = g := h
    subst h
    exact ⟨h1, h2, rfl⟩
  | p :: r, f, g, u, c, ⟨a, b, h⟩, h1, h2 => ⟨a, b, LogTo.snoc h h1 h2⟩
theorem LogTo.run {js : List D} {cores : Int} : ∀ {ps : Prs} {f : Int}, LogTo js cores f ps js.length → LogRun js cores f ps
  | [], _, h => h
  | p :: r, f, ⟨a, b, h⟩ => ⟨a, b, LogTo.run h⟩
theorem lp_log {a : Addr} {js : List D} {cores late wide n0 : Nat} {M0 : MH} {E0 : DEnds} (hok : JobsOk js) (hjl : js.length ≤ 30) (hc1 : 1 ≤ cores) (hc2 : cores ≤ 100) (hw : wide < 1000000) (hlate : late < 1000000) (hjn : ∀ j ∈ js, numA (arrD j) ≤ late) (hn : n0 < 2 ^ 50)
    (k : ∀ ps (unit : Int) o7 o8 o9 M', Rise 0 ps → LogTo js cores 0 ps js.length → ps.length ≤ js.length → (∀ p ∈ ps, p.1 < unit ∧ p.2 ≤ 100) → unit ≤ late + 2 + (wide + 4) * js.length → StoreAt M' a (n0 + 200) → (∀ b, b ≠ a → M' b = M0 b) → E0.nx [some (.d (.ref a)), some (.d (.tup js)), some (.d (.int cores)), some (.d (.int wide)), some (.own (logD ps)), some (.d (.int js.length)), some (.d (.int unit)), o7, o8, o9, none, none, none] M') :
    ∀ (m : Nat) (ps : Prs) (fin : Nat) (unit : Int) (o7 o8 o9 : Option Sl) (M : MH), js.length ≤ fin + m → Rise 0 ps → LogTo js cores 0 ps fin → ps.length ≤ fin → (∀ p ∈ ps, p.1 < unit ∧ p.2 ≤ 100) → 1 ≤ unit → unit ≤ late + 2 + (wide + 4) * fin → (fin : Int) ≤ cntArr js (unit - 1) fin → StoreAt M a (n0 + 5 * fin) → (∀ b, b ≠ a → M b = M0 b) →
    whD (dCmp fLt (oPeek 5) (dFz (dCB fLen (aCons (oPeek 1) aNil)))) (td_law_log_B4 cs) E0 (m + 1) [some (.d (.ref a)), some (.d (.tup js)), some (.d (.int cores)), some (.d (.int wide)), some (.own (logD ps)), some (.d (.int fin)), some (.d (.int unit)), o7, o8, o9, none, none, none] M
  | m, ps, fin, unit, o7, o8, o9, M, hm, hr, hlt, hpl, hp, hu1, hu, hcnt, hs, hfr => by
    have szl := sizeLine_eq
    have hle : cntArr js (unit - 1) fin ≤ js.length := cntArr_le
    have hW : (0 : Int) ≤ wide + 4 := by omega
    have hWf : ((wide : Int) + 4) * fin ≤ (wide + 4) * js.length := Int.mul_le_mul_of_nonneg_left (by omega) hW
    have hlogl := logD_len (ps := ps)
    unfold whD
    simp
    by_cases hf : fin < js.length
    · rw [if_pos hf]
      cases m with
      | zero => omega
      | succ m =>
        have go : ∀ (unit' : Int) (o7 : Option Sl), unit ≤ unit' → unit' ≤ late + 2 + (wide + 4) * fin → 1 ≤ pres js unit' fin →
            td_law_log_R6 cs { nx := whD (dCmp fLt (oPeek 5) (dFz (dCB fLen (aCons (oPeek 1) aNil)))) (td_law_log_B4 cs) E0 (m + 1), rt := E0.rt, bk := E0.nx, ct := whD (dCmp fLt (oPeek 5) (dFz (dCB fLen (aCons (oPeek 1) aNil)))) (td_law_log_B4 cs) E0 (m + 1), ex := E0.ex }
              [some (.d (.ref a)), some (.d (.tup js)), some (.d (.int cores)), some (.d (.int wide)), some (.own (logD ps)), some (.d (.int fin)), some (.d (.int unit')), o7, o8, o9, none, none, none] M := fun unit' o7 h1 h2 h3 => by
          simp [↓u_law_log_R6]
          refine ⟨a, 3, n0 + 5 * fin, rfl, hs, by decide, by decide, by omega, fun d1 M1 d10 d11 hs1 fr1 => ?_⟩
          simp
          refine ⟨a, wide + 1, n0 + 5 * fin + 1, by simp, hs1, by omega, by omega, by omega, fun d2 M2 d20 d21 hs2 fr2 => ?_⟩
          simp
          refine ⟨a, 3, n0 + 5 * fin + 1 + 1, rfl, hs2, by decide, by decide, by omega, fun d3 M3 d30 d31 hs3 fr3 => ?_⟩
          try simp
          refine ixI_mem d30 (by simpa using d31) fun y hy => ?_
          obtain ⟨e, rfl, he0, he1⟩ : ∃ e : Int, y = .int e ∧ 0 ≤ e ∧ e ≤ wide + 2 := by
            simp only [List.mem_cons, List.not_mem_nil, or_false] at hy
            rcases hy with rfl | rfl | rfl
            · exact ⟨0, rfl, by omega, by omega⟩
            · exact ⟨d1, rfl, by omega, by omega⟩
            · exact ⟨d2, rfl, by omega, by omega⟩
          have hpr : pres js unit' fin ≤ pres js (unit' + e) fin := by
            have := cntArr_mono (js := js) (m := unit' - 1) (m' := unit' + e - 1) (f := fin) (f' := fin) (by omega) (Int.le_refl _)
            unfold pres
            omega
          simp [sp_law_present_eq]
          refine ⟨hok.job, by omega, ?_⟩
          generalize hmn : (if pres js (unit' + e) fin < cores then pres js (unit' + e) fin else (cores : Int)) = mn
          have hmn : 1 ≤ mn ∧ mn ≤ cores ∧ mn ≤ pres js (unit' + e) fin := by rw [← hmn]; split <;> omega
          refine ⟨a, mn.toNat, n0 + 5 * fin + 1 + 1 + 1, by rw [Int.toNat_of_nonneg (by omega)], hs3, by omega, by omega, by omega, fun d4 M4 d40 d41 hs4 fr4 => ?_⟩
          simp
          refine ⟨a, 2, n0 + 5 * fin + 1 + 1 + 1 + 1, rfl, hs4, by decide, by decide, by omega, fun d5 M5 d50 d51 hs5 fr5 => ?_⟩
          try simp
          refine ixI_mem d50 (by simpa using d51) fun y hy => ?_
          obtain ⟨c, rfl, c0, c1⟩ : ∃ c : Int, y = .int c ∧ 1 ≤ c ∧ c ≤ mn := by
            simp only [List.mem_cons, List.not_mem_nil, or_false] at hy
            rcases hy with rfl | rfl
            · exact ⟨mn, rfl, by omega, by omega⟩
            · exact ⟨1 + d4, rfl, by omega, by omega⟩
          try simp
          have e1 : logD ps ++ [.tup [.int (unit' + e), .int c]] = logD (ps ++ [(unit' + e, c)]) := by simp [logD, prD]
          have e2 : (fin : Int) + c = ((fin + c.toNat : Nat) : Int) := by omega
          have hpre : c ≤ (cntArr js (unit' + e - 1) fin : Int) - fin := by have := hmn.2.2; unfold pres at this; omega
          have hcn := cntArr_mono (js := js) (m := unit' + e - 1) (m' := unit' + e + 1 - 1) (f := fin) (f' := ((fin + c.toNat : Nat) : Int)) (by omega) (by omega)
          have hle2 : cntArr js (unit' + e - 1) fin ≤ js.length := cntArr_le
          have hmul : ((wide : Int) + 4) * ((fin + c.toNat : Nat) : Int) = (wide + 4) * fin + (wide + 4) * c := by rw [← e2, Int.mul_add]
          have hmul1 : ((wide : Int) + 4) * 1 ≤ (wide + 4) * c := Int.mul_le_mul_of_nonneg_left c0 hW
          rw [e1, e2]
          refine ⟨by omega, lp_log hok hjl hc1 hc2 hw hlate hjn hn k m (ps ++ [(unit' + e, c)]) (fin + c.toNat) (unit' + e + 1) _ _ _ M5 (by omega) (hr.snoc (fun p hp' => by have := (hp p hp').1; omega) (by omega) c0) ?_ (by simp; omega) (fun p hp' => ?_) (by omega) (by omega) (by omega) (store_mono hs5 (by omega)) fun b hb => by rw [fr5 b hb, fr4 b hb, fr3 b hb, fr2 b hb, fr1 b hb, hfr b hb]⟩
          · rw [← e2]
            exact hlt.snoc (by omega) (by omega)
          · rcases List.mem_append.mp hp' with h | h
            · have := hp p h; omega
            · simp at h
              subst h
              simp
              omega
        have hfm : ∀ (M : MH), True := fun _ => trivial
        simp [↓u_law_log_B4]
        refine ⟨by simp [NoOwn], lcD_pure (fun j => !aftA (arrD j) && decide (unit ≤ numA (arrD j))) (fun j => .int (numA (arrD j))) _ _ (fun y hy Y N z => ?_) (by simp; omega) ?_⟩
        · obtain ⟨s', k', m', d', rfl, hn', hk', _⟩ := job_parts (hok.job y hy)
          have ea : aftA (arrD (.tup [.str s', .tup [.str k', .int m'], .int d'])) = !decide (k' = "at") := rfl
          have en : numA (arrD (.tup [.str s', .tup [.str k', .int m'], .int d'])) = m' := rfl
          rw [ea, en] at z
          simp [hk', so_at]
          by_cases g1 : k' = Str.ofString "at"
          · by_cases g2 : unit ≤ m'
            · simp [g1, g2] at z ⊢
              exact z
            · simp [g1, g2] at z ⊢
              exact z
          · simp [g1] at z ⊢
            exact z
        generalize hms : (js.filter fun j => !aftA (arrD j) && decide (unit ≤ numA (arrD j))) = fs
        have hmem : ∀ j, j ∈ fs ↔ j ∈ js ∧ aftA (arrD j) = false ∧ unit ≤ numA (arrD j) := fun j => by rw [← hms, List.mem_filter]; simp
        simp [sp_law_present_eq]
        refine ⟨hok.job, by omega, ?_⟩
        by_cases g : pres js unit fin = 0
        · have e3 : (cntArr js (unit - 1) fin : Int) = fin := by unfold pres at g; omega
          obtain ⟨j, hj, ja, jn⟩ := more_come hok e3 (by omega)
          have hjf : j ∈ fs := (hmem j).mpr ⟨hj, ja, by omega⟩
          rw [if_pos g]
          refine minL_l (ns := fs.map fun j => numA (arrD j)) (by rw [List.map_map]; rfl) (by rw [List.length_map]; exact List.length_pos_of_mem hjf) fun m' hm' _ => ?_
          obtain ⟨j', hj', rfl⟩ := List.mem_map.mp hm'
          obtain ⟨q1, q2, q3⟩ := (hmem j').mp hj'
          have := cntArr_lt (js := js) (m := unit - 1) (m' := numA (arrD j') + 1 - 1) (f := fin) q1 q2 (by omega) (by omega)
          have := hjn j' q1
          have : (0 : Int) ≤ (wide + 4) * fin := Int.mul_nonneg hW (by omega)
          simp
          refine go (numA (arrD j') + 1) _ (by omega) (by omega) (by unfold pres; omega)
        · rw [if_neg g]
          exact go unit _ (Int.le_refl _) hu (by unfold pres at g ⊢; omega)
    · rw [if_neg hf]
      have e : fin = js.length := by omega
      subst e
      exact k ps unit o7 o8 o9 M hr hlt hpl hp hu (store_mono hs (by omega)) hfr
theorem rd_law_log : ∀ ds M Q E, sp_law_log cs ds M Q E → td_law_log cs (endsD Q E) (startD ["store", "jobs", "cores", "wide", "log", "finished", "unit", "moments", "many", "finishes", "name", "arrival", "door"] ds) M := by
  rintro ds M Q E ⟨a, n, js, cores, late, wide, rfl, hs, hn, hok, hjl, hc1, hc2, hw, hlate, hjn, k⟩
  have szl := sizeLine_eq
  show td_law_log cs (endsD Q E) [some (.d (.ref a)), some (.d (.tup js)), some (.d (.int cores)), some (.d (.int wide)), none, none, none, none, none, none, none, none, none] M
  simp [td_law_log, ↓u_law_log_L4]
  refine ⟨js.length + 1, lp_log (late := late) (n0 := n) (M0 := M) hok hjl hc1 hc2 hw hlate hjn (by omega) (fun ps unit o7 o8 o9 M' h1 h2 h3 h4 h5 h6 h7 => ?_) js.length [] 0 1 _ _ _ M (by omega) trivial rfl (by simp) (fun p hp => by cases hp) (by decide) (by omega) (by simp) hs (fun _ _ => rfl)⟩
  simp [↓u_law_log_R4]
  exact k ps M' h1 h2.run h3 (fun p hp => ⟨by have := (h4 p hp).1; omega, (h4 p hp).2⟩) h6 h7
theorem rd_law_is_int : ∀ ds M Q E, sp_law_is_int cs ds M Q E → td_law_is_int cs (endsD Q E) (startD ["value", "least"] ds) M := by
  rintro ds M Q E ⟨v, l, rfl, hn, k⟩
  show td_law_is_int cs (endsD Q E) [some (.d v), some (.d (.int l))] M
  cases v with
  | int i => simpa [td_law_is_int, isIntD] using k
  | ref a => simp [D.nr] at hn
  | lsk a => simp [D.nr] at hn
  | _ => simpa [td_law_is_int, isIntD] using k
end
end Lw

set_option Elab.async false
set_option linter.all false
set_option maxRecDepth 100000
set_option maxHeartbeats 4000000
namespace Lw
open PySem PySem.Spec PyProof.Rows L2 DL
section
variable {cs : Cs} {M : MH} {Q : Sl → MH → Prop} {E : Addr → List (Str × D) → MH → Prop}
theorem lp_lfault {E0 : DEnds} {o0 : Option Sl} : ∀ (ls : List D) (b : Int) (k : Nat) (o2 o3 : Option Sl), k + ls.length ≤ 1000 → (∀ l ∈ ls, Sm 4 l) → (flL ls b k = none → ∀ o1 o2 o3, E0.nx [o0, o1, o2, o3] M) → (∀ i : Nat, flL ls b k = some i → E0.rt (.d (.int i)) M) →
    forD (gTupD 2 (gConsD (gN 2) (gConsD (gN 3) gNilD))) (td_law_log_fault_B4 cs) E0 (enF k ls) [o0, some (.d (.int b)), o2, o3] M
  | [], b, k, o2, o3, hk, hw, h1, h2 => by simpa using h1 rfl _ o2 o3
  | x :: r, b, k, o2, o3, hk, hw, h1, h2 => by
    have hx := hw x (List.mem_cons_self ..)
    simp only [List.length_cons] at hk
    rw [flL_cons] at h1 h2
    have bad : isPairD b x = false → E0.rt (.d (.int k)) M := fun h => by
      rw [h, if_neg (by decide)] at h2
      exact h2 k rfl
    simp [↓u_law_log_fault_B4]
    cases x with
    | tup xs =>
      match xs with
      | [p, q] =>
        have hp : p.nr = true ∧ q.nr = true := by have := hx.1; simp [D.nr, D.nrs] at this; exact this
        have e : isPairD b (.tup [p, q]) = (isIntD p (b + 1) && isIntD q 1) := rfl
        cases h3 : isIntD p (b + 1) with
        | false =>
          rw [e, h3] at bad
          simpa [↓sp_is_integer_eq, hp.1, h3] using bad rfl
        | true =>
          cases h4 : isIntD q 1 with
          | false =>
            rw [e, h3, h4] at bad
            simpa [↓sp_is_integer_eq, hp.1, hp.2, h3, h4] using bad rfl
          | true =>
            rw [e, h3, h4, if_pos (show (true && true) = true from rfl)] at h1 h2
            obtain ⟨i, rfl, _⟩ := int_parts h3
            simpa [↓sp_is_integer_eq, hp.1, hp.2, h3, h4] using lp_lfault r i (k + 1) _ _ (by omega) (fun l hl => hw l (List.mem_cons_of_mem _ hl)) h1 h2
      | [] => simpa using bad rfl
      | [a] => simpa using bad rfl
      | a :: b' :: c :: s =>
        have : ¬ ((s.length : Int) + 1 + 1 + 1 = 2) := by omega
        simpa [this] using bad rfl
    | ref a => have := hx.1; simp [D.nr] at this
    | lsk a => have := hx.1; simp [D.nr] at this
    | _ => simpa using bad rfl
theorem rd_law_log_fault : ∀ ds M Q E, sp_law_log_fault cs ds M Q E → td_law_log_fault cs (endsD Q E) (startD ["log", "before", "place", "pair"] ds) M := by
  rintro ds M Q E ⟨v, rfl, ⟨hs, hl⟩, k⟩
  show td_law_log_fault cs (endsD Q E) [some (.d v), none, none, none] M
  cases v with
  | tup ls =>
    have hls := hl ls rfl
    rw [faultL_tup] at k
    simp [td_law_log_fault, ↓u_law_log_fault_L4, enD_enF]
    refine lp_lfault ls 0 0 _ _ (by omega) (fun l h => ?_) (fun h o1 o2 o3 => ?_) fun i h => ?_
    · have h1 := hs
      exact ⟨nrs_iff.mp (by have := h1.1; simpa [D.nr] using this) l h, by have := h1.2; simp only [D.dp] at this; have := dps_le.mp (Nat.le_refl (D.dps ls)) l h; omega⟩
    · rw [h] at k
      simpa [↓u_law_log_fault_R4] using k
    · rw [h] at k
      exact k
  | ref a => have := hs.1; simp [D.nr] at this
  | lsk a => have := hs.1; simp [D.nr] at this
  | _ => simpa [td_law_log_fault, faultL] using k
end
end Lw

set_option Elab.async false
set_option linter.all false
set_option maxRecDepth 100000
set_option maxHeartbeats 4000000
namespace Lw
open PySem PySem.Spec PyProof.Rows L2 DL
section
variable {cs : Cs} {M : MH} {Q : Sl → MH → Prop} {E : Addr → List (Str × D) → MH → Prop}
theorem certL_cons {js : List D} {cores f : Int} {p : Int × Int} {r : Prs} : certL js cores (p :: r) f = if min cores (pres js p.1 f) < p.2 then .tup [.str "crowded", .int p.1, .int (min cores (pres js p.1 f))] else certL js cores r (f + p.2) := rfl
theorem so_crowd : PyData.strOk (Str.ofString "crowded") = true ∧ PyData.strOk (Str.ofString "unfinished") = true := by decide +kernel
theorem certL_cases {js : List D} {cores : Int} : ∀ (ps : Prs) (f : Int), certL js cores ps f = .non ∨ ∃ xs, certL js cores ps f = .tup xs
  | [], f => by
    unfold certL
    split
    · exact .inr ⟨_, rfl⟩
    · exact .inl rfl
  | p :: r, f => by
    rw [certL_cons]
    split
    · exact .inr ⟨_, rfl⟩
    · exact certL_cases r _
theorem certL_ok {js : List D} {cores : Int} : ∀ (ps : Prs) (f : Int), D.Ok (certL js cores ps f)
  | [], f => by
    unfold certL
    split
    · exact ⟨by simp [D.nr, D.nrs]; exact so_crowd.2, by simp [D.dp, D.dps]⟩
    · exact ⟨by simp [D.nr], by simp [D.dp]⟩
  | p :: r, f => by
    rw [certL_cons]
    split
    · exact ⟨by simp [D.nr, D.nrs]; exact so_crowd.1, by simp [D.dp, D.dps]⟩
    · exact certL_ok r _
theorem min_if {a b : Int} : (if b < a then b else a) = min a b := by split <;> omega
theorem lp_cert {js : List D} {cores : Int} {Q : Sl → MH → Prop} {E : Addr → List (Str × D) → MH → Prop} {o1 : Option Sl} (hj : ∀ j ∈ js, isJobD j = true) (hl : js.length ≤ 1000) : ∀ (ps : Prs) (f : Int) (o4 o5 o6 : Option Sl), Q (.d (certL js cores ps f)) M →
    forD (gTupD 2 (gConsD (gN 4) (gConsD (gN 5) gNilD))) (td_law_certificate_B2 cs) { nx := fun δ' M' => td_law_certificate_R2 cs (endsD Q E) δ' M', rt := (endsD Q E).rt, bk := (endsD Q E).bk, ct := (endsD Q E).ct, ex := (endsD Q E).ex } (logD ps) [some (.d (.tup js)), o1, some (.d (.int cores)), some (.d (.int f)), o4, o5, o6] M
  | [], f, o4, o5, o6, k => by
    unfold certL at k
    by_cases h : f < js.length
    · rw [if_pos h] at k
      simpa [logD, ↓u_law_certificate_R2, h] using k
    · rw [if_neg h] at k
      simpa [logD, ↓u_law_certificate_R2, h] using k
  | (u, c) :: r, f, o4, o5, o6, k => by
    rw [certL_cons] at k
    show forD _ _ _ (.tup [.int u, .int c] :: logD r) _ _
    simp [↓u_law_certificate_B2, ↓sp_law_present_eq, hl]
    refine ⟨hj, ?_⟩
    rw [min_if]
    simp at k
    by_cases h : min cores (pres js u f) < c
    · rw [if_pos h] at k ⊢
      exact k
    · rw [if_neg h] at k ⊢
      exact lp_cert hj hl r (f + c) _ _ _ k
theorem rd_law_certificate : ∀ ds M Q E, sp_law_certificate cs ds M Q E → td_law_certificate cs (endsD Q E) (startD ["jobs", "log", "cores", "finished", "unit", "finishes", "many"] ds) M := by
  rintro ds M Q E ⟨js, ps, cores, rfl, hj, hl, k⟩
  show td_law_certificate cs (endsD Q E) [some (.d (.tup js)), some (.d (.tup (logD ps))), some (.d (.int cores)), none, none, none, none] M
  simp [td_law_certificate, ↓u_law_certificate_L2]
  exact lp_cert hj hl ps 0 _ _ _ k
theorem rd_law_kind : ∀ ds M Q E, sp_law_kind cs ds M Q E → td_law_kind cs (endsD Q E) (startD ["caught", "kinds", "at"] ds) M := rd_kind
theorem rd_comes_before : ∀ ds M Q E, sp_comes_before cs ds M Q E → td_comes_before cs (endsD Q E) (startD ["arrival", "finishes"] ds) M := by
  rintro ds M Q E ⟨s, m, n, rfl, hs, k⟩
  show td_comes_before cs (endsD Q E) [some (.d (.tup [.str s, .int m])), some (.d (.int n))] M
  rw [befA_eq] at k
  simp [td_comes_before, hs, so_at]
  by_cases h : s = "at"
  · rw [decide_eq_true h, Bool.true_or] at k
    rw [if_pos h]
    exact k
  · rw [decide_eq_false h, Bool.false_or] at k
    rw [if_neg h]
    exact k
theorem rd_is_integer : ∀ ds M Q E, sp_is_integer cs ds M Q E → td_is_integer cs (endsD Q E) (startD ["value", "least"] ds) M := by
  rintro ds M Q E ⟨v, l, rfl, hn, k⟩
  show td_is_integer cs (endsD Q E) [some (.d v), some (.d (.int l))] M
  cases v with
  | int i => simpa [td_is_integer, isIntD] using k
  | ref a => simp [D.nr] at hn
  | lsk a => simp [D.nr] at hn
  | _ => simpa [td_is_integer, isIntD] using k
theorem rd_is_arrival : ∀ ds M Q E, sp_is_arrival cs ds M Q E → td_is_arrival cs (endsD Q E) (startD ["value"] ds) M := by
  rintro ds M Q E ⟨v, rfl, hv, k⟩
  show td_is_arrival cs (endsD Q E) [some (.d v)] M
  cases v with
  | tup xs =>
    match xs with
    | [a, b] =>
      have hf := fit_tup.mp hv
      have hb := fit_nr b (hf b (by simp))
      cases a with
      | str s =>
        have hs := (fit_str.mp (hf (.str s) (by simp))).1
        simp [td_is_arrival, ↓sp_is_integer_eq, hb, so_at, so_after, hs]
        rw [isArrD_eq] at k
        by_cases h1 : s = "at"
        · rw [if_pos h1] at k ⊢
          exact k
        · rw [if_neg h1] at k ⊢
          by_cases h2 : s = "after"
          · rw [decide_eq_true h2, Bool.true_and] at k
            rw [if_pos h2]
            exact k
          · rw [decide_eq_false h2, Bool.false_and] at k
            rw [if_neg h2]
            exact k
      | ref a => have := hf (.ref a) (by simp); simp [D.fit] at this
      | lsk a => have := hf (.lsk a) (by simp); simp [D.fit] at this
      | _ => simpa [td_is_arrival, isArrD] using k
    | [] => simpa [td_is_arrival, isArrD] using k
    | [a] => simpa [td_is_arrival, isArrD] using k
    | a :: b :: c :: r =>
      have : ¬ ((r.length : Int) + 1 + 1 + 1 = 2) := by omega
      have e : isArrD (.tup (a :: b :: c :: r)) = false := by cases a <;> rfl
      rw [e] at k
      simpa [td_is_arrival, this] using k
  | ref a => simp [D.fit] at hv
  | lsk a => simp [D.fit] at hv
  | _ => simpa [td_is_arrival, isArrD] using k
theorem rd_is_name : ∀ ds M Q E, sp_is_name cs ds M Q E → td_is_name cs (endsD Q E) (startD ["value", "char"] ds) M := by
  rintro ds M Q E ⟨v, rfl, hv, k⟩
  show td_is_name cs (endsD Q E) [some (.d v), none] M
  cases v with
  | str s =>
    have hs := (fit_str.mp hv)
    have sl : s.length ≤ sizeLine := by rw [sizeLine_eq]; omega
    rw [isNameD_eq] at k
    by_cases h1 : 1 ≤ s.length ∧ s.length ≤ 8
    · rw [decide_eq_true h1, Bool.true_and] at k
      have h1' : (1 : Int) ≤ s.length := by omega
      have h2' : (s.length : Int) ≤ 8 := by omega
      simp [td_is_name, sl, h1', h2']
      refine ⟨by simp [NoOwn], lcD_pure (fun _ => true) (fun d => .bl (decide (chD d ∈ lets))) _ _ (fun x hx Y N q => ?_) (by rw [sgD_len]; simp; omega) ?_⟩
      · obtain ⟨c, hc, rfl⟩ := mem_sgD hx
        rw [lets_tx]
        simp [tx_cps]
        exact q
      · rw [List.nil_append, all_l (bs := s.cps.toList.map fun c => decide (c ∈ lets)) (by rw [List.filter_eq_self.mpr (fun _ _ => rfl), sgD, List.map_map, List.map_map]; rfl)]
        have e : (s.cps.toList.map fun c => decide (c ∈ lets)).all id = s.cps.toList.all fun c => decide (c ∈ lets) := by rw [List.all_map]; rfl
        rw [e]
        exact k
    · rw [decide_eq_false h1, Bool.false_and] at k
      by_cases h2 : (1 : Int) ≤ s.length
      · have h3 : ¬ (s.length : Int) ≤ 8 := by omega
        simpa [td_is_name, sl, h2, h3] using k
      · simpa [td_is_name, sl, h2] using k
  | ref a => simp [D.fit] at hv
  | lsk a => simp [D.fit] at hv
  | _ => simpa [td_is_name, isNameD] using k
theorem rd_is_job : ∀ ds M Q E, sp_is_job cs ds M Q E → td_is_job cs (endsD Q E) (startD ["value", "name", "arrival", "entry"] ds) M := by
  rintro ds M Q E ⟨v, rfl, hv, k⟩
  show td_is_job cs (endsD Q E) [some (.d v), none, none, none] M
  cases v with
  | tup xs =>
    match xs with
    | [a, b, e] =>
      have hf := fit_tup.mp hv
      have ha := hf a (by simp)
      have hb := hf b (by simp)
      have he := fit_nr e (hf e (by simp))
      have fin : isJobD (.tup [a, b, e]) = (isNameD a && isArrD b && isDoorD e) := rfl
      rw [fin] at k
      simp [td_is_job, ↓sp_is_name_eq, ↓sp_is_arrival_eq, ↓sp_is_integer_eq, ha, hb, he]
      cases h1 : isNameD a <;> cases h2 : isArrD b <;> simp only [h1, h2] at k <;> simp
      · exact k
      · exact k
      · exact k
      · cases e with
        | int i =>
          simp only [isIntD]
          simp [isDoorD] at k
          simp
          by_cases h3 : 0 ≤ i
          · simpa [h3] using k
          · simpa [h3] using k
        | _ => simpa [isIntD, isDoorD] using k
    | [] => simpa [td_is_job, isJobD] using k
    | [a] => simpa [td_is_job, isJobD] using k
    | [a, b] => simpa [td_is_job, isJobD] using k
    | a :: b :: c :: d :: r =>
      have : ¬ ((r.length : Int) + 1 + 1 + 1 + 1 = 3) := by omega
      simpa [td_is_job, isJobD, this] using k
  | ref a => simp [D.fit] at hv
  | lsk a => simp [D.fit] at hv
  | _ => simpa [td_is_job, isJobD] using k
theorem lp_check1 {all : List D} {E0 : DEnds} (hall : ∀ j ∈ all, j.fit = true) (hlen : all.length ≤ 1000) : ∀ (r pre : List D) (o2 o3 o4 o5 o6 : Option Sl), all = pre ++ r → (∀ j ∈ pre, isJobD j = true) →
    (f1 r (pre.map fstD) pre.length = none → ∀ L o2 o3 o4 o5 o6, (∀ ys, o3 ≠ some (.own ys)) → E0.nx [some (.d (.tup all)), some (.own L), o2, o3, o4, o5, o6, none] M) → (∀ i : Nat, f1 r (pre.map fstD) pre.length = some i → i ≤ 1000 → ∀ δ, E0.ex cs.c_NoJobs [("place", .int i)] δ M) → (∀ ys, o3 ≠ some (.own ys)) →
    forD (gTupD 2 (gConsD (gN 2) (gConsD (gN 3) gNilD))) (td_check_jobs_B4 cs) E0 (enF pre.length r) [some (.d (.tup all)), some (.own (pre.map fstD)), o2, o3, o4, o5, o6, none] M
  | [], pre, o2, o3, o4, o5, o6, e, hp, h1, h2, h3 => by simpa using h1 rfl _ o2 o3 o4 o5 o6 h3
  | x :: r, pre, o2, o3, o4, o5, o6, e, hp, h1, h2, h3 => by
    have hx1 := hall x (by rw [e]; simp)
    have hpl : pre.length ≤ 1000 := by rw [e] at hlen; simp at hlen; omega
    have hlog : Nat.log2 pre.length < 1920 := Nat.lt_of_le_of_lt (Nat.log2_le_self _) (by omega)
    simp [↓u_check_jobs_B4, ↓sp_is_job_eq, hx1]
    rw [f1_cons] at h1 h2
    cases hj : isJobD x with
    | false =>
      rw [hj, Bool.false_and, if_neg (by decide)] at h2
      simpa [hlog] using h2 _ rfl hpl _
    | true =>
      rw [hj, Bool.true_and] at h1 h2
      obtain ⟨s, xr, rfl, hfs, hso⟩ := fst_job hj
      have hflat : ∀ z ∈ pre.map fstD, flatD z = true := by
        intro z hz
        obtain ⟨y, hy, rfl⟩ := List.mem_map.mp hz
        obtain ⟨s', yr, rfl, hfs', _⟩ := fst_job (hp y hy)
        rfl
      rw [hfs] at h1 h2
      simp
      refine ⟨.inl fun z hz => hflat _ (List.mem_map.mpr ⟨z, hz, rfl⟩), ?_⟩
      rw [List.any_map] at h1 h2
      cases hs : pre.any ((fun z => D.eq z (.str s)) ∘ fstD) with
      | true =>
        rw [hs, Bool.not_true, if_neg (by decide)] at h2
        simpa [hlog] using h2 _ rfl hpl _
      | false =>
        rw [hs, Bool.not_false, if_pos rfl] at h1 h2
        have hp' : ∀ j ∈ pre ++ [D.tup (.str s :: xr)], isJobD j = true := fun j hj' => by
          rcases List.mem_append.mp hj' with h | h
          · exact hp j h
          · simp at h; subst h; exact hj
        have hm : (pre ++ [D.tup (.str s :: xr)]).map fstD = pre.map fstD ++ [.str s] := by simp [hfs]
        have hl : (pre ++ [D.tup (.str s :: xr)]).length = pre.length + 1 := by simp
        have := lp_check1 hall hlen r (pre ++ [D.tup (.str s :: xr)]) (some (.d (.int pre.length))) (some (.d (.tup (.str s :: xr)))) o4 o5 o6 (by rw [e]; simp) hp' (by rw [hm, hl]; exact h1) (by rw [hm, hl]; exact h2) (fun ys h => by cases h)
        rw [hl, hm] at this
        have hsl : pre.length < sizeLine := by rw [sizeLine_eq]; omega
        refine ⟨hsl, this⟩
theorem lp_check2 {all : List D} {E0 : DEnds} {o1 : Option Sl} (hall : ∀ j ∈ all, isJobD j = true) (hlen : all.length ≤ 1000) : ∀ (r : List D) (i : Nat) (o2 o3 o4 o5 o6 o7 : Option Sl), i + r.length ≤ 1000 → (∀ j ∈ r, isJobD j = true) → (∀ ys, o3 ≠ some (.own ys)) →
    (f2 r all i = none → ∀ o2 o3 o4 o5 o6 o7, E0.nx [some (.d (.tup all)), o1, o2, o3, o4, o5, o6, o7] M) → (∀ k : Nat, f2 r all i = some k → k ≤ 1000 → ∀ δ, E0.ex cs.c_NoJobs [("place", .int k)] δ M) →
    forD (gTupD 2 (gConsD (gN 2) (gConsD (gTupD 3 (gConsD (gN 4) (gConsD (gN 5) (gConsD (gN 6) gNilD)))) gNilD))) (td_check_jobs_B8 cs) E0 (enF i r) [some (.d (.tup all)), o1, o2, o3, o4, o5, o6, o7] M
  | [], i, o2, o3, o4, o5, o6, o7, hi, hr, h3, h1, h2 => by simpa using h1 rfl o2 o3 o4 o5 o6 o7
  | x :: r, i, o2, o3, o4, o5, o6, o7, hi, hr, h3, h1, h2 => by
    obtain ⟨s, k, m, d, rfl, hn, hk, hm, _⟩ := job_parts (hr x (List.mem_cons_self ..))
    simp only [List.length_cons] at hi
    have hlog : Nat.log2 i < 1920 := Nat.lt_of_le_of_lt (Nat.log2_le_self _) (by omega)
    have ha : aftA (.tup [.str k, .int m]) = !decide (k = "at") := rfl
    have harr : arrD (.tup [.str s, .tup [.str k, .int m], .int d]) = .tup [.str k, .int m] := rfl
    have hnm : numA (.tup [.str k, .int m]) = m := rfl
    rw [f2_cons, harr, hnm, ha] at h1 h2
    simp [↓u_check_jobs_B8, hk, so_after]
    have more : ∀ o7, (!decide (k = "at") && decide ((cntB all m : Int) < m)) = false → forD (gTupD 2 (gConsD (gN 2) (gConsD (gTupD 3 (gConsD (gN 4) (gConsD (gN 5) (gConsD (gN 6) gNilD)))) gNilD))) (td_check_jobs_B8 cs) E0 (enF (i + 1) r)
        [some (.d (.tup all)), o1, some (.d (.int i)), o3, some (.d (.str s)), some (.d (.tup [.str k, .int m])), some (.d (.int d)), o7] M := fun o7 e => by
      rw [e, if_neg (by decide)] at h1 h2
      exact lp_check2 hall hlen r (i + 1) _ _ _ _ _ _ (by omega) (fun j hj => hr j (List.mem_cons_of_mem _ hj)) h3 h1 h2
    rcases hm with ⟨rfl, _⟩ | ⟨rfl, _⟩
    · rw [if_neg (fun h => ne_aft h.symm)]
      exact more _ (by simp)
    · rw [if_pos rfl]
      refine ⟨by simpa [NoOwn] using h3, lcD_pure (fun j => befA (arrD j) m) (fun d => d) _ _ (fun y hy Y N q => ?_) (by simp; omega) ?_⟩
      · obtain ⟨s', k', m', d', rfl, hn', hk', _⟩ := job_parts (hall y hy)
        have q' : if befA (.tup [.str k', .int m']) m = true then Y (.tup [.str s', .tup [.str k', .int m'], .int d']) M else N M := q
        simp [↓spBefore_eq, hk']
        cases hb : befA (.tup [.str k', .int m']) m with
        | true => rw [hb, if_pos rfl] at q'; simpa using q'
        | false => rw [hb, if_neg (by decide)] at q'; simpa using q'
      · have hc := cnt_len (all := all) (n := m)
        generalize hL : (([] : List D) ++ (all.filter fun j => befA (arrD j) m).map fun d => d) = L at hc ⊢
        simp [hc]
        by_cases hlt : (cntB all m : Int) < m
        · rw [if_pos hlt]
          have := h2 i (by rw [if_pos (by simp [ne_aft, hlt])]) (by omega)
          simpa [hlog] using this _
        · rw [if_neg hlt]
          exact more _ (by simp [hlt])
theorem rd_check_jobs : ∀ ds M Q E, sp_check_jobs cs ds M Q E → td_check_jobs cs (endsD Q E) (startD ["jobs", "names", "place", "job", "name", "arrival", "entry", "earlier"] ds) M := by
  rintro ds M Q E ⟨v, rfl, ⟨hf, hw⟩, k1, k2⟩
  show td_check_jobs cs (endsD Q E) [some (.d v), none, none, none, none, none, none, none] M
  cases v with
  | tup js =>
    obtain ⟨hlen, hfl⟩ := hw js rfl
    have hfit := fit_tup.mp hf
    rw [faultJ_tup] at k1 k2
    simp [td_check_jobs, ↓u_check_jobs_L4, enD_enF]
    refine lp_check1 hfit hlen js [] _ _ _ _ _ rfl (fun j hj => by cases hj) (fun h L o2 o3 o4 o5 o6 h3 => ?_) (fun i h hi δ => ?_) (fun ys h => by cases h)
    · have h' : f1 js [] 0 = none := h
      rw [h'] at k1 k2
      have hj := f1_none _ _ _ h'
      simp [↓u_check_jobs_R4, ↓u_check_jobs_L8, enD_enF]
      refine lp_check2 hj hlen js 0 _ _ _ _ _ _ (by omega) hj h3 (fun h o2 o3 o4 o5 o6 o7 => ?_) fun i h hi δ => ?_
      · rw [h] at k1
        exact k1 rfl
      · rw [h] at k2
        exact k2 i rfl (by omega) (by omega)
    · have h' : f1 js [] 0 = some i := h
      rw [h'] at k2
      exact k2 i rfl (by omega) (by omega)
  | ref a => simp [D.fit] at hf
  | lsk a => simp [D.fit] at hf
  | _ => simpa [td_check_jobs] using k2 0 rfl (by decide) (by decide)
end
end Lw

set_option Elab.async false
set_option linter.all false
set_option maxRecDepth 100000
set_option maxHeartbeats 4000000
namespace Lw
open PySem PySem.Spec PyProof.Rows L2 DL
section
variable {cs : Cs} {M : MH} {Q : Sl → MH → Prop} {E : Addr → List (Str × D) → MH → Prop}
theorem lp_clog {E0 : DEnds} {o0 : Option Sl} : ∀ (ls : List D) (b : Int) (k : Nat) (o2 o3 : Option Sl), k + ls.length ≤ 1000 → (∀ l ∈ ls, Sm 4 l) → (flL ls b k = none → ∀ o1 o2 o3, E0.nx [o0, o1, o2, o3] M) → (∀ i : Nat, flL ls b k = some i → ∀ δ, E0.ex cs.c_NoLog [("place", .int i)] δ M) →
    forD (gTupD 2 (gConsD (gN 2) (gConsD (gN 3) gNilD))) (td_check_log_B4 cs) E0 (enF k ls) [o0, some (.d (.int b)), o2, o3] M
  | [], b, k, o2, o3, hk, hw, h1, h2 => by simpa using h1 rfl _ o2 o3
  | x :: r, b, k, o2, o3, hk, hw, h1, h2 => by
    have hx := hw x (List.mem_cons_self ..)
    simp only [List.length_cons] at hk
    have hl : (Nat.log2 k) < 1920 := Nat.lt_of_le_of_lt (Nat.log2_le_self k) (by omega)
    rw [flL_cons] at h1 h2
    have bad : isPairD b x = false → ∀ δ, E0.ex cs.c_NoLog [("place", .int k)] δ M := fun h => by
      rw [h, if_neg (by decide)] at h2
      exact h2 k rfl
    simp [↓u_check_log_B4]
    cases x with
    | tup xs =>
      match xs with
      | [p, q] =>
        have hp : p.nr = true ∧ q.nr = true := by have := hx.1; simp [D.nr, D.nrs] at this; exact this
        have e : isPairD b (.tup [p, q]) = (isIntD p (b + 1) && isIntD q 1) := rfl
        cases h3 : isIntD p (b + 1) with
        | false =>
          rw [e, h3] at bad
          simpa [↓sp_is_integer_eq, hp.1, h3, hl] using bad rfl _
        | true =>
          cases h4 : isIntD q 1 with
          | false =>
            rw [e, h3, h4] at bad
            simpa [↓sp_is_integer_eq, hp.1, hp.2, h3, h4, hl] using bad rfl _
          | true =>
            rw [e, h3, h4, if_pos (show (true && true) = true from rfl)] at h1 h2
            obtain ⟨i, rfl, _⟩ := int_parts h3
            simpa [↓sp_is_integer_eq, hp.1, hp.2, h3, h4, hl] using lp_clog r i (k + 1) _ _ (by omega) (fun l hl => hw l (List.mem_cons_of_mem _ hl)) h1 h2
      | [] => simpa [hl] using bad rfl _
      | [a] => simpa [hl] using bad rfl _
      | a :: b' :: c :: s =>
        have : ¬ ((s.length : Int) + 1 + 1 + 1 = 2) := by omega
        simpa [hl, this] using bad rfl _
    | ref a => have := hx.1; simp [D.nr] at this
    | lsk a => have := hx.1; simp [D.nr] at this
    | _ => simpa [hl] using bad rfl _
theorem rd_check_log : ∀ ds M Q E, sp_check_log cs ds M Q E → td_check_log cs (endsD Q E) (startD ["log", "before", "place", "pair"] ds) M := by
  rintro ds M Q E ⟨v, rfl, ⟨hs, hl⟩, k1, k2⟩
  show td_check_log cs (endsD Q E) [some (.d v), none, none, none] M
  cases v with
  | tup ls =>
    have hls := hl ls rfl
    rw [faultL_tup] at k1 k2
    simp [td_check_log, ↓u_check_log_L4, enD_enF]
    refine lp_clog ls 0 0 _ _ (by omega) (fun l h => ?_) (fun h o1 o2 o3 => ?_) fun i h δ => ?_
    · have h1 := hs
      exact ⟨nrs_iff.mp (by have := h1.1; simpa [D.nr] using this) l h, by have := h1.2; simp only [D.dp] at this; have := dps_le.mp (Nat.le_refl (D.dps ls)) l h; omega⟩
    · rw [h] at k1
      simpa using k1 rfl
    · rw [h] at k2
      have := flL_lt _ _ _ _ h
      exact k2 i rfl (by omega) (by omega)
  | ref a => have := hs.1; simp [D.nr] at this
  | lsk a => have := hs.1; simp [D.nr] at this
  | _ => simpa [td_check_log, show Nat.log2 0 < 1920 from by decide] using k2 0 rfl (by decide) (by decide)
theorem hasA_eq {k : Str} {x m f : Int} : hasA (.tup [.str k, .int x]) m f = decide (x ≤ if k = "at" then m else f) := by
  show decide (x ≤ if (!decide (k = "at")) = true then f else m) = _
  by_cases h : k = "at" <;> simp [h]
theorem rd_has_arrived : ∀ ds M Q E, sp_has_arrived cs ds M Q E → td_has_arrived cs (endsD Q E) (startD ["arrival", "moment", "finished", "limit"] ds) M := by
  rintro ds M Q E ⟨k, x, m, f, rfl, hk, q⟩
  show td_has_arrived cs (endsD Q E) [some (.d (.tup [.str k, .int x])), some (.d (.int m)), some (.d (.int f)), none] M
  rw [hasA_eq] at q
  simp [td_has_arrived, hk, so_at]
  by_cases h : k = "at"
  · rw [if_pos h] at q ⊢
    simpa using q
  · rw [if_neg h] at q ⊢
    simpa using q
theorem rd_count_arrived : ∀ ds M Q E, sp_count_arrived cs ds M Q E → td_count_arrived cs (endsD Q E) (startD ["jobs", "moment", "finished", "job"] ds) M := by
  rintro ds M Q E ⟨js, m, f, rfl, hj, hl, q⟩
  show td_count_arrived cs (endsD Q E) [some (.d (.tup js)), some (.d (.int m)), some (.d (.int f)), none] M
  simp [td_count_arrived]
  refine ⟨by simp [NoOwn], lcD_pure (fun j => hasA (arrD j) m f) (fun d => d) _ _ (fun y hy Y N z => ?_) (by simp; omega) ?_⟩
  · obtain ⟨s', k', m', d', rfl, hn', hk', _⟩ := job_parts (hj y hy)
    have z' : if hasA (.tup [.str k', .int m']) m f = true then Y (.tup [.str s', .tup [.str k', .int m'], .int d']) M else N M := z
    simp [↓sp_has_arrived_eq, hk']
    cases hb : hasA (.tup [.str k', .int m']) m f with
    | true => rw [hb, if_pos rfl] at z'; simpa using z'
    | false => rw [hb, if_neg (by decide)] at z'; simpa using z'
  · have e : (([] : List D) ++ (js.filter fun j => hasA (arrD j) m f).map fun d => d).length = cntArr js m f := by
      unfold cntArr
      rw [List.countP_eq_length_filter]
      simp
    rw [← e] at q
    simpa using q
theorem rd_present_in : ∀ ds M Q E, sp_present_in cs ds M Q E → td_present_in cs (endsD Q E) (startD ["jobs", "unit", "finished"] ds) M := by
  rintro ds M Q E ⟨js, u, f, rfl, hj, hl, q⟩
  show td_present_in cs (endsD Q E) [some (.d (.tup js)), some (.d (.int u)), some (.d (.int f))] M
  simp [td_present_in, ↓sp_count_arrived_eq, hj, hl]
  exact ⟨hj, q⟩
end
end Lw

set_option Elab.async false
set_option linter.all false
set_option maxRecDepth 100000
set_option maxHeartbeats 4000000
namespace Lw
open PySem PySem.Spec PyProof.Rows L2 DL
section
variable {cs : Cs} {M : MH} {Q : Sl → MH → Prop} {E : Addr → List (Str × D) → MH → Prop}
theorem lp_ff {js : List D} {cores : Int} {Q : Sl → MH → Prop} {E : Addr → List (Str × D) → MH → Prop} {o1 : Option Sl} (hj : ∀ j ∈ js, isJobD j = true) (hl : js.length ≤ 1000) : ∀ (ps : Prs) (f : Int) (o4 o5 o6 : Option Sl), Q (.d (certL js cores ps f)) M →
    forD (gTupD 2 (gConsD (gN 4) (gConsD (gN 5) gNilD))) (td_first_fault_B4 cs) { nx := fun δ' M' => td_first_fault_R4 cs (endsD Q E) δ' M', rt := (endsD Q E).rt, bk := (endsD Q E).bk, ct := (endsD Q E).ct, ex := (endsD Q E).ex } (logD ps) [some (.d (.tup js)), o1, some (.d (.int cores)), some (.d (.int f)), o4, o5, o6] M
  | [], f, o4, o5, o6, k => by
    unfold certL at k
    by_cases h : f < js.length
    · rw [if_pos h] at k
      simpa [logD, ↓u_first_fault_R4, h] using k
    · rw [if_neg h] at k
      simpa [logD, ↓u_first_fault_R4, h] using k
  | (u, c) :: r, f, o4, o5, o6, k => by
    rw [certL_cons] at k
    show forD _ _ _ (.tup [.int u, .int c] :: logD r) _ _
    simp [↓u_first_fault_B4, ↓sp_present_in_eq, hl]
    refine ⟨hj, ?_⟩
    rw [min_if]
    simp at k
    by_cases h : min cores (pres js u f) < c
    · rw [if_pos h] at k ⊢
      exact k
    · rw [if_neg h] at k ⊢
      refine ⟨f, rfl, ?_⟩
      simp
      exact lp_ff hj hl r (f + c) _ _ _ k
theorem rd_first_fault : ∀ ds M Q E, sp_first_fault cs ds M Q E → td_first_fault cs (endsD Q E) (startD ["jobs", "log", "processors", "finished", "unit", "finishes", "running"] ds) M := by
  rintro ds M Q E ⟨v, w, cores, rfl, hv, hw, k1, k2, k3⟩
  show td_first_fault cs (endsD Q E) [some (.d v), some (.d w), some (.d (.int cores)), none, none, none, none] M
  simp [td_first_fault, ↓sp_check_jobs_eq, ↓sp_check_log_eq, hv, hw]
  refine ⟨fun hJ => ⟨fun hL => ?_, fun k e h0 h1 => k2 hJ k e h0 h1⟩, k1⟩
  obtain ⟨js, rfl, hok⟩ := fault_tup hJ
  obtain ⟨ps, rfl, hr⟩ := faultL_non hL
  simp [↓u_first_fault_L4]
  exact lp_ff hok.job (hv.2 js rfl).1 ps 0 _ _ _ (k3 hJ hL js ps rfl hok rfl hr)
end
end Lw

set_option Elab.async false
set_option linter.all false
set_option maxRecDepth 100000
set_option maxHeartbeats 4000000
namespace Lw
open PySem PySem.Spec PyProof.Rows L2 DL
section
variable {cs : Cs} {M : MH} {Q : Sl → MH → Prop} {E : Addr → List (Str × D) → MH → Prop}
theorem jobs_non {js : List D} (h : JobsOk js) : faultJ (.tup js) = .non := by rw [faultJ_tup, h.nd, h.wt]
theorem ext_mu {M : MH} {a : Addr} {o : MO} (ha : M a = none) : ∀ b u, M b = some u → (mu M a o) b = some u := fun b u hb => by
  by_cases e : b = a
  · subst e; rw [ha] at hb; cases hb
  · rw [mu_ne e]; exact hb
theorem rd_law_right (T : Kx cs) : ∀ ds M Q E, sp_law_right cs ds M Q E → td_law_right cs (endsD Q E) (startD ["jobs", "log", "cores", "fault", "caught", "found", "e", "due"] ds) M := by
  rintro ds M Q E ⟨js, v, cores, rfl, hok, hl, hv, k⟩
  have hk := T.kd_NoLog
  have hx := T.xm_NoLog_SlotError
  show td_law_right cs (endsD Q E) [some (.d (.tup js)), some (.d v), some (.d (.int cores)), none, none, none, none, none] M
  have hw := valid_wf hok.job (by omega)
  have hF := jobs_non hok
  rcases faultL_cases v hv.2 with h | ⟨n, h, h0, h3⟩
  · obtain ⟨ps, rfl, hr⟩ := faultL_non h
    have calls : ∀ (c : Int) (M : MH) (Q : Sl → MH → Prop) (E : Addr → List (Str × D) → MH → Prop), Q (.d (certL js c ps 0)) M → sp_first_fault cs [.tup js, .tup (logD ps), .int c] M Q E := fun c M Q E q =>
      ⟨_, _, _, rfl, hw, hv, fun k e => (by rw [hF] at e; cases e), fun _ k e => (by rw [h] at e; cases e), fun _ _ js' ps' ej _ ep _ => by
        cases ej
        injection ep with ep
        obtain rfl := logD_inj ep
        exact q⟩
    simp [td_law_right, ↓sp_law_log_fault_eq, hv, h]
    refine calls _ _ _ _ ?_
    have okc := certL_ok (js := js) (cores := cores) ps 0
    have rest : sp_law_certificate cs [.tup js, .tup (logD ps), .int cores] M
        (fun r M' => fEq (certL js cores ps 0) r.fz M' fun b => tif b (tif (DL.isNon r.fz) (Q (.d (.bl true)) M') (fIsi Ty.tuple (certL js cores ps 0) M' fun b => Q (.d (.bl b)) M')) (Q (.d (.bl false)) M')) fun C fs M2 => E C fs M2 := by
      refine sp_law_certificate_of hok.job (by omega) ?_
      simp only [Sl.fz]
      rw [eq_of okc okc, DL.eq_self okc.1]
      have hk := k M fun _ _ h => h
      rcases certL_cases (js := js) (cores := cores) ps 0 with e | ⟨xs, e⟩
      · rw [e]
        simpa [DL.isNon] using hk
      · rw [e]
        simpa [DL.isNon] using hk
    simp [↓u_law_right_R4]
    by_cases hc : cores = 1
    · rw [if_pos hc]
      refine calls _ _ _ _ ?_
      subst hc
      show fNe (certL js 1 ps 0) (certL js 1 ps 0) M _
      rw [ne_of okc okc, DL.eq_self okc.1]
      simpa using rest
    · rw [if_neg hc]
      exact rest
  · simp [td_law_right, ↓sp_law_log_fault_eq, ↓sp_first_fault_eq, hv, h, hF, hw, hx]
    intro _ _ a ha
    have o1 : D.Ok (.tup [.str "log", .int n]) := ⟨by simp [D.nr, D.nrs]; decide +kernel, by simp [D.dp, D.dps]⟩
    simp [↓u_law_right_R4]
    refine ⟨a, cs.c_NoLog, [("place", .int n)], 3, .int n, rfl, mu_same, hk, fun h => (by cases h), fun f hf => (by cases hf; rfl), ?_⟩
    simp [kname]
    rw [eq_of o1 o1, DL.eq_self o1.1]
    exact k _ (ext_mu ha)
theorem rd_law_store : ∀ ds M Q E, sp_law_store cs ds M Q E → td_law_store cs (endsD Q E) (startD ["script", "mixed", "cell"] ds) M := rd_store
end
end Lw

set_option Elab.async false
set_option linter.all false
set_option maxRecDepth 100000
set_option maxHeartbeats 4000000
namespace Lw
open PySem PySem.Spec PyProof.Rows L2 DL
section
variable {cs : Cs} {M : MH} {Q : Sl → MH → Prop} {E : Addr → List (Str × D) → MH → Prop}
theorem cut_last {ps : Prs} : DL.cutD (logD ps) none (some (-1)) = logD ps.dropLast := by
  have hl := logD_len (ps := ps)
  show (List.drop 0 (logD ps)).take (HT.sIx (logD ps).length (logD ps).length (some (-1)) - 0) = _
  have e : HT.sIx (logD ps).length (logD ps).length (some (-1)) = ps.length - 1 := by
    show (if (-1 : Int) < 0 then ((-1 : Int) + ((logD ps).length : Int)).toNat else min (-1 : Int).toNat (logD ps).length) = _
    rw [if_pos (by decide), hl]
    omega
  rw [e, List.drop_zero, Nat.sub_zero, List.dropLast_eq_take]
  unfold logD
  rw [List.map_take]
theorem law_B6 {a : Addr} {js : List D} {ps : Prs} {E0 : DEnds} {o0 o2 o4 o7 o8 : Option Sl} {n : Nat} {x : Int} (hok : JobsOk js) (hl : js.length ≤ 60) (hps : ps.length ≤ 60) (hs : StoreAt M a n)
    (k : ∀ M', StoreAt M' a n → E0.nx [o0, some (.d (.ref a)), o2, some (.d (.tup js)), o4, some (.d (.tup (logD ps))), some (.d (.int x)), o7, o8] M') :
    td_law_B6 cs E0 [o0, some (.d (.ref a)), o2, some (.d (.tup js)), o4, some (.d (.tup (logD ps))), some (.d (.int x)), o7, o8] M := by
  simp [↓u_law_B6]
  refine sp_law_right_of hok hl (wfl_log (by omega)) fun M1 e1 => ?_
  simp
  rw [cut_last]
  refine sp_law_right_of hok hl (wfl_log (by simp; omega)) fun M2 e2 => ?_
  simp
  exact k M2 (store_ext (store_ext hs e1) e2)
theorem law_L9 {a : Addr} {js : List D} {ps : Prs} {n0 : Nat} {E0 : DEnds} {o0 o2 o6 : Option Sl} {cores : Int} (hok : JobsOk js) (hl : js.length ≤ 60) (hps : ps.length ≤ 60) (hb : ∀ p ∈ ps, p.1 ≤ 5000 ∧ p.2 ≤ 5000) (hn : n0 < 2 ^ 49) : ∀ (xs : List D) (o7 o8 : Option Sl) (M : MH) (d : Nat), StoreAt M a (n0 + d) → d + 100 * xs.length ≤ 1000 →
    (∀ o7 o8 M', StoreAt M' a (n0 + 1000) → E0.nx [o0, some (.d (.ref a)), o2, some (.d (.tup js)), some (.d (.int cores)), some (.d (.tup (logD ps))), o6, o7, o8] M') →
    forD (gN 7) (td_law_B9 cs) E0 xs [o0, some (.d (.ref a)), o2, some (.d (.tup js)), some (.d (.int cores)), some (.d (.tup (logD ps))), o6, o7, o8] M
  | [], o7, o8, M, d, hs, hd, k => by simpa using k o7 o8 M (store_mono hs (by omega))
  | x :: r, o7, o8, M, d, hs, hd, k => by
    simp only [List.length_cons] at hd
    simp [↓u_law_B9]
    refine ⟨a, n0 + d, ps, 5000, rfl, hs, by omega, by omega, by decide, hb, fun v M1 hv hvl hs1 fr1 => ?_⟩
    simp
    refine sp_law_right_of hok hl hv.wf fun M2 e2 => ?_
    simp [sp_law_log_fault_eq, hv.wf]
    have hs2 := store_ext hs1 e2
    rcases faultL_cases v hv.wf.2 with h | ⟨n, h, h0, h3⟩
    · obtain ⟨qs, rfl, hq⟩ := faultL_non h
      have hql := hvl _ rfl
      rw [logD_len] at hql
      rw [h]
      simp
      refine ⟨a, n0 + d + 10, qs, 5001, rfl, hs2, by omega, by omega, by decide, hv.bound, fun w M3 hw' hwl hs3 fr3 => ?_⟩
      simp
      refine sp_law_right_of hok hl hw'.wf fun M4 e4 => ?_
      simp
      exact law_L9 hok hl hps hb hn r _ _ M4 (d + 20) (store_ext hs3 e4) (by omega) k
    · rw [h]
      simp
      exact law_L9 hok hl hps hb hn r _ _ M2 (d + 10) hs2 (by omega) k
theorem rd_law : ∀ ds M Q E, sp_law cs ds M Q E → td_law cs (endsD Q E) (startD ["script", "store", "turn", "jobs", "cores", "log", "some", "k", "bad"] ds) M := by
  rintro ds M Q E ⟨ns, rfl, hx, k⟩
  have szl := sizeLine_eq
  show td_law cs (endsD Q E) [some (.d (.lsk (ns.map D.int))), none, none, none, none, none, none, none, none] M
  simp [td_law]
  refine ⟨ns, rfl, hx, fun zs m => ?_⟩
  simp
  intro a ha
  simp [↓u_law_L2]
  refine forD_ind (fun xs δ M' => ∃ (t i n : Nat) (o2 o3 o4 o5 o6 o7 o8 : Option Sl), xs = rgD t i ∧ t + i = 3 ∧ δ = [some (.d (.lsk (ns.map D.int))), some (.d (.ref a)), o2, o3, o4, o5, o6, o7, o8] ∧ StoreAt M' a n ∧ n + 20000 * i ≤ 100000) ?_ ?_ _ _ _
    ⟨0, 3, 0, none, none, none, none, none, none, none, rfl, rfl, rfl, ⟨zs, 0, 0, m, 0, mu_same, by decide, by decide, by decide, by decide⟩, by decide⟩
  · rintro δ M' ⟨t, i, n, o2, o3, o4, o5, o6, o7, o8, _, _, rfl, hs, _⟩
    have hok0 : JobsOk [] := ⟨fun j h => (by cases h), rfl, rfl⟩
    have hok1 : JobsOk [.tup [.str "a", .tup [.str "at", .int 0], .int 0], .tup [.str "b", .tup [.str "at", .int 5], .int 0]] := ⟨by decide +kernel, by decide +kernel, by decide +kernel⟩
    have calls : ∀ (js : List D) (ps : Prs) (c : Int) (M : MH) (Q : Sl → MH → Prop) (E : Addr → List (Str × D) → MH → Prop), JobsOk js → js.length ≤ 60 → ps.length ≤ 60 → Rise 0 ps → Q (.d (certL js c ps 0)) M → sp_first_fault cs [.tup js, .tup (logD ps), .int c] M Q E := fun js ps c M Q E hok hl hp hr q =>
      ⟨_, _, _, rfl, valid_wf hok.job (by omega), wfl_log (by omega), fun k e => (by rw [jobs_non hok] at e; cases e), fun _ k e => (by rw [faultL_rise hr] at e; cases e), fun _ _ js' ps' ej _ ep _ => by
        cases ej
        injection ep with ep
        obtain rfl := logD_inj ep
        exact q⟩
    simp [↓u_law_R2]
    refine calls _ [(2, 1), (5, 1)] _ _ _ _ hok1 (by decide) (by decide) ⟨by decide, by decide, by decide, by decide, trivial⟩ ?_
    have e1 : certL [.tup [.str "a", .tup [.str "at", .int 0], .int 0], .tup [.str "b", .tup [.str "at", .int 5], .int 0]] 1 [(2, 1), (5, 1)] 0 = .tup [.str "crowded", .int 5, .int 0] := by rfl
    have o1 : D.Ok (.tup [.str "crowded", .int 5, .int 0]) := ⟨by simp [D.nr, D.nrs]; exact so_crowd.1, by simp [D.dp, D.dps]⟩
    rw [e1]
    simp only [Sl.fz]
    rw [eq_of o1 o1, DL.eq_self o1.1]
    simp
    refine calls _ [] _ _ _ _ hok0 (by decide) (by decide) trivial ?_
    have e2 : certL [] 1 [] 0 = .non := rfl
    rw [e2]
    simpa [DL.isNon] using k M'
  · rintro x r δ M' ⟨t, i, n, o2, o3, o4, o5, o6, o7, o8, hr, ht, rfl, hs, hb⟩ ih
    cases i with
    | zero => cases hr
    | succ i =>
      rw [rgD_succ] at hr
      cases hr
      simp [↓u_law_B2]
      refine ixI_mem (by omega) (by simp; omega) fun v hv => ?_
      obtain ⟨c, rfl, hc⟩ : ∃ c : Nat, v = .int c ∧ c ≤ 12 := by
        simp at hv
        rcases hv with rfl | rfl | rfl
        · exact ⟨6, rfl, by decide⟩
        · exact ⟨12, rfl, by decide⟩
        · exact ⟨3, rfl, by decide⟩
      try simp
      refine ⟨a, n, c, 60, rfl, hs, by omega, by omega, by decide, fun js M1 hok hlen hj0 hs1 fr1 => ?_⟩
      simp
      refine ⟨a, 8, n + 6000, rfl, hs1, by decide, by decide, by omega, fun q M2 hq0 hq1 hs2 fr2 => ?_⟩
      simp
      refine ⟨a, n + 6000 + 1, js, (1 + q).toNat, 100, 12, by simp; omega, hs2, by omega, hok, by omega, by omega, by omega, by decide, by decide, fun j hj => by have := hj0 j hj; omega, fun ps M3 hr hrun hpl hpb hs3 fr3 => ?_⟩
      have hb5 : ∀ p ∈ ps, p.1 ≤ 5000 ∧ p.2 ≤ 5000 := fun p hp => by
        have := hpb p hp
        have : (js.length : Int) ≤ 12 := by omega
        omega
      simp [↓u_law_L6]
      refine law_B6 hok (by omega) (by omega) hs3 fun M4 hs4 => ?_
      simp
      refine law_B6 hok (by omega) (by omega) hs4 fun M5 hs5 => ?_
      simp
      refine law_B6 hok (by omega) (by omega) hs5 fun M6 hs6 => ?_
      simp [↓u_law_R6, ↓u_law_L9]
      refine law_L9 (n0 := n + 6000 + 1 + 200) hok (by omega) (by omega) hb5 (by omega) _ _ _ M6 0 hs6 (by rw [rgD_len]; decide) fun o7 o8 M7 hs7 => ?_
      exact ih _ M7 ⟨t + 1, i, n + 6000 + 1 + 200 + 1000, _, _, _, _, _, _, _, by rw [show ((t + 1 : Nat) : Int) = (t : Int) + 1 from rfl], by omega, rfl, hs7, by omega⟩
end
end Lw

set_option Elab.async false
set_option linter.all false
set_option maxRecDepth 100000
set_option maxHeartbeats 4000000
namespace Lw
open PySem PySem.Spec PyProof.Rows L2 DL
abbrev si_NoJobs : Stmt := inClass (top 2) 0
theorem sci_NoJobs : FnScope ["self", "place"] ["self", "place"] (defScope si_NoJobs) := ⟨rfl, rfl, rfl, by decide +kernel, rfl, by decide +kernel, by decide +kernel⟩
theorem xi_NoJobs {P : Program} {w : World} {K : PySem.W.Frag} {mg : Str → Option Value} {base : Heap} {B C fI : Addr} {fd : FuncData} (F : Fun K "__init__" "NoJobs.__init__" si_NoJobs fI fd) (mS : mg "SlotError" = some (.ref B)) (S : SeC K B) (hs : mg "str" = none) (T : OexC K C)
    (hno : PySem.W.findIn K (.ref C) "place" = some none) : FnOk P w K mg base CX0 1 fI fd ["self", "place"] (spXI K C "place" PvI) := by
  refine F.ok sci_NoJobs (fun vs H Q E h => by obtain ⟨_, _, h, _⟩ := h; rw [h]; rfl) (fun cdv A outer s H vs Q E hr h => ⟨_, pss_cons (ps_expr (pe_seinit (by rfl) mS S (pa_cons (pv 0) (pa_cons (pe_op op_add_str pe_str (pe_callTy call_str_int (by rfl) hs (by decide +kernel) (pa_cons (pv 1) pa_nil))) pa_nil)))) (pss_one (ps_ost (pv 0) (pv 1))), ?_⟩)
  obtain ⟨a, y, rfl, ha, ⟨i, rfl, hi⟩, k⟩ := h
  have e1 : (Str.ofString (toString i)).length ≤ 1921 := by rw [PySem.ofString_length]; exact int_text_length_le (k := 1920) (by decide) hi
  have e2 : (Str.ofString "invalid job at index ").length ≤ 100 := by decide +kernel
  refine ⟨_, rfl, _, rfl, i, rfl, hi, _, _, rfl, rfl, ?_, a, C, _, rfl, (by show 1 ≤ 1000; decide), T, ha, _, rfl, _, rfl, a, C, rfl, T, hno, .inl ⟨ha, fun dx h1 h2 => k dx h1 h2⟩⟩
  rw [sizeLine_eq]
  have := Nat.add_le_add e2 e1
  exact Nat.le_trans this (by decide)
abbrev si_NoLog : Stmt := inClass (top 5) 0
theorem sci_NoLog : FnScope ["self", "place"] ["self", "place"] (defScope si_NoLog) := ⟨rfl, rfl, rfl, by decide +kernel, rfl, by decide +kernel, by decide +kernel⟩
theorem xi_NoLog {P : Program} {w : World} {K : PySem.W.Frag} {mg : Str → Option Value} {base : Heap} {B C fI : Addr} {fd : FuncData} (F : Fun K "__init__" "NoLog.__init__" si_NoLog fI fd) (mS : mg "SlotError" = some (.ref B)) (S : SeC K B) (hs : mg "str" = none) (T : OexC K C)
    (hno : PySem.W.findIn K (.ref C) "place" = some none) : FnOk P w K mg base CX0 1 fI fd ["self", "place"] (spXI K C "place" PvI) := by
  refine F.ok sci_NoLog (fun vs H Q E h => by obtain ⟨_, _, h, _⟩ := h; rw [h]; rfl) (fun cdv A outer s H vs Q E hr h => ⟨_, pss_cons (ps_expr (pe_seinit (by rfl) mS S (pa_cons (pv 0) (pa_cons (pe_op op_add_str pe_str (pe_callTy call_str_int (by rfl) hs (by decide +kernel) (pa_cons (pv 1) pa_nil))) pa_nil)))) (pss_one (ps_ost (pv 0) (pv 1))), ?_⟩)
  obtain ⟨a, y, rfl, ha, ⟨i, rfl, hi⟩, k⟩ := h
  have e1 : (Str.ofString (toString i)).length ≤ 1921 := by rw [PySem.ofString_length]; exact int_text_length_le (k := 1920) (by decide) hi
  have e2 : (Str.ofString "invalid log at index ").length ≤ 100 := by decide +kernel
  refine ⟨_, rfl, _, rfl, i, rfl, hi, _, _, rfl, rfl, ?_, a, C, _, rfl, (by show 1 ≤ 1000; decide), T, ha, _, rfl, _, rfl, a, C, rfl, T, hno, .inl ⟨ha, fun dx h1 h2 => k dx h1 h2⟩⟩
  rw [sizeLine_eq]
  have := Nat.add_le_add e2 e1
  exact Nat.le_trans this (by decide)
end Lw

set_option Elab.async false
set_option linter.all false
set_option maxRecDepth 100000
set_option maxHeartbeats 4000000
namespace Lw
open PySem PySem.Spec PyProof.Rows L2 DL
theorem all_mk {l : PySem.W.OpenLaw} {w : World} {K : PySem.W.Frag} {h : Heap} {mg : Str → Option Value} {fa aNoJobs aNoLengths aNoLine aNoLog aNoMarks aNoName aNoNamed aNoNumber aNoOrder aNoRule aNoText aNoUndo aSlotError : Addr} (X : K.In h) (G : h.Ns mainGlobals mg) (hfa : mg "law" = some (.ref fa))
    {nmNoJobs qNoJobs : Str} {NNoJobs : Addr} {bsNoJobs : List Value} {snNoJobs : List Str} {subNoJobs : List Value} {abNoJobs : Bool} {colNoJobs : Option Bool} {ddNoJobs : Option Addr} {m0NoJobs m1NoJobs m2NoJobs m3NoJobs m5NoJobs : Option Value} {fNoJobs : Addr} {odNoJobs anNoJobs : Option Addr} {slNoJobs : Array (Option Value)} {ocNoJobs kVNoJobs dcNoJobs pmNoJobs cdNoJobs ctNoJobs : Value}
    {nmNoLog qNoLog : Str} {NNoLog : Addr} {bsNoLog : List Value} {snNoLog : List Str} {subNoLog : List Value} {abNoLog : Bool} {colNoLog : Option Bool} {ddNoLog : Option Addr} {m0NoLog m1NoLog m2NoLog m3NoLog m5NoLog : Option Value} {fNoLog : Addr} {odNoLog anNoLog : Option Addr} {slNoLog : Array (Option Value)} {ocNoLog kVNoLog dcNoLog pmNoLog cdNoLog ctNoLog : Value}
    {odlaw_mix anlaw_mix : Option Addr} {sllaw_mix : Array (Option Value)} {oclaw_mix kVlaw_mix dclaw_mix pmlaw_mix cdlaw_mix ctlaw_mix : Value} {flaw_mix : Addr}
    {odlaw_pick anlaw_pick : Option Addr} {sllaw_pick : Array (Option Value)} {oclaw_pick kVlaw_pick dclaw_pick pmlaw_pick cdlaw_pick ctlaw_pick : Value} {flaw_pick : Addr}
    {odlaw_bad_log anlaw_bad_log : Option Addr} {sllaw_bad_log : Array (Option Value)} {oclaw_bad_log kVlaw_bad_log dclaw_bad_log pmlaw_bad_log cdlaw_bad_log ctlaw_bad_log : Value} {flaw_bad_log : Addr}
    {odlaw_before anlaw_before : Option Addr} {sllaw_before : Array (Option Value)} {oclaw_before kVlaw_before dclaw_before pmlaw_before cdlaw_before ctlaw_before : Value} {flaw_before : Addr}
    {odlaw_names anlaw_names : Option Addr} {sllaw_names : Array (Option Value)} {oclaw_names kVlaw_names dclaw_names pmlaw_names cdlaw_names ctlaw_names : Value} {flaw_names : Addr}
    {odlaw_jobs anlaw_jobs : Option Addr} {sllaw_jobs : Array (Option Value)} {oclaw_jobs kVlaw_jobs dclaw_jobs pmlaw_jobs cdlaw_jobs ctlaw_jobs : Value} {flaw_jobs : Addr}
    {odlaw_present anlaw_present : Option Addr} {sllaw_present : Array (Option Value)} {oclaw_present kVlaw_present dclaw_present pmlaw_present cdlaw_present ctlaw_present : Value} {flaw_present : Addr}
    {odlaw_log anlaw_log : Option Addr} {sllaw_log : Array (Option Value)} {oclaw_log kVlaw_log dclaw_log pmlaw_log cdlaw_log ctlaw_log : Value} {flaw_log : Addr}
    {odlaw_is_int anlaw_is_int : Option Addr} {sllaw_is_int : Array (Option Value)} {oclaw_is_int kVlaw_is_int dclaw_is_int pmlaw_is_int cdlaw_is_int ctlaw_is_int : Value} {flaw_is_int : Addr}
    {odlaw_log_fault anlaw_log_fault : Option Addr} {sllaw_log_fault : Array (Option Value)} {oclaw_log_fault kVlaw_log_fault dclaw_log_fault pmlaw_log_fault cdlaw_log_fault ctlaw_log_fault : Value} {flaw_log_fault : Addr}
    {odlaw_certificate anlaw_certificate : Option Addr} {sllaw_certificate : Array (Option Value)} {oclaw_certificate kVlaw_certificate dclaw_certificate pmlaw_certificate cdlaw_certificate ctlaw_certificate : Value} {flaw_certificate : Addr}
    {odlaw_kind anlaw_kind : Option Addr} {sllaw_kind : Array (Option Value)} {oclaw_kind kVlaw_kind dclaw_kind pmlaw_kind cdlaw_kind ctlaw_kind : Value} {flaw_kind : Addr}
    {odcomes_before ancomes_before : Option Addr} {slcomes_before : Array (Option Value)} {occomes_before kVcomes_before dccomes_before pmcomes_before cdcomes_before ctcomes_before : Value} {fcomes_before : Addr}
    {odis_integer anis_integer : Option Addr} {slis_integer : Array (Option Value)} {ocis_integer kVis_integer dcis_integer pmis_integer cdis_integer ctis_integer : Value} {fis_integer : Addr}
    {odis_arrival anis_arrival : Option Addr} {slis_arrival : Array (Option Value)} {ocis_arrival kVis_arrival dcis_arrival pmis_arrival cdis_arrival ctis_arrival : Value} {fis_arrival : Addr}
    {odis_name anis_name : Option Addr} {slis_name : Array (Option Value)} {ocis_name kVis_name dcis_name pmis_name cdis_name ctis_name : Value} {fis_name : Addr}
    {odis_job anis_job : Option Addr} {slis_job : Array (Option Value)} {ocis_job kVis_job dcis_job pmis_job cdis_job ctis_job : Value} {fis_job : Addr}
    {odcheck_jobs ancheck_jobs : Option Addr} {slcheck_jobs : Array (Option Value)} {occheck_jobs kVcheck_jobs dccheck_jobs pmcheck_jobs cdcheck_jobs ctcheck_jobs : Value} {fcheck_jobs : Addr}
    {odcheck_log ancheck_log : Option Addr} {slcheck_log : Array (Option Value)} {occheck_log kVcheck_log dccheck_log pmcheck_log cdcheck_log ctcheck_log : Value} {fcheck_log : Addr}
    {odhas_arrived anhas_arrived : Option Addr} {slhas_arrived : Array (Option Value)} {ochas_arrived kVhas_arrived dchas_arrived pmhas_arrived cdhas_arrived cthas_arrived : Value} {fhas_arrived : Addr}
    {odcount_arrived ancount_arrived : Option Addr} {slcount_arrived : Array (Option Value)} {occount_arrived kVcount_arrived dccount_arrived pmcount_arrived cdcount_arrived ctcount_arrived : Value} {fcount_arrived : Addr}
    {odpresent_in anpresent_in : Option Addr} {slpresent_in : Array (Option Value)} {ocpresent_in kVpresent_in dcpresent_in pmpresent_in cdpresent_in ctpresent_in : Value} {fpresent_in : Addr}
    {odfirst_fault anfirst_fault : Option Addr} {slfirst_fault : Array (Option Value)} {ocfirst_fault dcfirst_fault pmfirst_fault cdfirst_fault ctfirst_fault : Value} {ffirst_fault : Addr}
    {kdfirst_fault : Addr}
    {odlaw_right anlaw_right : Option Addr} {sllaw_right : Array (Option Value)} {oclaw_right kVlaw_right dclaw_right pmlaw_right cdlaw_right ctlaw_right : Value} {flaw_right : Addr}
    {odlaw_store anlaw_store : Option Addr} {sllaw_store : Array (Option Value)} {oclaw_store kVlaw_store dclaw_store pmlaw_store cdlaw_store ctlaw_store : Value} {flaw_store : Addr}
    {odlaw anlaw : Option Addr} {sllaw : Array (Option Value)} {oclaw kVlaw dclaw pmlaw cdlaw ctlaw : Value} {flaw : Addr}
    {tqfirst_fault_processors : Tok}
    {tgLETTERS : Tok}
    {tgLONGEST_NAME : Tok}
    {tgMOST_ENTRY : Tok}
    (nNoJobs : PySem.W.nsIn K mainGlobals "NoJobs" = some (some (.ref aNoJobs)))
    (iNoJobs : PySem.W.isClsIn K aNoJobs = true)
    (tNoJobs : PySem.W.typeIn K (.ref aNoJobs) = some (.type "type"))
    (nNoLengths : PySem.W.nsIn K mainGlobals "NoLengths" = some (some (.ref aNoLengths)))
    (iNoLengths : PySem.W.isClsIn K aNoLengths = true)
    (tNoLengths : PySem.W.typeIn K (.ref aNoLengths) = some (.type "type"))
    (nNoLine : PySem.W.nsIn K mainGlobals "NoLine" = some (some (.ref aNoLine)))
    (iNoLine : PySem.W.isClsIn K aNoLine = true)
    (tNoLine : PySem.W.typeIn K (.ref aNoLine) = some (.type "type"))
    (nNoLog : PySem.W.nsIn K mainGlobals "NoLog" = some (some (.ref aNoLog)))
    (iNoLog : PySem.W.isClsIn K aNoLog = true)
    (tNoLog : PySem.W.typeIn K (.ref aNoLog) = some (.type "type"))
    (nNoMarks : PySem.W.nsIn K mainGlobals "NoMarks" = some (some (.ref aNoMarks)))
    (iNoMarks : PySem.W.isClsIn K aNoMarks = true)
    (tNoMarks : PySem.W.typeIn K (.ref aNoMarks) = some (.type "type"))
    (nNoName : PySem.W.nsIn K mainGlobals "NoName" = some (some (.ref aNoName)))
    (iNoName : PySem.W.isClsIn K aNoName = true)
    (tNoName : PySem.W.typeIn K (.ref aNoName) = some (.type "type"))
    (nNoNamed : PySem.W.nsIn K mainGlobals "NoNamed" = some (some (.ref aNoNamed)))
    (iNoNamed : PySem.W.isClsIn K aNoNamed = true)
    (tNoNamed : PySem.W.typeIn K (.ref aNoNamed) = some (.type "type"))
    (nNoNumber : PySem.W.nsIn K mainGlobals "NoNumber" = some (some (.ref aNoNumber)))
    (iNoNumber : PySem.W.isClsIn K aNoNumber = true)
    (tNoNumber : PySem.W.typeIn K (.ref aNoNumber) = some (.type "type"))
    (nNoOrder : PySem.W.nsIn K mainGlobals "NoOrder" = some (some (.ref aNoOrder)))
    (iNoOrder : PySem.W.isClsIn K aNoOrder = true)
    (tNoOrder : PySem.W.typeIn K (.ref aNoOrder) = some (.type "type"))
    (nNoRule : PySem.W.nsIn K mainGlobals "NoRule" = some (some (.ref aNoRule)))
    (iNoRule : PySem.W.isClsIn K aNoRule = true)
    (tNoRule : PySem.W.typeIn K (.ref aNoRule) = some (.type "type"))
    (nNoText : PySem.W.nsIn K mainGlobals "NoText" = some (some (.ref aNoText)))
    (iNoText : PySem.W.isClsIn K aNoText = true)
    (tNoText : PySem.W.typeIn K (.ref aNoText) = some (.type "type"))
    (nNoUndo : PySem.W.nsIn K mainGlobals "NoUndo" = some (some (.ref aNoUndo)))
    (iNoUndo : PySem.W.isClsIn K aNoUndo = true)
    (tNoUndo : PySem.W.typeIn K (.ref aNoUndo) = some (.type "type"))
    (nSlotError : PySem.W.nsIn K mainGlobals "SlotError" = some (some (.ref aSlotError)))
    (iSlotError : PySem.W.isClsIn K aSlotError = true)
    (tSlotError : PySem.W.typeIn K (.ref aSlotError) = some (.type "type"))
    (bSlotError : PySem.W.subIn K (.ref aSlotError) (.type "BaseException") = some true)
    (hSlotError : PySem.W.hasDictIn K aSlotError = true)
    (sr : PySem.W.readsIn K aSlotError (.type "type") = true)
    (sg : PySem.W.specialIn K (.ref aSlotError) "__getattribute__" = some (some (.builtin "type.__getattribute__")))
    (si : PySem.W.findCls K (.ref aSlotError) (.type "type") "__init__" = some (.val (.builtin "ValueError.__init__")))
    (x0NoJobs : K.lookup aNoJobs = some (excClassObj nmNoJobs qNoJobs aNoJobs NNoJobs bsNoJobs [.ref aSlotError, .type "ValueError", .type "Exception", .type "BaseException", .type "object"] true snNoJobs subNoJobs abNoJobs colNoJobs ddNoJobs m0NoJobs m1NoJobs m2NoJobs m3NoJobs m5NoJobs "ValueError.__new__"))
    (x1NoJobs : PySem.W.findIn K (.ref aNoJobs) "__setattr__" = some (some (.builtin "object.__setattr__")))
    (x2NoJobs : PySem.W.keepIn K (.ref aNoJobs) = true)
    (x3NoJobs : PySem.W.findIn K (.ref aNoJobs) "__init__" = some (some (.ref fNoJobs)))
    (x4NoJobs : PySem.W.typeIn K (.ref fNoJobs) = some (.type "function"))
    (x5NoJobs : PySem.W.findIn K (.ref aNoJobs) "place" = some none)
    (x6NoJobs : K.lookup fNoJobs = some ⟨ocNoJobs, odNoJobs, .func (PySem.W.fnOf "__init__" "NoJobs.__init__" (defArgs si_NoJobs) (defBody si_NoJobs) (defScope si_NoJobs) .none kVNoJobs dcNoJobs pmNoJobs anNoJobs cdNoJobs ctNoJobs), slNoJobs⟩)
    (x7NoJobs : PySem.W.codeIn K cdNoJobs "NoJobs.__init__" = true)
    (x8NoJobs : PySem.W.keepIn K (.ref fNoJobs) = true)
    (y0NoJobs : PySem.W.findIn K (.ref aNoJobs) "__getattribute__" = some (some (.builtin "BaseException.__getattribute__")))
    (y1NoJobs : PySem.W.findIn K (.ref aNoJobs) "__getattr__" = some none)
    (y2NoJobs : PySem.W.subIn K (.ref aNoJobs) (.type "BaseException") = some true)
    (y3NoJobs : PySem.W.hasDictIn K aNoJobs = true)
    (y4NoJobs : PySem.W.findIn K (.ref aNoJobs) "__class__" = some (some (.builtin "object.__class__")))
    (y5NoJobs : PySem.W.specialIn K (.builtin "object.__class__") "__get__" = some (some (.builtin "getset_descriptor.__get__")))
    (y6NoJobs : PySem.W.takesIn K (.builtin "object.__class__") = some true)
    (y7NoJobs : PySem.W.mroIn K aNoJobs (.type "object") = some true)
    (y8NoJobs : PySem.W.subIn K (.ref aNoJobs) (.ref aNoJobs) = some true)
    (y9NoJobs : PySem.W.subIn K (.ref aNoJobs) (.type "ValueError") = some true)
    (zNoJobs : PySem.W.subIn K (.ref aNoJobs) (.ref aSlotError) = some true)
    (zNoJobsNoJobs : PySem.W.subIn K (.ref aNoJobs) (.ref aNoJobs) = some true)
    (zNoJobsNoRule : PySem.W.subIn K (.ref aNoJobs) (.ref aNoRule) = some false)
    (zNoJobsNoLengths : PySem.W.subIn K (.ref aNoJobs) (.ref aNoLengths) = some false)
    (zNoJobsNoLog : PySem.W.subIn K (.ref aNoJobs) (.ref aNoLog) = some false)
    (zNoJobsNoMarks : PySem.W.subIn K (.ref aNoJobs) (.ref aNoMarks) = some false)
    (zNoJobsNoNamed : PySem.W.subIn K (.ref aNoJobs) (.ref aNoNamed) = some false)
    (zNoJobsNoOrder : PySem.W.subIn K (.ref aNoJobs) (.ref aNoOrder) = some false)
    (zNoJobsNoText : PySem.W.subIn K (.ref aNoJobs) (.ref aNoText) = some false)
    (zNoJobsNoNumber : PySem.W.subIn K (.ref aNoJobs) (.ref aNoNumber) = some false)
    (zNoJobsNoName : PySem.W.subIn K (.ref aNoJobs) (.ref aNoName) = some false)
    (zNoJobsNoUndo : PySem.W.subIn K (.ref aNoJobs) (.ref aNoUndo) = some false)
    (zNoJobsNoLine : PySem.W.subIn K (.ref aNoJobs) (.ref aNoLine) = some false)
    (x0NoLog : K.lookup aNoLog = some (excClassObj nmNoLog qNoLog aNoLog NNoLog bsNoLog [.ref aSlotError, .type "ValueError", .type "Exception", .type "BaseException", .type "object"] true snNoLog subNoLog abNoLog colNoLog ddNoLog m0NoLog m1NoLog m2NoLog m3NoLog m5NoLog "ValueError.__new__"))
    (x1NoLog : PySem.W.findIn K (.ref aNoLog) "__setattr__" = some (some (.builtin "object.__setattr__")))
    (x2NoLog : PySem.W.keepIn K (.ref aNoLog) = true)
    (x3NoLog : PySem.W.findIn K (.ref aNoLog) "__init__" = some (some (.ref fNoLog)))
    (x4NoLog : PySem.W.typeIn K (.ref fNoLog) = some (.type "function"))
    (x5NoLog : PySem.W.findIn K (.ref aNoLog) "place" = some none)
    (x6NoLog : K.lookup fNoLog = some ⟨ocNoLog, odNoLog, .func (PySem.W.fnOf "__init__" "NoLog.__init__" (defArgs si_NoLog) (defBody si_NoLog) (defScope si_NoLog) .none kVNoLog dcNoLog pmNoLog anNoLog cdNoLog ctNoLog), slNoLog⟩)
    (x7NoLog : PySem.W.codeIn K cdNoLog "NoLog.__init__" = true)
    (x8NoLog : PySem.W.keepIn K (.ref fNoLog) = true)
    (y0NoLog : PySem.W.findIn K (.ref aNoLog) "__getattribute__" = some (some (.builtin "BaseException.__getattribute__")))
    (y1NoLog : PySem.W.findIn K (.ref aNoLog) "__getattr__" = some none)
    (y2NoLog : PySem.W.subIn K (.ref aNoLog) (.type "BaseException") = some true)
    (y3NoLog : PySem.W.hasDictIn K aNoLog = true)
    (y4NoLog : PySem.W.findIn K (.ref aNoLog) "__class__" = some (some (.builtin "object.__class__")))
    (y5NoLog : PySem.W.specialIn K (.builtin "object.__class__") "__get__" = some (some (.builtin "getset_descriptor.__get__")))
    (y6NoLog : PySem.W.takesIn K (.builtin "object.__class__") = some true)
    (y7NoLog : PySem.W.mroIn K aNoLog (.type "object") = some true)
    (y8NoLog : PySem.W.subIn K (.ref aNoLog) (.ref aNoLog) = some true)
    (y9NoLog : PySem.W.subIn K (.ref aNoLog) (.type "ValueError") = some true)
    (zNoLog : PySem.W.subIn K (.ref aNoLog) (.ref aSlotError) = some true)
    (zNoLogNoJobs : PySem.W.subIn K (.ref aNoLog) (.ref aNoJobs) = some false)
    (zNoLogNoRule : PySem.W.subIn K (.ref aNoLog) (.ref aNoRule) = some false)
    (zNoLogNoLengths : PySem.W.subIn K (.ref aNoLog) (.ref aNoLengths) = some false)
    (zNoLogNoLog : PySem.W.subIn K (.ref aNoLog) (.ref aNoLog) = some true)
    (zNoLogNoMarks : PySem.W.subIn K (.ref aNoLog) (.ref aNoMarks) = some false)
    (zNoLogNoNamed : PySem.W.subIn K (.ref aNoLog) (.ref aNoNamed) = some false)
    (zNoLogNoOrder : PySem.W.subIn K (.ref aNoLog) (.ref aNoOrder) = some false)
    (zNoLogNoText : PySem.W.subIn K (.ref aNoLog) (.ref aNoText) = some false)
    (zNoLogNoNumber : PySem.W.subIn K (.ref aNoLog) (.ref aNoNumber) = some false)
    (zNoLogNoName : PySem.W.subIn K (.ref aNoLog) (.ref aNoName) = some false)
    (zNoLogNoUndo : PySem.W.subIn K (.ref aNoLog) (.ref aNoUndo) = some false)
    (zNoLogNoLine : PySem.W.subIn K (.ref aNoLog) (.ref aNoLine) = some false)
    (alaw_mix : PySem.W.nsIn K mainGlobals "_law_mix" = some (some (.ref flaw_mix)))
    (llaw_mix : K.lookup flaw_mix = some ⟨oclaw_mix, odlaw_mix, .func (PySem.W.fnOf "_law_mix" "_law_mix" (defArgs s_law_mix) (defBody s_law_mix) (defScope s_law_mix) .none kVlaw_mix dclaw_mix pmlaw_mix anlaw_mix cdlaw_mix ctlaw_mix), sllaw_mix⟩)
    (claw_mix : PySem.W.codeIn K cdlaw_mix "_law_mix" = true)
    (klaw_mix : PySem.W.keepIn K (.ref flaw_mix) = true)
    (alaw_pick : PySem.W.nsIn K mainGlobals "_law_pick" = some (some (.ref flaw_pick)))
    (llaw_pick : K.lookup flaw_pick = some ⟨oclaw_pick, odlaw_pick, .func (PySem.W.fnOf "_law_pick" "_law_pick" (defArgs s_law_pick) (defBody s_law_pick) (defScope s_law_pick) .none kVlaw_pick dclaw_pick pmlaw_pick anlaw_pick cdlaw_pick ctlaw_pick), sllaw_pick⟩)
    (claw_pick : PySem.W.codeIn K cdlaw_pick "_law_pick" = true)
    (klaw_pick : PySem.W.keepIn K (.ref flaw_pick) = true)
    (alaw_bad_log : PySem.W.nsIn K mainGlobals "_law_bad_log" = some (some (.ref flaw_bad_log)))
    (llaw_bad_log : K.lookup flaw_bad_log = some ⟨oclaw_bad_log, odlaw_bad_log, .func (PySem.W.fnOf "_law_bad_log" "_law_bad_log" (defArgs s_law_bad_log) (defBody s_law_bad_log) (defScope s_law_bad_log) .none kVlaw_bad_log dclaw_bad_log pmlaw_bad_log anlaw_bad_log cdlaw_bad_log ctlaw_bad_log), sllaw_bad_log⟩)
    (claw_bad_log : PySem.W.codeIn K cdlaw_bad_log "_law_bad_log" = true)
    (klaw_bad_log : PySem.W.keepIn K (.ref flaw_bad_log) = true)
    (alaw_before : PySem.W.nsIn K mainGlobals "_law_before" = some (some (.ref flaw_before)))
    (llaw_before : K.lookup flaw_before = some ⟨oclaw_before, odlaw_before, .func (PySem.W.fnOf "_law_before" "_law_before" (defArgs s_law_before) (defBody s_law_before) (defScope s_law_before) .none kVlaw_before dclaw_before pmlaw_before anlaw_before cdlaw_before ctlaw_before), sllaw_before⟩)
    (claw_before : PySem.W.codeIn K cdlaw_before "_law_before" = true)
    (klaw_before : PySem.W.keepIn K (.ref flaw_before) = true)
    (alaw_names : PySem.W.nsIn K mainGlobals "_law_names" = some (some (.ref flaw_names)))
    (llaw_names : K.lookup flaw_names = some ⟨oclaw_names, odlaw_names, .func (PySem.W.fnOf "_law_names" "_law_names" (defArgs s_law_names) (defBody s_law_names) (defScope s_law_names) .none kVlaw_names dclaw_names pmlaw_names anlaw_names cdlaw_names ctlaw_names), sllaw_names⟩)
    (claw_names : PySem.W.codeIn K cdlaw_names "_law_names" = true)
    (klaw_names : PySem.W.keepIn K (.ref flaw_names) = true)
    (alaw_jobs : PySem.W.nsIn K mainGlobals "_law_jobs" = some (some (.ref flaw_jobs)))
    (llaw_jobs : K.lookup flaw_jobs = some ⟨oclaw_jobs, odlaw_jobs, .func (PySem.W.fnOf "_law_jobs" "_law_jobs" (defArgs s_law_jobs) (defBody s_law_jobs) (defScope s_law_jobs) .none kVlaw_jobs dclaw_jobs pmlaw_jobs anlaw_jobs cdlaw_jobs ctlaw_jobs), sllaw_jobs⟩)
    (claw_jobs : PySem.W.codeIn K cdlaw_jobs "_law_jobs" = true)
    (klaw_jobs : PySem.W.keepIn K (.ref flaw_jobs) = true)
    (alaw_present : PySem.W.nsIn K mainGlobals "_law_present" = some (some (.ref flaw_present)))
    (llaw_present : K.lookup flaw_present = some ⟨oclaw_present, odlaw_present, .func (PySem.W.fnOf "_law_present" "_law_present" (defArgs s_law_present) (defBody s_law_present) (defScope s_law_present) .none kVlaw_present dclaw_present pmlaw_present anlaw_present cdlaw_present ctlaw_present), sllaw_present⟩)
    (claw_present : PySem.W.codeIn K cdlaw_present "_law_present" = true)
    (klaw_present : PySem.W.keepIn K (.ref flaw_present) = true)
    (alaw_log : PySem.W.nsIn K mainGlobals "_law_log" = some (some (.ref flaw_log)))
    (llaw_log : K.lookup flaw_log = some ⟨oclaw_log, odlaw_log, .func (PySem.W.fnOf "_law_log" "_law_log" (defArgs s_law_log) (defBody s_law_log) (defScope s_law_log) .none kVlaw_log dclaw_log pmlaw_log anlaw_log cdlaw_log ctlaw_log), sllaw_log⟩)
    (claw_log : PySem.W.codeIn K cdlaw_log "_law_log" = true)
    (klaw_log : PySem.W.keepIn K (.ref flaw_log) = true)
    (alaw_is_int : PySem.W.nsIn K mainGlobals "_law_is_int" = some (some (.ref flaw_is_int)))
    (llaw_is_int : K.lookup flaw_is_int = some ⟨oclaw_is_int, odlaw_is_int, .func (PySem.W.fnOf "_law_is_int" "_law_is_int" (defArgs s_law_is_int) (defBody s_law_is_int) (defScope s_law_is_int) .none kVlaw_is_int dclaw_is_int pmlaw_is_int anlaw_is_int cdlaw_is_int ctlaw_is_int), sllaw_is_int⟩)
    (claw_is_int : PySem.W.codeIn K cdlaw_is_int "_law_is_int" = true)
    (klaw_is_int : PySem.W.keepIn K (.ref flaw_is_int) = true)
    (alaw_log_fault : PySem.W.nsIn K mainGlobals "_law_log_fault" = some (some (.ref flaw_log_fault)))
    (llaw_log_fault : K.lookup flaw_log_fault = some ⟨oclaw_log_fault, odlaw_log_fault, .func (PySem.W.fnOf "_law_log_fault" "_law_log_fault" (defArgs s_law_log_fault) (defBody s_law_log_fault) (defScope s_law_log_fault) .none kVlaw_log_fault dclaw_log_fault pmlaw_log_fault anlaw_log_fault cdlaw_log_fault ctlaw_log_fault), sllaw_log_fault⟩)
    (claw_log_fault : PySem.W.codeIn K cdlaw_log_fault "_law_log_fault" = true)
    (klaw_log_fault : PySem.W.keepIn K (.ref flaw_log_fault) = true)
    (alaw_certificate : PySem.W.nsIn K mainGlobals "_law_certificate" = some (some (.ref flaw_certificate)))
    (llaw_certificate : K.lookup flaw_certificate = some ⟨oclaw_certificate, odlaw_certificate, .func (PySem.W.fnOf "_law_certificate" "_law_certificate" (defArgs s_law_certificate) (defBody s_law_certificate) (defScope s_law_certificate) .none kVlaw_certificate dclaw_certificate pmlaw_certificate anlaw_certificate cdlaw_certificate ctlaw_certificate), sllaw_certificate⟩)
    (claw_certificate : PySem.W.codeIn K cdlaw_certificate "_law_certificate" = true)
    (klaw_certificate : PySem.W.keepIn K (.ref flaw_certificate) = true)
    (alaw_kind : PySem.W.nsIn K mainGlobals "_law_kind" = some (some (.ref flaw_kind)))
    (llaw_kind : K.lookup flaw_kind = some ⟨oclaw_kind, odlaw_kind, .func (PySem.W.fnOf "_law_kind" "_law_kind" (defArgs s_law_kind) (defBody s_law_kind) (defScope s_law_kind) .none kVlaw_kind dclaw_kind pmlaw_kind anlaw_kind cdlaw_kind ctlaw_kind), sllaw_kind⟩)
    (claw_kind : PySem.W.codeIn K cdlaw_kind "_law_kind" = true)
    (klaw_kind : PySem.W.keepIn K (.ref flaw_kind) = true)
    (acomes_before : PySem.W.nsIn K mainGlobals "comes_before" = some (some (.ref fcomes_before)))
    (lcomes_before : K.lookup fcomes_before = some ⟨occomes_before, odcomes_before, .func (PySem.W.fnOf "comes_before" "comes_before" (defArgs s_comes_before) (defBody s_comes_before) (defScope s_comes_before) .none kVcomes_before dccomes_before pmcomes_before ancomes_before cdcomes_before ctcomes_before), slcomes_before⟩)
    (ccomes_before : PySem.W.codeIn K cdcomes_before "comes_before" = true)
    (kcomes_before : PySem.W.keepIn K (.ref fcomes_before) = true)
    (ais_integer : PySem.W.nsIn K mainGlobals "is_integer" = some (some (.ref fis_integer)))
    (lis_integer : K.lookup fis_integer = some ⟨ocis_integer, odis_integer, .func (PySem.W.fnOf "is_integer" "is_integer" (defArgs s_is_integer) (defBody s_is_integer) (defScope s_is_integer) .none kVis_integer dcis_integer pmis_integer anis_integer cdis_integer ctis_integer), slis_integer⟩)
    (cis_integer : PySem.W.codeIn K cdis_integer "is_integer" = true)
    (kis_integer : PySem.W.keepIn K (.ref fis_integer) = true)
    (ais_arrival : PySem.W.nsIn K mainGlobals "is_arrival" = some (some (.ref fis_arrival)))
    (lis_arrival : K.lookup fis_arrival = some ⟨ocis_arrival, odis_arrival, .func (PySem.W.fnOf "is_arrival" "is_arrival" (defArgs s_is_arrival) (defBody s_is_arrival) (defScope s_is_arrival) .none kVis_arrival dcis_arrival pmis_arrival anis_arrival cdis_arrival ctis_arrival), slis_arrival⟩)
    (cis_arrival : PySem.W.codeIn K cdis_arrival "is_arrival" = true)
    (kis_arrival : PySem.W.keepIn K (.ref fis_arrival) = true)
    (ais_name : PySem.W.nsIn K mainGlobals "is_name" = some (some (.ref fis_name)))
    (lis_name : K.lookup fis_name = some ⟨ocis_name, odis_name, .func (PySem.W.fnOf "is_name" "is_name" (defArgs s_is_name) (defBody s_is_name) (defScope s_is_name) .none kVis_name dcis_name pmis_name anis_name cdis_name ctis_name), slis_name⟩)
    (cis_name : PySem.W.codeIn K cdis_name "is_name" = true)
    (kis_name : PySem.W.keepIn K (.ref fis_name) = true)
    (ais_job : PySem.W.nsIn K mainGlobals "is_job" = some (some (.ref fis_job)))
    (lis_job : K.lookup fis_job = some ⟨ocis_job, odis_job, .func (PySem.W.fnOf "is_job" "is_job" (defArgs s_is_job) (defBody s_is_job) (defScope s_is_job) .none kVis_job dcis_job pmis_job anis_job cdis_job ctis_job), slis_job⟩)
    (cis_job : PySem.W.codeIn K cdis_job "is_job" = true)
    (kis_job : PySem.W.keepIn K (.ref fis_job) = true)
    (acheck_jobs : PySem.W.nsIn K mainGlobals "check_jobs" = some (some (.ref fcheck_jobs)))
    (lcheck_jobs : K.lookup fcheck_jobs = some ⟨occheck_jobs, odcheck_jobs, .func (PySem.W.fnOf "check_jobs" "check_jobs" (defArgs s_check_jobs) (defBody s_check_jobs) (defScope s_check_jobs) .none kVcheck_jobs dccheck_jobs pmcheck_jobs ancheck_jobs cdcheck_jobs ctcheck_jobs), slcheck_jobs⟩)
    (ccheck_jobs : PySem.W.codeIn K cdcheck_jobs "check_jobs" = true)
    (kcheck_jobs : PySem.W.keepIn K (.ref fcheck_jobs) = true)
    (acheck_log : PySem.W.nsIn K mainGlobals "check_log" = some (some (.ref fcheck_log)))
    (lcheck_log : K.lookup fcheck_log = some ⟨occheck_log, odcheck_log, .func (PySem.W.fnOf "check_log" "check_log" (defArgs s_check_log) (defBody s_check_log) (defScope s_check_log) .none kVcheck_log dccheck_log pmcheck_log ancheck_log cdcheck_log ctcheck_log), slcheck_log⟩)
    (ccheck_log : PySem.W.codeIn K cdcheck_log "check_log" = true)
    (kcheck_log : PySem.W.keepIn K (.ref fcheck_log) = true)
    (ahas_arrived : PySem.W.nsIn K mainGlobals "has_arrived" = some (some (.ref fhas_arrived)))
    (lhas_arrived : K.lookup fhas_arrived = some ⟨ochas_arrived, odhas_arrived, .func (PySem.W.fnOf "has_arrived" "has_arrived" (defArgs s_has_arrived) (defBody s_has_arrived) (defScope s_has_arrived) .none kVhas_arrived dchas_arrived pmhas_arrived anhas_arrived cdhas_arrived cthas_arrived), slhas_arrived⟩)
    (chas_arrived : PySem.W.codeIn K cdhas_arrived "has_arrived" = true)
    (khas_arrived : PySem.W.keepIn K (.ref fhas_arrived) = true)
    (acount_arrived : PySem.W.nsIn K mainGlobals "count_arrived" = some (some (.ref fcount_arrived)))
    (lcount_arrived : K.lookup fcount_arrived = some ⟨occount_arrived, odcount_arrived, .func (PySem.W.fnOf "count_arrived" "count_arrived" (defArgs s_count_arrived) (defBody s_count_arrived) (defScope s_count_arrived) .none kVcount_arrived dccount_arrived pmcount_arrived ancount_arrived cdcount_arrived ctcount_arrived), slcount_arrived⟩)
    (ccount_arrived : PySem.W.codeIn K cdcount_arrived "count_arrived" = true)
    (kcount_arrived : PySem.W.keepIn K (.ref fcount_arrived) = true)
    (apresent_in : PySem.W.nsIn K mainGlobals "present_in" = some (some (.ref fpresent_in)))
    (lpresent_in : K.lookup fpresent_in = some ⟨ocpresent_in, odpresent_in, .func (PySem.W.fnOf "present_in" "present_in" (defArgs s_present_in) (defBody s_present_in) (defScope s_present_in) .none kVpresent_in dcpresent_in pmpresent_in anpresent_in cdpresent_in ctpresent_in), slpresent_in⟩)
    (cpresent_in : PySem.W.codeIn K cdpresent_in "present_in" = true)
    (kpresent_in : PySem.W.keepIn K (.ref fpresent_in) = true)
    (afirst_fault : PySem.W.nsIn K mainGlobals "first_fault" = some (some (.ref ffirst_fault)))
    (lfirst_fault : K.lookup ffirst_fault = some ⟨ocfirst_fault, odfirst_fault, .func (PySem.W.fnOf "first_fault" "first_fault" (defArgs s_first_fault) (defBody s_first_fault) (defScope s_first_fault) .none (.ref kdfirst_fault) dcfirst_fault pmfirst_fault anfirst_fault cdfirst_fault ctfirst_fault), slfirst_fault⟩)
    (cfirst_fault : PySem.W.codeIn K cdfirst_fault "first_fault" = true)
    (kfirst_fault : PySem.W.keepIn K (.ref ffirst_fault) = true)
    (alaw_right : PySem.W.nsIn K mainGlobals "_law_right" = some (some (.ref flaw_right)))
    (llaw_right : K.lookup flaw_right = some ⟨oclaw_right, odlaw_right, .func (PySem.W.fnOf "_law_right" "_law_right" (defArgs s_law_right) (defBody s_law_right) (defScope s_law_right) .none kVlaw_right dclaw_right pmlaw_right anlaw_right cdlaw_right ctlaw_right), sllaw_right⟩)
    (claw_right : PySem.W.codeIn K cdlaw_right "_law_right" = true)
    (klaw_right : PySem.W.keepIn K (.ref flaw_right) = true)
    (alaw_store : PySem.W.nsIn K mainGlobals "_law_store" = some (some (.ref flaw_store)))
    (llaw_store : K.lookup flaw_store = some ⟨oclaw_store, odlaw_store, .func (PySem.W.fnOf "_law_store" "_law_store" (defArgs s_law_store) (defBody s_law_store) (defScope s_law_store) .none kVlaw_store dclaw_store pmlaw_store anlaw_store cdlaw_store ctlaw_store), sllaw_store⟩)
    (claw_store : PySem.W.codeIn K cdlaw_store "_law_store" = true)
    (klaw_store : PySem.W.keepIn K (.ref flaw_store) = true)
    (alaw : PySem.W.nsIn K mainGlobals "law" = some (some (.ref flaw)))
    (llaw : K.lookup flaw = some ⟨oclaw, odlaw, .func (PySem.W.fnOf "law" "law" (defArgs s_law) (defBody s_law) (defScope s_law) .none kVlaw dclaw pmlaw anlaw cdlaw ctlaw), sllaw⟩)
    (claw : PySem.W.codeIn K cdlaw "law" = true)
    (klaw : PySem.W.keepIn K (.ref flaw) = true)
    (qfirst_fault_processors : PySem.W.nsIn K kdfirst_fault "processors" = some (some (.int 1 tqfirst_fault_processors)))
    (gLETTERS : PySem.W.nsIn K mainGlobals "LETTERS" = some (some (.str ("abcdefghijklmnopqrstuvwxyz" : Str) tgLETTERS)))
    (gLONGEST_NAME : PySem.W.nsIn K mainGlobals "LONGEST_NAME" = some (some (.int 8 tgLONGEST_NAME)))
    (gMOST_ENTRY : PySem.W.nsIn K mainGlobals "MOST_ENTRY" = some (some (.int 9 tgMOST_ENTRY)))
    (zValueError : PySem.W.nsIn K mainGlobals "ValueError" = some none)
    (zall : PySem.W.nsIn K mainGlobals "all" = some none)
    (zbool : PySem.W.nsIn K mainGlobals "bool" = some none)
    (zenumerate : PySem.W.nsIn K mainGlobals "enumerate" = some none)
    (zint : PySem.W.nsIn K mainGlobals "int" = some none)
    (zisinstance : PySem.W.nsIn K mainGlobals "isinstance" = some none)
    (zlen : PySem.W.nsIn K mainGlobals "len" = some none)
    (zlist : PySem.W.nsIn K mainGlobals "list" = some none)
    (zmax : PySem.W.nsIn K mainGlobals "max" = some none)
    (zmin : PySem.W.nsIn K mainGlobals "min" = some none)
    (zrange : PySem.W.nsIn K mainGlobals "range" = some none)
    (zstr : PySem.W.nsIn K mainGlobals "str" = some none)
    (ztuple : PySem.W.nsIn K mainGlobals "tuple" = some none)
    : ∃ fd : FuncData, (∀ (s : Shared) (v : Value), BindsTo s fd ⟨[v], []⟩ [("script", v)]) ∧ ∀ base : Heap, K.In base → base.Ns mainGlobals mg → FnOk l.prog w K mg base (L2.CX l.prog w) 7 fa fd ["script"] (LSp K spLawT) := by
  have e := hfa.symm.trans (PySem.W.mg_of X G alaw)
  cases e
  let cs : Cs := ⟨K, aNoJobs, aNoLengths, aNoLine, aNoLog, aNoMarks, aNoName, aNoNamed, aNoNumber, aNoOrder, aNoRule, aNoText, aNoUndo, aSlotError⟩
  have Flaw_mix := fun_mk (st := s_law_mix) llaw_mix claw_mix klaw_mix
  have Dlaw_mix : Df cs.K mg "_law_mix" "_law_mix" s_law_mix ["number", "turn"] := ⟨_, _, Flaw_mix, PySem.W.mg_of X G alaw_mix, Flaw_mix.binds (ps := ["number", "turn"]) fun _ _ _ _ _ _ us hl => match us, hl with | [_, _], _ => rfl⟩
  have Flaw_pick := fun_mk (st := s_law_pick) llaw_pick claw_pick klaw_pick
  have Dlaw_pick : Df cs.K mg "_law_pick" "_law_pick" s_law_pick ["store", "count"] := ⟨_, _, Flaw_pick, PySem.W.mg_of X G alaw_pick, Flaw_pick.binds (ps := ["store", "count"]) fun _ _ _ _ _ _ us hl => match us, hl with | [_, _], _ => rfl⟩
  have Flaw_bad_log := fun_mk (st := s_law_bad_log) llaw_bad_log claw_bad_log klaw_bad_log
  have Dlaw_bad_log : Df cs.K mg "_law_bad_log" "_law_bad_log" s_law_bad_log ["store", "log"] := ⟨_, _, Flaw_bad_log, PySem.W.mg_of X G alaw_bad_log, Flaw_bad_log.binds (ps := ["store", "log"]) fun _ _ _ _ _ _ us hl => match us, hl with | [_, _], _ => rfl⟩
  have Flaw_before := fun_mk (st := s_law_before) llaw_before claw_before klaw_before
  have Dlaw_before : Df cs.K mg "_law_before" "_law_before" s_law_before ["arrival", "finishes"] := ⟨_, _, Flaw_before, PySem.W.mg_of X G alaw_before, Flaw_before.binds (ps := ["arrival", "finishes"]) fun _ _ _ _ _ _ us hl => match us, hl with | [_, _], _ => rfl⟩
  have Flaw_names := fun_mk (st := s_law_names) llaw_names claw_names klaw_names
  have Dlaw_names : Df cs.K mg "_law_names" "_law_names" s_law_names ["store", "count"] := ⟨_, _, Flaw_names, PySem.W.mg_of X G alaw_names, Flaw_names.binds (ps := ["store", "count"]) fun _ _ _ _ _ _ us hl => match us, hl with | [_, _], _ => rfl⟩
  have Flaw_jobs := fun_mk (st := s_law_jobs) llaw_jobs claw_jobs klaw_jobs
  have Dlaw_jobs : Df cs.K mg "_law_jobs" "_law_jobs" s_law_jobs ["store", "most", "late"] := ⟨_, _, Flaw_jobs, PySem.W.mg_of X G alaw_jobs, Flaw_jobs.binds (ps := ["store", "most", "late"]) fun _ _ _ _ _ _ us hl => match us, hl with | [_, _, _], _ => rfl⟩
  have Flaw_present := fun_mk (st := s_law_present) llaw_present claw_present klaw_present
  have Dlaw_present : Df cs.K mg "_law_present" "_law_present" s_law_present ["jobs", "unit", "finished"] := ⟨_, _, Flaw_present, PySem.W.mg_of X G alaw_present, Flaw_present.binds (ps := ["jobs", "unit", "finished"]) fun _ _ _ _ _ _ us hl => match us, hl with | [_, _, _], _ => rfl⟩
  have Flaw_log := fun_mk (st := s_law_log) llaw_log claw_log klaw_log
  have Dlaw_log : Df cs.K mg "_law_log" "_law_log" s_law_log ["store", "jobs", "cores", "wide"] := ⟨_, _, Flaw_log, PySem.W.mg_of X G alaw_log, Flaw_log.binds (ps := ["store", "jobs", "cores", "wide"]) fun _ _ _ _ _ _ us hl => match us, hl with | [_, _, _, _], _ => rfl⟩
  have Flaw_is_int := fun_mk (st := s_law_is_int) llaw_is_int claw_is_int klaw_is_int
  have Dlaw_is_int : Df cs.K mg "_law_is_int" "_law_is_int" s_law_is_int ["value", "least"] := ⟨_, _, Flaw_is_int, PySem.W.mg_of X G alaw_is_int, Flaw_is_int.binds (ps := ["value", "least"]) fun _ _ _ _ _ _ us hl => match us, hl with | [_, _], _ => rfl⟩
  have Flaw_log_fault := fun_mk (st := s_law_log_fault) llaw_log_fault claw_log_fault klaw_log_fault
  have Dlaw_log_fault : Df cs.K mg "_law_log_fault" "_law_log_fault" s_law_log_fault ["log"] := ⟨_, _, Flaw_log_fault, PySem.W.mg_of X G alaw_log_fault, Flaw_log_fault.binds (ps := ["log"]) fun _ _ _ _ _ _ us hl => match us, hl with | [_], _ => rfl⟩
  have Flaw_certificate := fun_mk (st := s_law_certificate) llaw_certificate claw_certificate klaw_certificate
  have Dlaw_certificate : Df cs.K mg "_law_certificate" "_law_certificate" s_law_certificate ["jobs", "log", "cores"] := ⟨_, _, Flaw_certificate, PySem.W.mg_of X G alaw_certificate, Flaw_certificate.binds (ps := ["jobs", "log", "cores"]) fun _ _ _ _ _ _ us hl => match us, hl with | [_, _, _], _ => rfl⟩
  have Flaw_kind := fun_mk (st := s_law_kind) llaw_kind claw_kind klaw_kind
  have Dlaw_kind : Df cs.K mg "_law_kind" "_law_kind" s_law_kind ["caught"] := ⟨_, _, Flaw_kind, PySem.W.mg_of X G alaw_kind, Flaw_kind.binds (ps := ["caught"]) fun _ _ _ _ _ _ us hl => match us, hl with | [_], _ => rfl⟩
  have Fcomes_before := fun_mk (st := s_comes_before) lcomes_before ccomes_before kcomes_before
  have Dcomes_before : Df cs.K mg "comes_before" "comes_before" s_comes_before ["arrival", "finishes"] := ⟨_, _, Fcomes_before, PySem.W.mg_of X G acomes_before, Fcomes_before.binds (ps := ["arrival", "finishes"]) fun _ _ _ _ _ _ us hl => match us, hl with | [_, _], _ => rfl⟩
  have Fis_integer := fun_mk (st := s_is_integer) lis_integer cis_integer kis_integer
  have Dis_integer : Df cs.K mg "is_integer" "is_integer" s_is_integer ["value", "least"] := ⟨_, _, Fis_integer, PySem.W.mg_of X G ais_integer, Fis_integer.binds (ps := ["value", "least"]) fun _ _ _ _ _ _ us hl => match us, hl with | [_, _], _ => rfl⟩
  have Fis_arrival := fun_mk (st := s_is_arrival) lis_arrival cis_arrival kis_arrival
  have Dis_arrival : Df cs.K mg "is_arrival" "is_arrival" s_is_arrival ["value"] := ⟨_, _, Fis_arrival, PySem.W.mg_of X G ais_arrival, Fis_arrival.binds (ps := ["value"]) fun _ _ _ _ _ _ us hl => match us, hl with | [_], _ => rfl⟩
  have Fis_name := fun_mk (st := s_is_name) lis_name cis_name kis_name
  have Dis_name : Df cs.K mg "is_name" "is_name" s_is_name ["value"] := ⟨_, _, Fis_name, PySem.W.mg_of X G ais_name, Fis_name.binds (ps := ["value"]) fun _ _ _ _ _ _ us hl => match us, hl with | [_], _ => rfl⟩
  have Fis_job := fun_mk (st := s_is_job) lis_job cis_job kis_job
  have Dis_job : Df cs.K mg "is_job" "is_job" s_is_job ["value"] := ⟨_, _, Fis_job, PySem.W.mg_of X G ais_job, Fis_job.binds (ps := ["value"]) fun _ _ _ _ _ _ us hl => match us, hl with | [_], _ => rfl⟩
  have Fcheck_jobs := fun_mk (st := s_check_jobs) lcheck_jobs ccheck_jobs kcheck_jobs
  have Dcheck_jobs : Df cs.K mg "check_jobs" "check_jobs" s_check_jobs ["jobs"] := ⟨_, _, Fcheck_jobs, PySem.W.mg_of X G acheck_jobs, Fcheck_jobs.binds (ps := ["jobs"]) fun _ _ _ _ _ _ us hl => match us, hl with | [_], _ => rfl⟩
  have Fcheck_log := fun_mk (st := s_check_log) lcheck_log ccheck_log kcheck_log
  have Dcheck_log : Df cs.K mg "check_log" "check_log" s_check_log ["log"] := ⟨_, _, Fcheck_log, PySem.W.mg_of X G acheck_log, Fcheck_log.binds (ps := ["log"]) fun _ _ _ _ _ _ us hl => match us, hl with | [_], _ => rfl⟩
  have Fhas_arrived := fun_mk (st := s_has_arrived) lhas_arrived chas_arrived khas_arrived
  have Dhas_arrived : Df cs.K mg "has_arrived" "has_arrived" s_has_arrived ["arrival", "moment", "finished"] := ⟨_, _, Fhas_arrived, PySem.W.mg_of X G ahas_arrived, Fhas_arrived.binds (ps := ["arrival", "moment", "finished"]) fun _ _ _ _ _ _ us hl => match us, hl with | [_, _, _], _ => rfl⟩
  have Fcount_arrived := fun_mk (st := s_count_arrived) lcount_arrived ccount_arrived kcount_arrived
  have Dcount_arrived : Df cs.K mg "count_arrived" "count_arrived" s_count_arrived ["jobs", "moment", "finished"] := ⟨_, _, Fcount_arrived, PySem.W.mg_of X G acount_arrived, Fcount_arrived.binds (ps := ["jobs", "moment", "finished"]) fun _ _ _ _ _ _ us hl => match us, hl with | [_, _, _], _ => rfl⟩
  have Fpresent_in := fun_mk (st := s_present_in) lpresent_in cpresent_in kpresent_in
  have Dpresent_in : Df cs.K mg "present_in" "present_in" s_present_in ["jobs", "unit", "finished"] := ⟨_, _, Fpresent_in, PySem.W.mg_of X G apresent_in, Fpresent_in.binds (ps := ["jobs", "unit", "finished"]) fun _ _ _ _ _ _ us hl => match us, hl with | [_, _, _], _ => rfl⟩
  have Ffirst_fault := fun_mk (st := s_first_fault) lfirst_fault cfirst_fault kfirst_fault
  have Flaw_right := fun_mk (st := s_law_right) llaw_right claw_right klaw_right
  have Dlaw_right : Df cs.K mg "_law_right" "_law_right" s_law_right ["jobs", "log", "cores"] := ⟨_, _, Flaw_right, PySem.W.mg_of X G alaw_right, Flaw_right.binds (ps := ["jobs", "log", "cores"]) fun _ _ _ _ _ _ us hl => match us, hl with | [_, _, _], _ => rfl⟩
  have Flaw_store := fun_mk (st := s_law_store) llaw_store claw_store klaw_store
  have Dlaw_store : Df cs.K mg "_law_store" "_law_store" s_law_store ["script"] := ⟨_, _, Flaw_store, PySem.W.mg_of X G alaw_store, Flaw_store.binds (ps := ["script"]) fun _ _ _ _ _ _ us hl => match us, hl with | [_], _ => rfl⟩
  have Flaw := fun_mk (st := s_law) llaw claw klaw
  have ENoJobs : ErrF K aNoJobs := ⟨y0NoJobs, y1NoJobs, y2NoJobs, y3NoJobs, y4NoJobs, y5NoJobs, y6NoJobs, y7NoJobs, y8NoJobs, y9NoJobs⟩
  have ONoJobs : OexC K aNoJobs := ⟨⟨_, _, _, _, _, _, _, _, _, _, _, _, _, _, _, x0NoJobs, rfl⟩, x1NoJobs, y2NoJobs, tNoJobs, x2NoJobs⟩
  have FINoJobs := fun_mk (st := si_NoJobs) x6NoJobs x7NoJobs x8NoJobs
  have BINoJobs := FINoJobs.binds (ps := ["self", "place"]) fun _ _ _ _ _ _ us hl => match us, hl with | [_, _], _ => rfl
  have ENoLog : ErrF K aNoLog := ⟨y0NoLog, y1NoLog, y2NoLog, y3NoLog, y4NoLog, y5NoLog, y6NoLog, y7NoLog, y8NoLog, y9NoLog⟩
  have ONoLog : OexC K aNoLog := ⟨⟨_, _, _, _, _, _, _, _, _, _, _, _, _, _, _, x0NoLog, rfl⟩, x1NoLog, y2NoLog, tNoLog, x2NoLog⟩
  have FINoLog := fun_mk (st := si_NoLog) x6NoLog x7NoLog x8NoLog
  have BINoLog := FINoLog.binds (ps := ["self", "place"]) fun _ _ _ _ _ _ us hl => match us, hl with | [_, _], _ => rfl
  have SE : SeC K aSlotError := ⟨sr, sg, si⟩
  refine ⟨PySem.W.fnOf "law" "law" (defArgs s_law) (defBody s_law) (defScope s_law) .none kVlaw dclaw pmlaw anlaw cdlaw ctlaw, fun s v => .of_eq rfl, fun base _ _ => ?_⟩
  have kx : Kx cs := ⟨⟨by decide, fun i hi => match i, hi with | 0, _ => ENoJobs.is iNoJobs tNoJobs zNoJobsNoJobs | 1, _ => ENoJobs.is iNoRule tNoRule zNoJobsNoRule | 2, _ => ENoJobs.is iNoLengths tNoLengths zNoJobsNoLengths | 3, _ => ENoJobs.is iNoLog tNoLog zNoJobsNoLog | 4, _ => ENoJobs.is iNoMarks tNoMarks zNoJobsNoMarks | 5, _ => ENoJobs.is iNoNamed tNoNamed zNoJobsNoNamed | 6, _ => ENoJobs.is iNoOrder tNoOrder zNoJobsNoOrder | 7, _ => ENoJobs.is iNoText tNoText zNoJobsNoText | 8, _ => ENoJobs.is iNoNumber tNoNumber zNoJobsNoNumber | 9, _ => ENoJobs.is iNoName tNoName zNoJobsNoName | 10, _ => ENoJobs.is iNoUndo tNoUndo zNoJobsNoUndo | 11, _ => ENoJobs.is iNoLine tNoLine zNoJobsNoLine, ENoJobs.is iSlotError tSlotError zNoJobs, ⟨ENoJobs.exc, kit_ve y9NoJobs⟩, fun f hf => by cases hf; exact ⟨ENoJobs.xfc, x5NoJobs⟩⟩,
    PySem.W.exm_ref bSlotError hSlotError tSlotError zNoJobs,
    ⟨by decide, fun i hi => match i, hi with | 0, _ => ENoLog.is iNoJobs tNoJobs zNoLogNoJobs | 1, _ => ENoLog.is iNoRule tNoRule zNoLogNoRule | 2, _ => ENoLog.is iNoLengths tNoLengths zNoLogNoLengths | 3, _ => ENoLog.is iNoLog tNoLog zNoLogNoLog | 4, _ => ENoLog.is iNoMarks tNoMarks zNoLogNoMarks | 5, _ => ENoLog.is iNoNamed tNoNamed zNoLogNoNamed | 6, _ => ENoLog.is iNoOrder tNoOrder zNoLogNoOrder | 7, _ => ENoLog.is iNoText tNoText zNoLogNoText | 8, _ => ENoLog.is iNoNumber tNoNumber zNoLogNoNumber | 9, _ => ENoLog.is iNoName tNoName zNoLogNoName | 10, _ => ENoLog.is iNoUndo tNoUndo zNoLogNoUndo | 11, _ => ENoLog.is iNoLine tNoLine zNoLogNoLine, ENoLog.is iSlotError tSlotError zNoLog, ⟨ENoLog.exc, kit_ve y9NoLog⟩, fun f hf => by cases hf; exact ⟨ENoLog.xfc, x5NoLog⟩⟩,
    PySem.W.exm_ref bSlotError hSlotError tSlotError zNoLog⟩
  have T : Tx l.prog w mg base cs := ⟨⟨_, PySem.W.mg_of X G gLETTERS⟩,
    ⟨_, PySem.W.mg_of X G gLONGEST_NAME⟩,
    ⟨_, PySem.W.mg_of X G gMOST_ENTRY⟩,
    PySem.W.mg_none_of X G zValueError,
    PySem.W.mg_none_of X G zall,
    PySem.W.mg_none_of X G zbool,
    PySem.W.mg_none_of X G zenumerate,
    PySem.W.mg_none_of X G zint,
    PySem.W.mg_none_of X G zisinstance,
    PySem.W.mg_none_of X G zlen,
    PySem.W.mg_none_of X G zlist,
    PySem.W.mg_none_of X G zmax,
    PySem.W.mg_none_of X G zmin,
    PySem.W.mg_none_of X G zrange,
    PySem.W.mg_none_of X G zstr,
    PySem.W.mg_none_of X G ztuple,
    PySem.W.mg_of X G nNoJobs,
    PySem.W.mg_of X G nNoLengths,
    PySem.W.mg_of X G nNoLine,
    PySem.W.mg_of X G nNoLog,
    PySem.W.mg_of X G nNoMarks,
    PySem.W.mg_of X G nNoName,
    PySem.W.mg_of X G nNoNamed,
    PySem.W.mg_of X G nNoNumber,
    PySem.W.mg_of X G nNoOrder,
    PySem.W.mg_of X G nNoRule,
    PySem.W.mg_of X G nNoText,
    PySem.W.mg_of X G nNoUndo,
    PySem.W.mg_of X G nSlotError,
    ⟨fNoJobs, _, _, ⟨PySem.W.mg_of X G nNoJobs, ONoJobs, x3NoJobs, x4NoJobs⟩, xi_NoJobs FINoJobs (PySem.W.mg_of X G nSlotError) SE (PySem.W.mg_none_of X G zstr) ONoJobs x5NoJobs, BINoJobs⟩,
    ⟨fNoLog, _, _, ⟨PySem.W.mg_of X G nNoLog, ONoLog, x3NoLog, x4NoLog⟩, xi_NoLog FINoLog (PySem.W.mg_of X G nSlotError) SE (PySem.W.mg_none_of X G zstr) ONoLog x5NoLog, BINoLog⟩⟩
  have Ylaw_mix := ok_law_mix T Dlaw_mix rd_law_mix
  have Ylaw_pick := ok_law_pick T Ylaw_mix Dlaw_pick rd_law_pick
  have Ylaw_bad_log := ok_law_bad_log T Ylaw_pick Dlaw_bad_log rd_law_bad_log
  have Ylaw_before := ok_law_before T Dlaw_before rd_law_before
  have Ylaw_names := ok_law_names T Ylaw_pick Dlaw_names rd_law_names
  have Ylaw_jobs := ok_law_jobs T Ylaw_before Ylaw_names Ylaw_pick Dlaw_jobs rd_law_jobs
  have Ylaw_present := ok_law_present T Dlaw_present rd_law_present
  have Ylaw_log := ok_law_log T Ylaw_pick Ylaw_present Dlaw_log rd_law_log
  have Ylaw_is_int := ok_law_is_int T Dlaw_is_int rd_law_is_int
  have Ylaw_log_fault := ok_law_log_fault T Ylaw_is_int Dlaw_log_fault rd_law_log_fault
  have Ylaw_certificate := ok_law_certificate T Ylaw_present Dlaw_certificate rd_law_certificate
  have Ylaw_kind := ok_law_kind T Dlaw_kind rd_law_kind
  have Ycomes_before := ok_comes_before T Dcomes_before rd_comes_before
  have Yis_integer := ok_is_integer T Dis_integer rd_is_integer
  have Yis_arrival := ok_is_arrival T Yis_integer Dis_arrival rd_is_arrival
  have Yis_name := ok_is_name T Dis_name rd_is_name
  have Yis_job := ok_is_job T Yis_arrival Yis_integer Yis_name Dis_job rd_is_job
  have Ycheck_jobs := ok_check_jobs T Ycomes_before Yis_job Dcheck_jobs rd_check_jobs
  have Ycheck_log := ok_check_log T Yis_integer Dcheck_log rd_check_log
  have Yhas_arrived := ok_has_arrived T Dhas_arrived rd_has_arrived
  have Ycount_arrived := ok_count_arrived T Yhas_arrived Dcount_arrived rd_count_arrived
  have Ypresent_in := ok_present_in T Ycount_arrived Dpresent_in rd_present_in
  have Yfirst_fault := ok_first_fault T Ycheck_jobs Ycheck_log Ypresent_in Ffirst_fault rd_first_fault
  have YK_first_fault_2 : CalK l.prog w cs.K mg base 5 "first_fault" 2 [] (spk_first_fault_2 cs) := calK_mk (srcD := [.df (.int 1)]) Yfirst_fault (PySem.W.mg_of X G afirst_fault) Ffirst_fault.kp (kbn_mk (D := kdfirst_fault) (l := [("processors", .int 1 tqfirst_fault_processors)]) (src := [.df (.int 1 tqfirst_fault_processors)]) (srcV := [.df (.int 1)]) (.df ⟨_, rfl⟩ .nil) (fun q hq => by simp at hq; subst hq; exact qfirst_fault_processors) fun us ws h1 h2 => match us, ws, h1, h2 with | [_, _], [], _, _ => ⟨_, _, _, _, _, _, rfl, rfl, rfl⟩) (fun F => (.df (.int _) .nil)) fun ds zs M Q E h1 h2 h => match ds, zs, h1, h2, h with | [_, _], [], _, _, h => by obtain ⟨_, _, e, q⟩ := h; cases e; exact q
  have YK_first_fault_2_processors : CalK l.prog w cs.K mg base 5 "first_fault" 2 ["processors"] (spk_first_fault_2_processors cs) := calK_mk (srcD := [.kw 0]) Yfirst_fault (PySem.W.mg_of X G afirst_fault) Ffirst_fault.kp (kbn_mk (D := 0) (l := []) (src := [.kw 0]) (srcV := [.kw 0]) (.kw .nil) (fun q hq => by cases hq) fun us ws h1 h2 => match us, ws, h1, h2 with | [_, _], [_], _, _ => rfl) (fun F => (.kw .nil)) fun ds zs M Q E h1 h2 h => match ds, zs, h1, h2, h with | [_, _], [_], _, _, h => by obtain ⟨_, _, _, e, q⟩ := h; cases e; exact q
  have Ylaw_right := ok_law_right T Ylaw_certificate Ylaw_kind Ylaw_log_fault YK_first_fault_2 YK_first_fault_2_processors Dlaw_right (rd_law_right kx)
  have Ylaw_store := ok_law_store T Dlaw_store rd_law_store
  exact ok_law T Ylaw_bad_log Ylaw_jobs Ylaw_log Ylaw_log_fault Ylaw_pick Ylaw_right Ylaw_store YK_first_fault_2 Flaw rd_law
end Lw
open PySem PySem.W PyProof.Rows
set_option maxRecDepth 100000 in
set_option maxHeartbeats 0 in
theorem PySem.Challenge.cw_blindslots_k08_logs_that_are_impossible_holds : PySem.Challenge.rw_blindslots_k08_logs_that_are_impossible.Holds := by
  w_on; o_law; k_head; (case hw => w_witness2)
  k_fill
  refine L2.walk_of (l := PySem.Challenge.rw_blindslots_k08_logs_that_are_impossible) (n := 63) (k := 7) (x := "script") (CX := fun w => L2.CX PySem.Challenge.rw_blindslots_k08_logs_that_are_impossible.prog w) (sp := fun w => DL.LSp _ DL.spLawT) rfl (by decide) rfl ⟨rfl, by decide, by decide⟩ (fun w h Y => PySem.W.kIn_of Y) ?F
    (fun w H a ns hl _ hS => DL.law_in hS fun Q E k => ⟨ns, rfl, hl, k⟩) (fun _ _ _ _ _ z => DL.CX_none z)
  case F =>
    intro w mg fa h KX G hmg
    refine' Lw.all_mk KX G hmg ?nNoJobs ?iNoJobs ?tNoJobs ?nNoLengths ?iNoLengths ?tNoLengths ?nNoLine ?iNoLine ?tNoLine ?nNoLog ?iNoLog ?tNoLog ?nNoMarks ?iNoMarks ?tNoMarks ?nNoName ?iNoName ?tNoName ?nNoNamed ?iNoNamed ?tNoNamed ?nNoNumber ?iNoNumber ?tNoNumber ?nNoOrder ?iNoOrder ?tNoOrder ?nNoRule ?iNoRule ?tNoRule ?nNoText ?iNoText ?tNoText ?nNoUndo ?iNoUndo ?tNoUndo ?nSlotError ?iSlotError ?tSlotError ?bSlotError ?hSlotError ?sr ?sg ?si ?x0NoJobs ?x1NoJobs ?x2NoJobs ?x3NoJobs ?x4NoJobs ?x5NoJobs ?x6NoJobs ?x7NoJobs ?x8NoJobs ?y0NoJobs ?y1NoJobs ?y2NoJobs ?y3NoJobs ?y4NoJobs ?y5NoJobs ?y6NoJobs ?y7NoJobs ?y8NoJobs ?y9NoJobs ?zNoJobs ?zNoJobsNoJobs ?zNoJobsNoRule ?zNoJobsNoLengths ?zNoJobsNoLog ?zNoJobsNoMarks ?zNoJobsNoNamed ?zNoJobsNoOrder ?zNoJobsNoText ?zNoJobsNoNumber ?zNoJobsNoName ?zNoJobsNoUndo ?zNoJobsNoLine ?x0NoLog ?x1NoLog ?x2NoLog ?x3NoLog ?x4NoLog ?x5NoLog ?x6NoLog ?x7NoLog ?x8NoLog ?y0NoLog ?y1NoLog ?y2NoLog ?y3NoLog ?y4NoLog ?y5NoLog ?y6NoLog ?y7NoLog ?y8NoLog ?y9NoLog ?zNoLog ?zNoLogNoJobs ?zNoLogNoRule ?zNoLogNoLengths ?zNoLogNoLog ?zNoLogNoMarks ?zNoLogNoNamed ?zNoLogNoOrder ?zNoLogNoText ?zNoLogNoNumber ?zNoLogNoName ?zNoLogNoUndo ?zNoLogNoLine ?alaw_mix ?llaw_mix ?claw_mix ?klaw_mix ?alaw_pick ?llaw_pick ?claw_pick ?klaw_pick ?alaw_bad_log ?llaw_bad_log ?claw_bad_log ?klaw_bad_log ?alaw_before ?llaw_before ?claw_before ?klaw_before ?alaw_names ?llaw_names ?claw_names ?klaw_names ?alaw_jobs ?llaw_jobs ?claw_jobs ?klaw_jobs ?alaw_present ?llaw_present ?claw_present ?klaw_present ?alaw_log ?llaw_log ?claw_log ?klaw_log ?alaw_is_int ?llaw_is_int ?claw_is_int ?klaw_is_int ?alaw_log_fault ?llaw_log_fault ?claw_log_fault ?klaw_log_fault ?alaw_certificate ?llaw_certificate ?claw_certificate ?klaw_certificate ?alaw_kind ?llaw_kind ?claw_kind ?klaw_kind ?acomes_before ?lcomes_before ?ccomes_before ?kcomes_before ?ais_integer ?lis_integer ?cis_integer ?kis_integer ?ais_arrival ?lis_arrival ?cis_arrival ?kis_arrival ?ais_name ?lis_name ?cis_name ?kis_name ?ais_job ?lis_job ?cis_job ?kis_job ?acheck_jobs ?lcheck_jobs ?ccheck_jobs ?kcheck_jobs ?acheck_log ?lcheck_log ?ccheck_log ?kcheck_log ?ahas_arrived ?lhas_arrived ?chas_arrived ?khas_arrived ?acount_arrived ?lcount_arrived ?ccount_arrived ?kcount_arrived ?apresent_in ?lpresent_in ?cpresent_in ?kpresent_in ?afirst_fault ?lfirst_fault ?cfirst_fault ?kfirst_fault ?alaw_right ?llaw_right ?claw_right ?klaw_right ?alaw_store ?llaw_store ?claw_store ?klaw_store ?alaw ?llaw ?claw ?klaw ?qfirst_fault_processors ?gLETTERS ?gLONGEST_NAME ?gMOST_ENTRY ?zValueError ?zall ?zbool ?zenumerate ?zint ?zisinstance ?zlen ?zlist ?zmax ?zmin ?zrange ?zstr ?ztuple
    (case nNoJobs => k_is)
    (case iNoJobs => k_is)
    (case tNoJobs => k_is)
    (case nNoLengths => k_is)
    (case iNoLengths => k_is)
    (case tNoLengths => k_is)
    (case nNoLine => k_is)
    (case iNoLine => k_is)
    (case tNoLine => k_is)
    (case nNoLog => k_is)
    (case iNoLog => k_is)
    (case tNoLog => k_is)
    (case nNoMarks => k_is)
    (case iNoMarks => k_is)
    (case tNoMarks => k_is)
    (case nNoName => k_is)
    (case iNoName => k_is)
    (case tNoName => k_is)
    (case nNoNamed => k_is)
    (case iNoNamed => k_is)
    (case tNoNamed => k_is)
    (case nNoNumber => k_is)
    (case iNoNumber => k_is)
    (case tNoNumber => k_is)
    (case nNoOrder => k_is)
    (case iNoOrder => k_is)
    (case tNoOrder => k_is)
    (case nNoRule => k_is)
    (case iNoRule => k_is)
    (case tNoRule => k_is)
    (case nNoText => k_is)
    (case iNoText => k_is)
    (case tNoText => k_is)
    (case nNoUndo => k_is)
    (case iNoUndo => k_is)
    (case tNoUndo => k_is)
    (case nSlotError => k_is)
    (case iSlotError => k_is)
    (case tSlotError => k_is)
    (case bSlotError => k_is)
    (case hSlotError => k_is)
    (case sr => k_is)
    (case sg => k_is)
    (case si => k_is)
    (case x0NoJobs => k_is)
    (case x1NoJobs => k_is)
    (case x2NoJobs => k_is)
    (case x3NoJobs => k_is)
    (case x4NoJobs => k_is)
    (case x5NoJobs => k_is)
    (case x6NoJobs => k_is)
    (case x7NoJobs => k_is)
    (case x8NoJobs => k_is)
    (case y0NoJobs => k_is)
    (case y1NoJobs => k_is)
    (case y2NoJobs => k_is)
    (case y3NoJobs => k_is)
    (case y4NoJobs => k_is)
    (case y5NoJobs => k_is)
    (case y6NoJobs => k_is)
    (case y7NoJobs => k_is)
    (case y8NoJobs => k_is)
    (case y9NoJobs => k_is)
    (case zNoJobs => k_is)
    (case zNoJobsNoJobs => k_is)
    (case zNoJobsNoRule => k_is)
    (case zNoJobsNoLengths => k_is)
    (case zNoJobsNoLog => k_is)
    (case zNoJobsNoMarks => k_is)
    (case zNoJobsNoNamed => k_is)
    (case zNoJobsNoOrder => k_is)
    (case zNoJobsNoText => k_is)
    (case zNoJobsNoNumber => k_is)
    (case zNoJobsNoName => k_is)
    (case zNoJobsNoUndo => k_is)
    (case zNoJobsNoLine => k_is)
    (case x0NoLog => k_is)
    (case x1NoLog => k_is)
    (case x2NoLog => k_is)
    (case x3NoLog => k_is)
    (case x4NoLog => k_is)
    (case x5NoLog => k_is)
    (case x6NoLog => k_is)
    (case x7NoLog => k_is)
    (case x8NoLog => k_is)
    (case y0NoLog => k_is)
    (case y1NoLog => k_is)
    (case y2NoLog => k_is)
    (case y3NoLog => k_is)
    (case y4NoLog => k_is)
    (case y5NoLog => k_is)
    (case y6NoLog => k_is)
    (case y7NoLog => k_is)
    (case y8NoLog => k_is)
    (case y9NoLog => k_is)
    (case zNoLog => k_is)
    (case zNoLogNoJobs => k_is)
    (case zNoLogNoRule => k_is)
    (case zNoLogNoLengths => k_is)
    (case zNoLogNoLog => k_is)
    (case zNoLogNoMarks => k_is)
    (case zNoLogNoNamed => k_is)
    (case zNoLogNoOrder => k_is)
    (case zNoLogNoText => k_is)
    (case zNoLogNoNumber => k_is)
    (case zNoLogNoName => k_is)
    (case zNoLogNoUndo => k_is)
    (case zNoLogNoLine => k_is)
    (case alaw_mix => k_is)
    (case llaw_mix => k_is)
    (case claw_mix => k_is)
    (case klaw_mix => k_is)
    (case alaw_pick => k_is)
    (case llaw_pick => k_is)
    (case claw_pick => k_is)
    (case klaw_pick => k_is)
    (case alaw_bad_log => k_is)
    (case llaw_bad_log => k_is)
    (case claw_bad_log => k_is)
    (case klaw_bad_log => k_is)
    (case alaw_before => k_is)
    (case llaw_before => k_is)
    (case claw_before => k_is)
    (case klaw_before => k_is)
    (case alaw_names => k_is)
    (case llaw_names => k_is)
    (case claw_names => k_is)
    (case klaw_names => k_is)
    (case alaw_jobs => k_is)
    (case llaw_jobs => k_is)
    (case claw_jobs => k_is)
    (case klaw_jobs => k_is)
    (case alaw_present => k_is)
    (case llaw_present => k_is)
    (case claw_present => k_is)
    (case klaw_present => k_is)
    (case alaw_log => k_is)
    (case llaw_log => k_is)
    (case claw_log => k_is)
    (case klaw_log => k_is)
    (case alaw_is_int => k_is)
    (case llaw_is_int => k_is)
    (case claw_is_int => k_is)
    (case klaw_is_int => k_is)
    (case alaw_log_fault => k_is)
    (case llaw_log_fault => k_is)
    (case claw_log_fault => k_is)
    (case klaw_log_fault => k_is)
    (case alaw_certificate => k_is)
    (case llaw_certificate => k_is)
    (case claw_certificate => k_is)
    (case klaw_certificate => k_is)
    (case alaw_kind => k_is)
    (case llaw_kind => k_is)
    (case claw_kind => k_is)
    (case klaw_kind => k_is)
    (case acomes_before => k_is)
    (case lcomes_before => k_is)
    (case ccomes_before => k_is)
    (case kcomes_before => k_is)
    (case ais_integer => k_is)
    (case lis_integer => k_is)
    (case cis_integer => k_is)
    (case kis_integer => k_is)
    (case ais_arrival => k_is)
    (case lis_arrival => k_is)
    (case cis_arrival => k_is)
    (case kis_arrival => k_is)
    (case ais_name => k_is)
    (case lis_name => k_is)
    (case cis_name => k_is)
    (case kis_name => k_is)
    (case ais_job => k_is)
    (case lis_job => k_is)
    (case cis_job => k_is)
    (case kis_job => k_is)
    (case acheck_jobs => k_is)
    (case lcheck_jobs => k_is)
    (case ccheck_jobs => k_is)
    (case kcheck_jobs => k_is)
    (case acheck_log => k_is)
    (case lcheck_log => k_is)
    (case ccheck_log => k_is)
    (case kcheck_log => k_is)
    (case ahas_arrived => k_is)
    (case lhas_arrived => k_is)
    (case chas_arrived => k_is)
    (case khas_arrived => k_is)
    (case acount_arrived => k_is)
    (case lcount_arrived => k_is)
    (case ccount_arrived => k_is)
    (case kcount_arrived => k_is)
    (case apresent_in => k_is)
    (case lpresent_in => k_is)
    (case cpresent_in => k_is)
    (case kpresent_in => k_is)
    (case afirst_fault => k_is)
    (case lfirst_fault => k_is)
    (case cfirst_fault => k_is)
    (case kfirst_fault => k_is)
    (case alaw_right => k_is)
    (case llaw_right => k_is)
    (case claw_right => k_is)
    (case klaw_right => k_is)
    (case alaw_store => k_is)
    (case llaw_store => k_is)
    (case claw_store => k_is)
    (case klaw_store => k_is)
    (case alaw => k_is)
    (case llaw => k_is)
    (case claw => k_is)
    (case klaw => k_is)
    (case qfirst_fault_processors => k_is)
    (case gLETTERS => k_is)
    (case gLONGEST_NAME => k_is)
    (case gMOST_ENTRY => k_is)
    (case zValueError => k_is)
    (case zall => k_is)
    (case zbool => k_is)
    (case zenumerate => k_is)
    (case zint => k_is)
    (case zisinstance => k_is)
    (case zlen => k_is)
    (case zlist => k_is)
    (case zmax => k_is)
    (case zmin => k_is)
    (case zrange => k_is)
    (case zstr => k_is)
    (case ztuple => k_is)
#print axioms PySem.Challenge.cw_blindslots_k08_logs_that_are_impossible_holds
