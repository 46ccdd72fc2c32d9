import PyProof.Rows.All
import Wide.All
import OpenK.AllK
import Wide.FinOn
import HandS.ForMost
import HandS.Exc
import HandS.TryOnly
import HandS.ExcOwn
import HandS.IsInst
import HandS.Flow
import HandS.TupAny
import HandS.TupMul
import HandS.Deep
import HandS.Wide
import HandS.Zip
import KE.GoesEnum
import HandS.ExcInit
import HandS.ExcField
import HandS.ExcIs
import HandS.ClsMeth
import HandS.WordsExc
import KE.KExcIs
import HandS.FStr
import HandS.Style
import PyProof.FString2
import HandS.Defaults
import HandS.More
import KE.KxIndex
import PySem.Challenge.RW_blindslots_k06_rules_written_and_read
set_option Elab.async false
set_option linter.all false
set_option maxRecDepth 100000
set_option maxHeartbeats 2000000
namespace DL
open PySem L2

/-- data: tuples and unshared lists by value, shared objects by address -/
inductive D where
  | non | bl (b : Bool) | int (i : Int) | str (s : Str) | tup (ds : List D) | lst (ds : List D) | ref (a : Addr) | lsk (ds : List D)
mutual
inductive R (K : PySem.W.Frag) (F : Hp) : V → D → Prop
  | non : R K F .non .non
  | bl (b : Bool) : R K F (.bl b) (.bl b)
  | int (i : Int) : R K F (.int i) (.int i)
  | str (x : Str) : R K F (.str x) (.str x)
  | tup {a : Addr} {xs : List V} {ds : List D} : SqT K F a xs → Rs K F xs ds → R K F (.ref a) (.tup ds)
  | lst {a : Addr} {xs : List V} {ds : List D} : F a = some (.lst xs) → Rs K F xs ds → R K F (.ref a) (.lst ds)
  | lsk {a : Addr} {xs : List V} {ds : List D} : SqL K F a xs → Rs K F xs ds → R K F (.ref a) (.lsk ds)
  | ref (a : Addr) : R K F (.ref a) (.ref a)
inductive Rs (K : PySem.W.Frag) (F : Hp) : List V → List D → Prop
  | nil : Rs K F [] []
  | cons {v : V} {vs : List V} {d : D} {ds : List D} : R K F v d → Rs K F vs ds → Rs K F (v :: vs) (d :: ds)
end
def Ex (H H' : Hp) : Prop := ∀ a o, H a = some o → H' a = some o
theorem Ex.refl (H : Hp) : Ex H H := fun _ _ h => h
theorem Ex.trans {H H1 H2 : Hp} (a : Ex H H1) (b : Ex H1 H2) : Ex H H2 := fun c o h => b c o (a c o h)
theorem Ex.new {H : Hp} {p : Addr} {o : HO} (h : H p = none) : Ex H (upd H p o) := fun c u e => by
  rw [upd_ne (ne_of_none e h)]; exact e
theorem ex_rd {H H' : Hp} {a : Addr} {u : HO} (e : Ex H H') (h : Rd H a u) : Rd H' a u := by
  rcases h with h | ⟨o, h⟩
  · exact .inl (e _ _ h)
  · exact .inr ⟨o, e _ _ h⟩
theorem ex_t {K : PySem.W.Frag} {H H' : Hp} {a : Addr} {xs : List V} (e : Ex H H') (h : SqT K H a xs) : SqT K H' a xs := by
  rcases h with h | h
  · exact .inl (ex_rd e h)
  · exact .inr h
theorem ex_l {K : PySem.W.Frag} {H H' : Hp} {a : Addr} {xs : List V} (e : Ex H H') (h : SqL K H a xs) : SqL K H' a xs := by
  rcases h with h | h
  · exact .inl (ex_rd e h)
  · exact .inr h
mutual
theorem R.mono {K : PySem.W.Frag} {F F' : Hp} (e : Ex F F') : ∀ {v : V} {d : D}, R K F v d → R K F' v d
  | _, _, .non => .non
  | _, _, .bl b => .bl b
  | _, _, .int i => .int i
  | _, _, .str x => .str x
  | _, _, .tup h r => .tup (ex_t e h) (Rs.mono e r)
  | _, _, .lst h r => .lst (e _ _ h) (Rs.mono e r)
  | _, _, .lsk h r => .lsk (ex_l e h) (Rs.mono e r)
  | _, _, .ref a => .ref a
theorem Rs.mono {K : PySem.W.Frag} {F F' : Hp} (e : Ex F F') : ∀ {vs : List V} {ds : List D}, Rs K F vs ds → Rs K F' vs ds
  | _, _, .nil => .nil
  | _, _, .cons h r => .cons (R.mono e h) (Rs.mono e r)
end
section
variable {K : PySem.W.Frag} {F : Hp}
theorem Rs.length : ∀ {vs : List V} {ds : List D}, Rs K F vs ds → vs.length = ds.length
  | _, _, .nil => rfl
  | _, _, .cons _ r => by rw [List.length_cons, List.length_cons, Rs.length r]
theorem Rs.get : ∀ {vs : List V} {ds : List D} {i : Nat} {d : D}, Rs K F vs ds → ds[i]? = some d → ∃ v, vs[i]? = some v ∧ R K F v d
  | _, _, _, _, .nil, e => by simp at e
  | _, _, 0, _, .cons h _, e => by simp at e; subst e; exact ⟨_, rfl, h⟩
  | _, _, i + 1, d, .cons _ r, e => by
    obtain ⟨v, h1, h2⟩ := Rs.get (i := i) (d := d) r (by simpa using e)
    exact ⟨v, by simpa using h1, h2⟩
theorem Rs.getV : ∀ {vs : List V} {ds : List D} {i : Nat} {v : V}, Rs K F vs ds → vs[i]? = some v → ∃ d, ds[i]? = some d ∧ R K F v d
  | _, _, _, _, .nil, e => by simp at e
  | _, _, 0, _, .cons h _, e => by simp at e; subst e; exact ⟨_, rfl, h⟩
  | _, _, i + 1, v, .cons _ r, e => by
    obtain ⟨d, h1, h2⟩ := Rs.getV (i := i) (v := v) r (by simpa using e)
    exact ⟨d, by simpa using h1, h2⟩
theorem Rs.append : ∀ {vs ws : List V} {ds es : List D}, Rs K F vs ds → Rs K F ws es → Rs K F (vs ++ ws) (ds ++ es)
  | _, _, _, _, .nil, s => s
  | _, _, _, _, .cons h r, s => .cons h (Rs.append r s)
theorem Rs.take : ∀ {vs : List V} {ds : List D} (n : Nat), Rs K F vs ds → Rs K F (vs.take n) (ds.take n)
  | _, _, 0, _ => by simpa using Rs.nil
  | _, _, _ + 1, .nil => by simpa using Rs.nil
  | _, _, n + 1, .cons h r => .cons h (Rs.take n r)
theorem Rs.drop : ∀ {vs : List V} {ds : List D} (n : Nat), Rs K F vs ds → Rs K F (vs.drop n) (ds.drop n)
  | _, _, 0, r => r
  | _, _, _ + 1, .nil => by simpa using Rs.nil
  | _, _, n + 1, .cons _ r => Rs.drop n r
theorem Rs.set {v : V} {d : D} (h : R K F v d) : ∀ {vs : List V} {ds : List D} (i : Nat), Rs K F vs ds → Rs K F (vs.set i v) (ds.set i d)
  | _, _, _, .nil => .nil
  | _, _, 0, .cons _ r => .cons h r
  | _, _, i + 1, .cons q r => .cons q (Rs.set h i r)
theorem Rs.eraseIdx : ∀ {vs : List V} {ds : List D} (i : Nat), Rs K F vs ds → Rs K F (vs.eraseIdx i) (ds.eraseIdx i)
  | _, _, _, .nil => by simpa using Rs.nil
  | _, _, 0, .cons _ r => r
  | _, _, i + 1, .cons q r => .cons q (Rs.eraseIdx i r)
theorem Rs.reverse : ∀ {vs : List V} {ds : List D}, Rs K F vs ds → Rs K F vs.reverse ds.reverse
  | _, _, .nil => by simpa using Rs.nil
  | _, _, .cons h r => by
    rw [List.reverse_cons, List.reverse_cons]
    exact (Rs.reverse r).append (.cons h .nil)
theorem Rs.replicate {vs : List V} {ds : List D} (r : Rs K F vs ds) : ∀ n : Nat, Rs K F (List.replicate n vs).flatten (List.replicate n ds).flatten
  | 0 => by simpa using Rs.nil
  | n + 1 => by
    rw [List.replicate_succ, List.replicate_succ, List.flatten_cons, List.flatten_cons]
    exact r.append (Rs.replicate r n)
theorem R.int_inv {v : V} {i : Int} (h : R K F v (.int i)) : v = .int i := by cases h; rfl
theorem R.bl_inv {v : V} {i : Bool} (h : R K F v (.bl i)) : v = .bl i := by cases h; rfl
theorem R.str_inv {v : V} {i : Str} (h : R K F v (.str i)) : v = .str i := by cases h; rfl
theorem R.non_inv {v : V} (h : R K F v .non) : v = .non := by cases h; rfl
theorem R.ref_inv {v : V} {a : Addr} (h : R K F v (.ref a)) : v = .ref a := by cases h; rfl
theorem R.tup_inv {v : V} {ds : List D} (h : R K F v (.tup ds)) : ∃ a vs, v = .ref a ∧ SqT K F a vs ∧ Rs K F vs ds := by
  cases h with
  | tup h r => exact ⟨_, _, rfl, h, r⟩
theorem R.lst_inv {v : V} {ds : List D} (h : R K F v (.lst ds)) : ∃ a vs, v = .ref a ∧ F a = some (.lst vs) ∧ Rs K F vs ds := by
  cases h with
  | lst h r => exact ⟨_, _, rfl, h, r⟩
theorem R.lsk_inv {v : V} {ds : List D} (h : R K F v (.lsk ds)) : ∃ a vs, v = .ref a ∧ SqL K F a vs ∧ Rs K F vs ds := by
  cases h with
  | lsk h r => exact ⟨_, _, rfl, h, r⟩
theorem Rs.ints : ∀ {vs : List V} {ns : List Int}, Rs K F vs (ns.map D.int) → vs = ns.map V.int
  | _, [], h => by cases h; rfl
  | _, n :: ns, h => by
    cases h with
    | cons a r => rw [a.int_inv, Rs.ints r]; rfl
theorem Rs.bls : ∀ {vs : List V} {ns : List Bool}, Rs K F vs (ns.map D.bl) → vs = ns.map V.bl
  | _, [], h => by cases h; rfl
  | _, n :: ns, h => by
    cases h with
    | cons a r => rw [a.bl_inv, Rs.bls r]; rfl
theorem Rs.strs : ∀ {vs : List V} {ns : List Str}, Rs K F vs (ns.map D.str) → vs = ns.map V.str
  | _, [], h => by cases h; rfl
  | _, n :: ns, h => by
    cases h with
    | cons a r => rw [a.str_inv, Rs.strs r]; rfl
theorem rs_ints : ∀ (ns : List Int), Rs K F (ns.map V.int) (ns.map D.int)
  | [] => .nil
  | n :: ns => .cons (.int n) (rs_ints ns)
end

/-! ### shared objects -/
inductive MO where
  | lst (xs : List D) | ins (C : Addr) (fs : List (Str × D)) | exc (C : Addr) (fs : List (Str × D))
  | dk (kvs : List (Key × D))
abbrev MH := Addr → Option MO
def mu (M : MH) (a : Addr) (o : MO) : MH := fun b => if b = a then some o else M b
theorem mu_same {M : MH} {a : Addr} {o : MO} : mu M a o a = some o := by unfold mu; rw [if_pos rfl]
theorem mu_ne {M : MH} {a b : Addr} {o : MO} (h : b ≠ a) : mu M a o b = M b := by unfold mu; rw [if_neg h]
theorem mu_mu {M : MH} {a : Addr} {o u : MO} : mu (mu M a o) a u = mu M a u := by funext b; unfold mu; split <;> rfl
/-- at a: an exception of the class at C, its own dict at dx -/
def xob (a C dx : Addr) : HO := .ext fun h => ∃ (oe : Obj) (vs : Array Value), h.get? a = some oe ∧ Zc (.ref C) (some dx) oe ∧ oe.data = .fields vs
inductive Fds (K : PySem.W.Frag) (F : Hp) : List (Str × V) → List (Str × D) → Prop
  | nil : Fds K F [] []
  | cons {f : Str} {v : V} {d : D} {fv : List (Str × V)} {fs : List (Str × D)} : R K F v d → Fds K F fv fs → Fds K F ((f, v) :: fv) ((f, d) :: fs)
inductive Kds (K : PySem.W.Frag) (F : Hp) : List (Key × V) → List (Key × D) → Prop
  | nil : Kds K F [] []
  | cons {f : Key} {v : V} {d : D} {fv : List (Key × V)} {fs : List (Key × D)} : R K F v d → Kds K F fv fs → Kds K F ((f, v) :: fv) ((f, d) :: fs)
def MoR (K : PySem.W.Frag) (F H : Hp) (a : Addr) : MO → Prop
  | .lst xs => ∃ vs, H a = some (.lst vs) ∧ Rs K F vs xs
  | .ins C fs => ∃ dx fv, H a = some (.ins C dx fv) ∧ Fds K F fv fs
  | .exc C fs => ∃ dx fv, H a = some (xob a C dx) ∧ F dx = some (.xd fv) ∧ Fds K F fv fs
  | .dk kvs => ∃ kv, H a = some (.dK kv) ∧ Kds K F kv kvs
theorem Fds.mono {K : PySem.W.Frag} {F F' : Hp} (e : Ex F F') : ∀ {fv : List (Str × V)} {fs : List (Str × D)}, Fds K F fv fs → Fds K F' fv fs
  | _, _, .nil => .nil
  | _, _, .cons h r => .cons (h.mono e) (Fds.mono e r)
theorem Kds.mono {K : PySem.W.Frag} {F F' : Hp} (e : Ex F F') : ∀ {fv : List (Key × V)} {fs : List (Key × D)}, Kds K F fv fs → Kds K F' fv fs
  | _, _, .nil => .nil
  | _, _, .cons h r => .cons (h.mono e) (Kds.mono e r)
end DL

set_option Elab.async false
set_option linter.all false
set_option maxRecDepth 100000
set_option maxHeartbeats 2000000
namespace DL
open PySem L2
/-- a slot: a value, or a list that nobody else holds -/
inductive Sl where
  | d (x : D) | own (xs : List D)
def Sl.fz : Sl → D
  | .d x => x
  | .own xs => .lst xs
abbrev DS := List (Option Sl)
/-- the ground: the entry of the def -/
structure Gd where
  K : PySem.W.Frag
  H0 : Hp
  F0 : Hp
  M0 : MH
structure Fra (G : Gd) (F : Hp) (M : MH) (H : Hp) : Prop where
  ex : Ex F H
  ex0 : Ex G.F0 F
  keep : ∀ a o, G.H0 a = some o → G.M0 a = none → H a = some o
  newF : ∀ a, F a ≠ none → G.F0 a ≠ none ∨ G.H0 a = none
  newM : ∀ a, M a ≠ none → G.M0 a ≠ none ∨ G.H0 a = none
  dom : ∀ a, G.H0 a ≠ none → H a ≠ none
  domM : ∀ a, G.M0 a ≠ none → M a ≠ none
  mem : ∀ a mo, M a = some mo → F a = none ∧ MoR G.K F H a mo
def OwnAt (G : Gd) (F : Hp) (M : MH) (H : Hp) (a : Addr) (xs : List D) : Prop :=
  ∃ vs, H a = some (.lst vs) ∧ Rs G.K F vs xs ∧ F a = none ∧ M a = none ∧ G.H0 a = none
/-- the data state stands for the slots and the heap -/
structure Rep (G : Gd) (F : Hp) (δ : DS) (M : MH) (σ : L2.St) (H : Hp) : Prop where
  fr : Fra G F M H
  len : δ.length = σ.length
  val : ∀ (i : Nat) (x : D), δ[i]? = some (some (.d x)) → ∃ v, σ[i]? = some (some v) ∧ R G.K F v x
  own : ∀ (i : Nat) (xs : List D), δ[i]? = some (some (.own xs)) → ∃ a, σ[i]? = some (some (.ref a)) ∧ OwnAt G F M H a xs
  inj : ∀ (i j : Nat) (xs ys : List D) (a : Addr), δ[i]? = some (some (.own xs)) → δ[j]? = some (some (.own ys)) → σ[i]? = some (some (.ref a)) → σ[j]? = some (some (.ref a)) → i = j
/-- a result -/
def SvR (G : Gd) (F : Hp) (δ : DS) (M : MH) (σ : L2.St) (H : Hp) (v : V) : Sl → Prop
  | .d x => R G.K F v x
  | .own xs => ∃ a, v = .ref a ∧ OwnAt G F M H a xs ∧ ∀ (i : Nat) (ys : List D), δ[i]? = some (some (.own ys)) → σ[i]? ≠ some (some (.ref a))
/-- an operand: a value, or an own slot that is looked at -/
def Opn (G : Gd) (F : Hp) (δ : DS) (σ : L2.St) (v : V) (d : D) : Prop :=
  R G.K F v d ∨ ∃ (i : Nat) (xs : List D), δ[i]? = some (some (.own xs)) ∧ σ[i]? = some (some v) ∧ d = .lst xs
abbrev XP := Addr → List (Str × D) → DS → MH → Prop
abbrev DE := DS → MH → (Sl → MH → Prop) → XP → Prop
abbrev DX := DS → MH → (D → MH → Prop) → XP → Prop
abbrev DT := DS → MH → (Bool → MH → Prop) → XP → Prop
abbrev DA := DS → MH → (List D → MH → Prop) → XP → Prop
structure DEnds where
  nx : DS → MH → Prop
  rt : Sl → MH → Prop
  bk : DS → MH → Prop
  ct : DS → MH → Prop
  ex : XP
abbrev DP := DEnds → DS → MH → Prop
/-- what is wished of an exception -/
def XOk (G : Gd) (W : WX) (δ : DS) (σ : L2.St) (Ed : XP) : Prop :=
  ∀ C fs F M H dx fv, Rep G F δ M σ H → H dx = some (.xd fv) → Fds G.K F fv fs → G.H0 dx = none → Ed C fs δ M → W (.ref C) (some dx) σ H
def LE (G : Gd) (W : WX) (td : DE) : TE := fun σ H Q => ∃ F δ M Qd Ed, Rep G F δ M σ H ∧ td δ M Qd Ed ∧
  (∀ r v F' M' H', Rep G F' δ M' σ H' → Ex F F' → SvR G F' δ M' σ H' v r → Qd r M' → Q v H') ∧ XOk G W δ σ Ed
def LV (G : Gd) (W : WX) (td : DX) : TE := fun σ H Q => ∃ F δ M Qd Ed, Rep G F δ M σ H ∧ td δ M Qd Ed ∧
  (∀ d v F' M' H', Rep G F' δ M' σ H' → Ex F F' → R G.K F' v d → Qd d M' → Q v H') ∧ XOk G W δ σ Ed
def LO (G : Gd) (W : WX) (td : DX) : TE := fun σ H Q => ∃ F δ M Qd Ed, Rep G F δ M σ H ∧ td δ M Qd Ed ∧
  (∀ d v F' M' H', Rep G F' δ M' σ H' → Ex F F' → Opn G F' δ σ v d → Qd d M' → Q v H') ∧ XOk G W δ σ Ed
def LT (G : Gd) (W : WX) (td : DT) : TT := fun σ H Q => ∃ F δ M Qd Ed, Rep G F δ M σ H ∧ td δ M Qd Ed ∧
  (∀ b F' M' H', Rep G F' δ M' σ H' → Ex F F' → Qd b M' → Q b H') ∧ XOk G W δ σ Ed
def LA (G : Gd) (W : WX) (td : DA) : TA := fun σ H Q => ∃ F δ M Qd Ed, Rep G F δ M σ H ∧ td δ M Qd Ed ∧
  (∀ ds vs F' M' H', Rep G F' δ M' σ H' → Ex F F' → Rs G.K F' vs ds → Qd ds M' → Q vs H') ∧ XOk G W δ σ Ed
/-- operands in a row -/
inductive Opns (G : Gd) (F : Hp) (δ : DS) (σ : L2.St) : List V → List D → Prop
  | nil : Opns G F δ σ [] []
  | cons {v : V} {d : D} {vs : List V} {ds : List D} : Opn G F δ σ v d → Opns G F δ σ vs ds → Opns G F δ σ (v :: vs) (d :: ds)
def LAO (G : Gd) (W : WX) (td : DA) : TA := fun σ H Q => ∃ F δ M Qd Ed, Rep G F δ M σ H ∧ td δ M Qd Ed ∧
  (∀ ds vs F' M' H', Rep G F' δ M' σ H' → Ex F F' → Opns G F' δ σ vs ds → Qd ds M' → Q vs H') ∧ XOk G W δ σ Ed
def RetR (G : Gd) (F : Hp) (M : MH) (H : Hp) (v : V) : Sl → Prop
  | .d x => R G.K F v x
  | .own xs => ∃ a, v = .ref a ∧ OwnAt G F M H a xs
structure EndsOk (G : Gd) (W : WX) (F1 : Hp) (D : Ends) (E : DEnds) : Prop where
  nx : ∀ F δ M σ H, Rep G F δ M σ H → Ex F1 F → E.nx δ M → D.nx σ H
  rt : ∀ r v F M H, Fra G F M H → RetR G F M H v r → E.rt r M → D.rt v H
  bk : ∀ F δ M σ H, Rep G F δ M σ H → Ex F1 F → E.bk δ M → D.bk σ H
  ct : ∀ F δ M σ H, Rep G F δ M σ H → Ex F1 F → E.ct δ M → D.ct σ H
  ex : ∀ δ σ, XOk G W δ σ E.ex
def LS (G : Gd) (W : WX) (td : DP) : TS := fun D σ H => ∃ F δ M E, Rep G F δ M σ H ∧ td E δ M ∧ EndsOk G W F D E

theorem pe_imp {X : Cx} {e : Expr} {t t' : TE} (h : PE X e t) (k : ∀ σ H Q, t' σ H Q → t σ H Q) : PE X e t' := ⟨fun pins s σ H Q I z => h.run pins s σ H Q I (k σ H Q z)⟩
theorem pt_imp {X : Cx} {e : Expr} {t t' : TT} (h : PT X e t) (k : ∀ σ H Q, t' σ H Q → t σ H Q) : PT X e t' := ⟨fun pins s σ H Q I z => h.run pins s σ H Q I (k σ H Q z)⟩
theorem pw_imp {X : Cx} {e : Expr} {t t' : TT} (h : PW X e t) (k : ∀ σ H Q, t' σ H Q → t σ H Q) : PW X e t' := ⟨fun whole pins s σ H Q I z => h.run whole pins s σ H Q I (k σ H Q z)⟩
theorem pa_imp {X : Cx} {e : List Expr} {t t' : TA} (h : PA X e t) (k : ∀ σ H Q, t' σ H Q → t σ H Q) : PA X e t' := ⟨fun pos pins s σ H Q I z => h.run pos pins s σ H Q I (k σ H Q z)⟩
theorem ps_imp {X : Cx} {st : Stmt} {t t' : TS} (h : PS X st t) (k : ∀ D σ H, t' D σ H → t D σ H) : PS X st t' := ⟨fun pins s σ H D I z => h.run pins s σ H D I (k D σ H z)⟩
theorem pss_imp {X : Cx} {st : List Stmt} {t t' : TS} (h : PSs X st t) (k : ∀ D σ H, t' D σ H → t D σ H) : PSs X st t' := ⟨fun pins s σ H D I z => h.run pins s σ H D I (k D σ H z)⟩

/-! ### how the heap may change -/
section
variable {G : Gd} {F F' : Hp} {δ : DS} {M M' : MH} {σ : L2.St} {H H' : Hp} {a p : Addr} {v : V} {d : D} {xs : List D} {o : HO} {i : Nat}
theorem MoR.mono {mo : MO} (e : Ex F F') (h : MoR G.K F H a mo) (k : H' a = H a) (k2 : ∀ b fv, H b = some (.xd fv) → H' b = H b) : MoR G.K F' H' a mo := by
  cases mo with
  | lst xs => obtain ⟨vs, h1, h2⟩ := h; exact ⟨vs, by rw [k, h1], h2.mono e⟩
  | ins C fs => obtain ⟨dx, fv, h1, h2⟩ := h; exact ⟨dx, fv, by rw [k, h1], h2.mono e⟩
  | exc C fs => obtain ⟨dx, fv, h1, h2, h3⟩ := h; exact ⟨dx, fv, by rw [k, h1], e _ _ h2, h3.mono e⟩
  | dk kvs => obtain ⟨kv, h1, h2⟩ := h; exact ⟨kv, by rw [k, h1], h2.mono e⟩
theorem OwnAt.mono (e : Ex F F') (h : OwnAt G F M H a xs) (k : H' a = H a) (f : F' a = none) (m : M' a = none) : OwnAt G F' M' H' a xs := by
  obtain ⟨vs, h1, h2, h3, h4, h5⟩ := h
  exact ⟨vs, by rw [k, h1], h2.mono e, f, m, h5⟩
theorem Fra.h0 (r : Fra G F M H) (h : H p = none) : G.H0 p = none := by
  cases e : G.H0 p with
  | none => rfl
  | some o => exact absurd h (r.dom p (by rw [e]; simp))
theorem Fra.f_none (r : Fra G F M H) (h : H p = none) : F p = none := by
  cases e : F p with
  | none => rfl
  | some o => rw [r.ex _ _ e] at h; cases h
theorem MoR.some_h {mo : MO} {K : PySem.W.Frag} (h : MoR K F H a mo) : ∃ o, H a = some o := by
  cases mo with
  | lst xs => obtain ⟨vs, h1, h2⟩ := h; exact ⟨_, h1⟩
  | ins C fs => obtain ⟨dx, fv, h1, h2⟩ := h; exact ⟨_, h1⟩
  | exc C fs => obtain ⟨dx, fv, h1, h2, h3⟩ := h; exact ⟨_, h1⟩
  | dk kvs => obtain ⟨kv, h1, h2⟩ := h; exact ⟨_, h1⟩

theorem Fra.m_none (r : Fra G F M H) (h : H p = none) : M p = none := by
  cases e : M p with
  | none => rfl
  | some mo =>
    obtain ⟨o, ho⟩ := (r.mem p mo e).2.some_h
    rw [h] at ho; cases ho
theorem getSet {α : Type} {l : List α} {i j : Nat} {x y : α} (h : (l.set i x)[j]? = some y) : (j = i ∧ y = x) ∨ (j ≠ i ∧ l[j]? = some y) := by
  rw [List.getElem?_set] at h
  by_cases e : i = j
  · rw [if_pos e] at h
    split at h
    · exact .inl ⟨e.symm, (Option.some.inj h).symm⟩
    · cases h
  · rw [if_neg e] at h
    exact .inr ⟨fun z => e z.symm, h⟩
theorem setNe {α : Type} {l : List α} {i j : Nat} {x : α} (h : j ≠ i) : (l.set i x)[j]? = l[j]? := by
  rw [List.getElem?_set, if_neg (fun z => h z.symm)]
theorem setSame {α : Type} {l : List α} {i : Nat} {x : α} (h : i < l.length) : (l.set i x)[i]? = some x := by
  rw [List.getElem?_set, if_pos rfl, if_pos h]
theorem lt_of_get {α : Type} {l : List α} {i : Nat} {x : α} (h : l[i]? = some x) : i < l.length := (List.getElem?_eq_some_iff.mp h).1
theorem Ex.upd2 (e : Ex F H) (o : HO) : Ex (upd F p o) (upd H p o) := fun b u h => by
  by_cases hb : b = p
  · subst hb; rw [upd_same] at h ⊢; exact h
  · rw [upd_ne hb] at h ⊢; exact e b u h
theorem Ex.updR (e : Ex F H) (h : F p = none) (o : HO) : Ex F (upd H p o) := fun b u z => by
  rw [upd_ne (ne_of_none z h)]; exact e b u z
/-- a new object, frozen | at large -/
theorem Fra.addF (r : Fra G F M H) (h : H p = none) : Fra G (upd F p o) M (upd H p o) where
  ex := r.ex.upd2 o
  ex0 := r.ex0.trans (Ex.new (r.f_none h))
  keep := fun b u e m => by rw [upd_ne (ne_of_none (r.keep b u e m) h)]; exact r.keep b u e m
  newF := fun b e => by
    by_cases hb : b = p
    · subst hb; exact .inr (r.h0 h)
    · rw [upd_ne hb] at e; exact r.newF b e
  newM := r.newM
  dom := fun b e => by
    by_cases hb : b = p
    · subst hb; rw [upd_same]; simp
    · rw [upd_ne hb]; exact r.dom b e
  domM := r.domM
  mem := fun b mo e => by
    have hb : b ≠ p := fun z => by rw [z, r.m_none h] at e; cases e
    obtain ⟨q1, q2⟩ := r.mem b mo e
    exact ⟨by rw [upd_ne hb]; exact q1, q2.mono (Ex.new (r.f_none h)) (upd_ne hb) fun c fv z => upd_ne (ne_of_none z h)⟩
theorem Fra.addH (r : Fra G F M H) (h : H p = none) : Fra G F M (upd H p o) where
  ex := r.ex.updR (r.f_none h) o
  ex0 := r.ex0
  keep := fun b u e m => by rw [upd_ne (ne_of_none (r.keep b u e m) h)]; exact r.keep b u e m
  newF := r.newF
  newM := r.newM
  dom := fun b e => by
    by_cases hb : b = p
    · subst hb; rw [upd_same]; simp
    · rw [upd_ne hb]; exact r.dom b e
  domM := r.domM
  mem := fun b mo e => by
    have hb : b ≠ p := fun z => by rw [z, r.m_none h] at e; cases e
    obtain ⟨q1, q2⟩ := r.mem b mo e
    exact ⟨q1, q2.mono (Ex.refl F) (upd_ne hb) fun c fv z => upd_ne (ne_of_none z h)⟩
theorem Rep.addF (r : Rep G F δ M σ H) (h : H p = none) (o : HO) : Rep G (upd F p o) δ M σ (upd H p o) where
  fr := r.fr.addF h
  len := r.len
  val := fun i x e => by
    obtain ⟨v, h1, h2⟩ := r.val i x e
    exact ⟨v, h1, h2.mono (Ex.new (r.fr.f_none h))⟩
  own := fun i xs e => by
    obtain ⟨a, h1, h2⟩ := r.own i xs e
    obtain ⟨vs, q, h3, h4, h5, h6⟩ := id h2
    have hb : a ≠ p := ne_of_none q h
    exact ⟨a, h1, h2.mono (Ex.new (r.fr.f_none h)) (upd_ne hb) (by rw [upd_ne hb]; exact h4) h5⟩
  inj := r.inj
theorem Rep.addH (r : Rep G F δ M σ H) (h : H p = none) (o : HO) : Rep G F δ M σ (upd H p o) where
  fr := r.fr.addH h
  len := r.len
  val := r.val
  own := fun i xs e => by
    obtain ⟨a, h1, h2⟩ := r.own i xs e
    obtain ⟨vs, q, h3, h4, h5, h6⟩ := id h2
    have hb : a ≠ p := ne_of_none q h
    exact ⟨a, h1, h2.mono (Ex.refl F) (upd_ne hb) h4 h5⟩
  inj := r.inj
theorem Rep.addOwn (r : Rep G F δ M σ H) (h : H p = none) {vs : List V} (rs : Rs G.K F vs xs) : SvR G F δ M σ (upd H p (.lst vs)) (.ref p) (.own xs) :=
  ⟨p, rfl, ⟨vs, upd_same, rs, r.fr.f_none h, r.fr.m_none h, r.fr.h0 h⟩, fun i ys e q => by
    obtain ⟨a, h1, vs', h2, _⟩ := r.own i ys e
    rw [q] at h1
    cases h1
    rw [h] at h2; cases h2⟩
/-- a list that nobody holds is let go of as a value -/
theorem Fra.frz (r : Fra G F M H) (h : OwnAt G F M H a xs) : ∃ F', Fra G F' M H ∧ Ex F F' ∧ R G.K F' (.ref a) (.lst xs) ∧ ∀ b, b ≠ a → F' b = F b := by
  obtain ⟨vs, h1, h2, h3, h4, h5⟩ := h
  have e : Ex F (upd F a (.lst vs)) := Ex.new h3
  refine ⟨upd F a (.lst vs), ⟨fun b u z => ?_, r.ex0.trans e, r.keep, fun b z => ?_, r.newM, r.dom, r.domM, fun b mo z => ?_⟩, e, .lst upd_same (h2.mono e), fun b hb => upd_ne hb⟩
  · by_cases hb : b = a
    · subst hb; rw [upd_same] at z; rw [h1]; exact z
    · rw [upd_ne hb] at z; exact r.ex b u z
  · by_cases hb : b = a
    · subst hb; exact .inr h5
    · rw [upd_ne hb] at z; exact r.newF b z
  · have hb : b ≠ a := fun q => by rw [q, h4] at z; cases z
    obtain ⟨q1, q2⟩ := r.mem b mo z
    exact ⟨by rw [upd_ne hb]; exact q1, q2.mono e rfl fun _ _ _ => rfl⟩
theorem Rep.frz (r : Rep G F δ M σ H) (h : SvR G F δ M σ H v (.own xs)) : ∃ F', Rep G F' δ M σ H ∧ Ex F F' ∧ R G.K F' v (.lst xs) := by
  obtain ⟨a, rfl, h1, h2⟩ := h
  obtain ⟨F', f1, e, f2, f3⟩ := r.fr.frz h1
  refine ⟨F', ⟨f1, r.len, fun i x z => ?_, fun i ys z => ?_, r.inj⟩, e, f2⟩
  · obtain ⟨v, q1, q2⟩ := r.val i x z
    exact ⟨v, q1, q2.mono e⟩
  · obtain ⟨b, q1, q2⟩ := r.own i ys z
    have hb : b ≠ a := fun q => h2 i ys z (by rw [q1, q])
    obtain ⟨vs, q3, q4, q5, q6, q7⟩ := id q2
    exact ⟨b, q1, q2.mono e rfl (by rw [f3 b hb]; exact q5) q6⟩
theorem Rep.frzAny (r : Rep G F δ M σ H) {x : Sl} (h : SvR G F δ M σ H v x) : ∃ F', Rep G F' δ M σ H ∧ Ex F F' ∧ R G.K F' v x.fz := by
  cases x with
  | d x => exact ⟨F, r, Ex.refl F, h⟩
  | own xs => exact r.frz h
/-! ### slots -/
theorem Rep.setD (r : Rep G F δ M σ H) (h : R G.K F v d) : Rep G F (δ.set i (some (.d d))) M (σ.set i (some v)) H where
  fr := r.fr
  len := by rw [List.length_set, List.length_set]; exact r.len
  val := fun j x e => by
    rcases getSet e with ⟨e1, e2⟩ | ⟨e1, e2⟩
    · cases e2
      have hl : j < δ.length := by have := lt_of_get e; rw [List.length_set] at this; exact this
      exact ⟨v, by rw [e1]; exact setSame (by rw [← r.len, ← e1]; exact hl), h⟩
    · rw [setNe e1]; exact r.val j x e2
  own := fun j xs e => by
    rcases getSet e with ⟨e1, e2⟩ | ⟨e1, e2⟩
    · cases e2
    · rw [setNe e1]; exact r.own j xs e2
  inj := fun j k xs ys a e1 e2 e3 e4 => by
    rcases getSet e1 with ⟨z1, z2⟩ | ⟨z1, z2⟩
    · cases z2
    rcases getSet e2 with ⟨y1, y2⟩ | ⟨y1, y2⟩
    · cases y2
    rw [setNe z1] at e3
    rw [setNe y1] at e4
    exact r.inj j k xs ys a z2 y2 e3 e4
theorem Rep.setOwn (r : Rep G F δ M σ H) (h : SvR G F δ M σ H v (.own xs)) : Rep G F (δ.set i (some (.own xs))) M (σ.set i (some v)) H := by
  obtain ⟨a, rfl, h1, h2⟩ := h
  refine ⟨r.fr, by rw [List.length_set, List.length_set]; exact r.len, fun j x e => ?_, fun j ys e => ?_, fun j k ys zs b e1 e2 e3 e4 => ?_⟩
  · rcases getSet e with ⟨e1, e2⟩ | ⟨e1, e2⟩
    · cases e2
    · rw [setNe e1]; exact r.val j x e2
  · rcases getSet e with ⟨e1, e2⟩ | ⟨e1, e2⟩
    · cases e2
      have hl : j < δ.length := by have := lt_of_get e; rw [List.length_set] at this; exact this
      exact ⟨a, by rw [e1]; exact setSame (by rw [← r.len, ← e1]; exact hl), h1⟩
    · rw [setNe e1]; exact r.own j ys e2
  · have hl : ∀ {m : Nat} {u : Option Sl}, (δ.set i (some (.own xs)))[m]? = some u → m < σ.length := fun {m u} z => by
      have := lt_of_get z; rw [List.length_set, r.len] at this; exact this
    rcases getSet e1 with ⟨z1, z2⟩ | ⟨z1, z2⟩
    · rcases getSet e2 with ⟨y1, y2⟩ | ⟨y1, y2⟩
      · exact z1.trans y1.symm
      · rw [z1, setSame (by rw [← z1]; exact hl e1)] at e3
        cases e3
        rw [setNe y1] at e4
        exact absurd e4 (h2 k zs y2)
    · rcases getSet e2 with ⟨y1, y2⟩ | ⟨y1, y2⟩
      · rw [y1, setSame (by rw [← y1]; exact hl e2)] at e4
        cases e4
        rw [setNe z1] at e3
        exact absurd e3 (h2 j ys z2)
      · rw [setNe z1] at e3
        rw [setNe y1] at e4
        exact r.inj j k ys zs b z2 y2 e3 e4
theorem Rep.setAny (r : Rep G F δ M σ H) {x : Sl} (h : SvR G F δ M σ H v x) : Rep G F (δ.set i (some x)) M (σ.set i (some v)) H := by
  cases x with
  | d x => exact r.setD h
  | own xs => exact r.setOwn h
/-- a slot's word, another one for the same value -/
theorem Rep.reD (r : Rep G F δ M σ H) (hi : σ[i]? = some (some v)) (h : R G.K F v d) : Rep G F (δ.set i (some (.d d))) M σ H := by
  have q := r.setD (i := i) h
  have e : σ.set i (some v) = σ := by
    apply List.ext_getElem?
    intro j
    by_cases hj : j = i
    · subst hj; rw [setSame (lt_of_get hi), hi]
    · rw [setNe hj]
  rw [e] at q
  exact q
theorem Rep.setNone (r : Rep G F δ M σ H) {y : Option V} : Rep G F (δ.set i none) M (σ.set i y) H where
  fr := r.fr
  len := by rw [List.length_set, List.length_set]; exact r.len
  val := fun j x e => by
    rcases getSet e with ⟨e1, e2⟩ | ⟨e1, e2⟩
    · cases e2
    · rw [setNe e1]; exact r.val j x e2
  own := fun j xs e => by
    rcases getSet e with ⟨e1, e2⟩ | ⟨e1, e2⟩
    · cases e2
    · rw [setNe e1]; exact r.own j xs e2
  inj := fun j k xs ys a e1 e2 e3 e4 => by
    rcases getSet e1 with ⟨z1, z2⟩ | ⟨z1, z2⟩
    · cases z2
    rcases getSet e2 with ⟨y1, y2⟩ | ⟨y1, y2⟩
    · cases y2
    rw [setNe z1] at e3
    rw [setNe y1] at e4
    exact r.inj j k xs ys a z2 y2 e3 e4
/-- forgetting a slot's word -/
theorem Rep.forget (r : Rep G F δ M σ H) : Rep G F (δ.set i none) M σ H where
  fr := r.fr
  len := by rw [List.length_set]; exact r.len
  val := fun j x e => by
    rcases getSet e with ⟨e1, e2⟩ | ⟨e1, e2⟩
    · cases e2
    · exact r.val j x e2
  own := fun j xs e => by
    rcases getSet e with ⟨e1, e2⟩ | ⟨e1, e2⟩
    · cases e2
    · exact r.own j xs e2
  inj := fun j k xs ys a e1 e2 e3 e4 => by
    rcases getSet e1 with ⟨z1, z2⟩ | ⟨z1, z2⟩
    · cases z2
    rcases getSet e2 with ⟨y1, y2⟩ | ⟨y1, y2⟩
    · cases y2
    exact r.inj j k xs ys a z2 y2 e3 e4
/-- an own slot is let go of as a value -/
theorem Rep.frzSlot (r : Rep G F δ M σ H) (hi : δ[i]? = some (some (.own xs))) : ∃ F', Rep G F' (δ.set i (some (.d (.lst xs)))) M σ H ∧ Ex F F' := by
  obtain ⟨a, h1, h2⟩ := r.own i xs hi
  have r1 := r.forget (i := i)
  obtain ⟨F', q1, q2, q3⟩ := r1.frz (v := .ref a) (xs := xs) ⟨a, rfl, h2, fun j ys e q => by
    rcases getSet e with ⟨e1, e2⟩ | ⟨e1, e2⟩
    · cases e2
    · exact e1 (r.inj j i ys xs a e2 hi q h1)⟩
  have q4 := q1.reD h1 q3
  rw [List.set_set] at q4
  exact ⟨F', q4, q2⟩
/-! ### changes -/
theorem Fra.chgM (r : Fra G F M H) {mo mo' : MO} (hm : M a = some mo) (hx : ∀ fv, H a ≠ some (.xd fv)) (h : MoR G.K F (upd H a o) a mo') : Fra G F (mu M a mo') (upd H a o) where
  ex := r.ex.updR (r.mem a mo hm).1 o
  ex0 := r.ex0
  keep := fun b u e m => by
    have hb : b ≠ a := fun z => by
      subst z
      rcases r.newM b (by rw [hm]; simp) with q | q
      · exact q m
      · rw [q] at e; cases e
    rw [upd_ne hb]; exact r.keep b u e m
  newF := r.newF
  newM := fun b e => by
    by_cases hb : b = a
    · subst hb; exact r.newM b (by rw [hm]; simp)
    · rw [mu_ne hb] at e; exact r.newM b e
  dom := fun b e => by
    by_cases hb : b = a
    · subst hb; rw [upd_same]; simp
    · rw [upd_ne hb]; exact r.dom b e
  domM := fun b e => by
    by_cases hb : b = a
    · subst hb; rw [mu_same]; simp
    · rw [mu_ne hb]; exact r.domM b e
  mem := fun b mo2 e => by
    by_cases hb : b = a
    · subst hb
      rw [mu_same] at e
      cases e
      exact ⟨(r.mem b mo hm).1, h⟩
    · rw [mu_ne hb] at e
      obtain ⟨q1, q2⟩ := r.mem b mo2 e
      exact ⟨q1, q2.mono (Ex.refl F) (upd_ne hb) fun c fv z => upd_ne (fun y => hx fv (by rw [← y]; exact z))⟩

theorem Rep.chgM (r : Rep G F δ M σ H) {mo mo' : MO} (hm : M a = some mo) (hx : ∀ fv, H a ≠ some (.xd fv)) (h : MoR G.K F (upd H a o) a mo') : Rep G F δ (mu M a mo') σ (upd H a o) where
  fr := r.fr.chgM hm hx h
  len := r.len
  val := r.val
  own := fun i xs e => by
    obtain ⟨b, h1, h2⟩ := r.own i xs e
    obtain ⟨vs, q, h3, h4, h5, h6⟩ := id h2
    have hb : b ≠ a := fun z => by rw [z, hm] at h5; cases h5
    exact ⟨b, h1, h2.mono (Ex.refl F) (upd_ne hb) h4 (by rw [mu_ne hb]; exact h5)⟩
  inj := r.inj
/-- a new shared object -/
theorem Fra.addM (r : Fra G F M H) (hp : H p = none) {mo : MO} (h : MoR G.K F (upd H p o) p mo) : Fra G F (mu M p mo) (upd H p o) where
  ex := r.ex.updR (r.f_none hp) o
  ex0 := r.ex0
  keep := fun b u e m => by rw [upd_ne (ne_of_none (r.keep b u e m) hp)]; exact r.keep b u e m
  newF := r.newF
  newM := fun b e => by
    by_cases hb : b = p
    · subst hb; exact .inr (r.h0 hp)
    · rw [mu_ne hb] at e; exact r.newM b e
  dom := fun b e => by
    by_cases hb : b = p
    · subst hb; rw [upd_same]; simp
    · rw [upd_ne hb]; exact r.dom b e
  domM := fun b e => by
    by_cases hb : b = p
    · subst hb; rw [mu_same]; simp
    · rw [mu_ne hb]; exact r.domM b e
  mem := fun b mo2 e => by
    by_cases hb : b = p
    · subst hb
      rw [mu_same] at e
      cases e
      exact ⟨r.f_none hp, h⟩
    · rw [mu_ne hb] at e
      obtain ⟨q1, q2⟩ := r.mem b mo2 e
      exact ⟨q1, q2.mono (Ex.refl F) (upd_ne hb) fun c fv z => upd_ne (ne_of_none z hp)⟩
theorem Rep.addM (r : Rep G F δ M σ H) (hp : H p = none) {mo : MO} (h : MoR G.K F (upd H p o) p mo) : Rep G F δ (mu M p mo) σ (upd H p o) where
  fr := r.fr.addM hp h
  len := r.len
  val := r.val
  own := fun i xs e => by
    obtain ⟨b, h1, h2⟩ := r.own i xs e
    obtain ⟨vs, q, h3, h4, h5, h6⟩ := id h2
    have hb : b ≠ p := ne_of_none q hp
    exact ⟨b, h1, h2.mono (Ex.refl F) (upd_ne hb) h4 (by rw [mu_ne hb]; exact h5)⟩
  inj := r.inj
/-- an object that stands in H, nobody's, becomes a shared one -/
theorem Fra.adopt (r : Fra G F M H) (f : F a = none) (h0 : G.H0 a = none) {mo : MO} (h : MoR G.K F H a mo) : Fra G F (mu M a mo) H where
  ex := r.ex
  ex0 := r.ex0
  keep := r.keep
  newF := r.newF
  newM := fun b e => by
    by_cases hb : b = a
    · subst hb; exact .inr h0
    · rw [mu_ne hb] at e; exact r.newM b e
  dom := r.dom
  domM := fun b e => by
    by_cases hb : b = a
    · subst hb; rw [mu_same]; simp
    · rw [mu_ne hb]; exact r.domM b e
  mem := fun b mo2 e => by
    by_cases hb : b = a
    · subst hb
      rw [mu_same] at e
      cases e
      exact ⟨f, h⟩
    · rw [mu_ne hb] at e
      exact r.mem b mo2 e
/-- an own list becomes a shared one -/
theorem Rep.shareRes (r : Rep G F δ M σ H) (h : SvR G F δ M σ H v (.own xs)) : ∃ a, v = .ref a ∧ M a = none ∧ G.H0 a = none ∧ Rep G F δ (mu M a (.lst xs)) σ H := by
  obtain ⟨a, rfl, h1, h2⟩ := h
  obtain ⟨vs, q, h3, h4, h5, h6⟩ := h1
  refine ⟨a, rfl, h5, h6, r.fr.adopt h4 h6 ⟨vs, q, h3⟩, r.len, r.val, fun i ys e => ?_, r.inj⟩
  obtain ⟨b, g1, g2⟩ := r.own i ys e
  have hb : b ≠ a := fun z => h2 i ys e (by rw [g1, z])
  obtain ⟨ws, g3, g4, g5, g6, g7⟩ := id g2
  exact ⟨b, g1, g2.mono (Ex.refl F) rfl g5 (by rw [mu_ne hb]; exact g6)⟩
theorem Rep.shareSlot (r : Rep G F δ M σ H) (hi : δ[i]? = some (some (.own xs))) : ∃ a, M a = none ∧ G.H0 a = none ∧ Rep G F (δ.set i (some (.d (.ref a)))) (mu M a (.lst xs)) σ H := by
  obtain ⟨a, h1, h2⟩ := r.own i xs hi
  have r1 := r.forget (i := i)
  obtain ⟨b, e, q1, q2, q3⟩ := r1.shareRes (v := .ref a) (xs := xs) ⟨a, rfl, h2, fun j ys e q => by
    rcases getSet e with ⟨e1, e2⟩ | ⟨e1, e2⟩
    · cases e2
    · exact e1 (r.inj j i ys xs a e2 hi q h1)⟩
  cases e
  have q4 := q3.reD h1 (.ref a)
  rw [List.set_set] at q4
  exact ⟨a, q1, q2, q4⟩
/-- an own list is changed -/
theorem Rep.chgOwn (r : Rep G F δ M σ H) (hi : δ[i]? = some (some (.own xs))) (hs : σ[i]? = some (some (.ref a))) {vs' : List V} {xs' : List D} (h : Rs G.K F vs' xs') :
    Rep G F (δ.set i (some (.own xs'))) M σ (upd H a (.lst vs')) := by
  obtain ⟨b, h1, vs, q, h3, h4, h5, h6⟩ := r.own i xs hi
  rw [hs] at h1
  cases h1
  have hx : ∀ c fv, H c = some (.xd fv) → c ≠ a := fun c fv z y => by rw [y, q] at z; cases z
  refine ⟨⟨r.fr.ex.updR h4 _, r.fr.ex0, fun b u e m => ?_, r.fr.newF, r.fr.newM, fun b e => ?_, r.fr.domM, fun b mo e => ?_⟩, by rw [List.length_set]; exact r.len, fun j x e => ?_, fun j ys e => ?_, fun j k ys zs c e1 e2 e3 e4 => ?_⟩
  · have hb : b ≠ a := fun z => by rw [z, h6] at e; cases e
    rw [upd_ne hb]; exact r.fr.keep b u e m
  · by_cases hb : b = a
    · subst hb; rw [upd_same]; simp
    · rw [upd_ne hb]; exact r.fr.dom b e
  · have hb : b ≠ a := fun z => by rw [z, h5] at e; cases e
    obtain ⟨q1, q2⟩ := r.fr.mem b mo e
    exact ⟨q1, q2.mono (Ex.refl F) (upd_ne hb) fun c fv z => upd_ne (hx c fv z)⟩
  · rcases getSet e with ⟨e1, e2⟩ | ⟨e1, e2⟩
    · cases e2
    · exact r.val j x e2
  · rcases getSet e with ⟨e1, e2⟩ | ⟨e1, e2⟩
    · cases e2
      exact ⟨a, by rw [e1]; exact hs, vs', upd_same, h, h4, h5, h6⟩
    · obtain ⟨b, g1, g2⟩ := r.own j ys e2
      have hb : b ≠ a := fun z => e1 (r.inj j i ys xs b e2 hi g1 (by rw [hs, z]))
      obtain ⟨ws, g3, g4, g5, g6, g7⟩ := id g2
      exact ⟨b, g1, g2.mono (Ex.refl F) (upd_ne hb) g5 g6⟩
  · have hl : ∀ {m : Nat} {ys : List D}, (δ.set i (some (.own xs')))[m]? = some (some (.own ys)) → ∃ zs, δ[m]? = some (some (.own zs)) := fun {m ys} z => by
      rcases getSet z with ⟨e1, e2⟩ | ⟨e1, e2⟩
      · exact ⟨xs, by rw [e1]; exact hi⟩
      · exact ⟨ys, e2⟩
    obtain ⟨y1, q1⟩ := hl e1
    obtain ⟨y2, q2⟩ := hl e2
    exact r.inj j k y1 y2 c q1 q2 e3 e4
/-! ### operands -/
theorem Opn.mono (h : Opn G F δ σ v d) (e : Ex F F') : Opn G F' δ σ v d := by
  rcases h with h | ⟨i, xs, h1, h2, h3⟩
  · exact .inl (h.mono e)
  · exact .inr ⟨i, xs, h1, h2, h3⟩
theorem Opns.mono (e : Ex F F') : ∀ {vs : List V} {ds : List D}, Opns G F δ σ vs ds → Opns G F' δ σ vs ds
  | _, _, .nil => .nil
  | _, _, .cons h r => .cons (h.mono e) (Opns.mono e r)
theorem Opn.lst (h : Opn G F δ σ v (.lst xs)) (r : Rep G F δ M σ H) : ∃ a vs, v = .ref a ∧ H a = some (.lst vs) ∧ Rs G.K F vs xs := by
  rcases h with h | ⟨i, ys, h1, h2, h3⟩
  · obtain ⟨a, vs, e, h1, h2⟩ := h.lst_inv
    exact ⟨a, vs, e, r.fr.ex _ _ h1, h2⟩
  · cases h3
    obtain ⟨a, q1, vs, q2, q3, _⟩ := r.own i _ h1
    rw [q1] at h2
    cases h2
    exact ⟨a, vs, rfl, q2, q3⟩
theorem Opn.val (h : Opn G F δ σ v d) (hd : ∀ xs, d ≠ .lst xs) : R G.K F v d := by
  rcases h with h | ⟨i, ys, h1, h2, h3⟩
  · exact h
  · exact absurd h3 (hd _)
theorem Opn.tup (h : Opn G F δ σ v (.tup xs)) (r : Rep G F δ M σ H) : ∃ a vs, v = .ref a ∧ SqT G.K H a vs ∧ Rs G.K F vs xs := by
  obtain ⟨a, vs, e, h1, h2⟩ := (h.val (fun _ z => by cases z)).tup_inv
  exact ⟨a, vs, e, ex_t r.fr.ex h1, h2⟩
end
end DL

set_option Elab.async false
set_option linter.all false
set_option maxRecDepth 100000
set_option maxHeartbeats 2000000
namespace DL
open PySem L2
/-! ### expressions -/
section
variable {X : Cx} {G : Gd} {W : WX} {e : Expr} {es : List Expr} {pos : Pos}
def dC (d : D) : DE := fun _ M Q _ => Q (.d d) M
def dVar (i : Nat) : DE := fun δ M Q _ => ∃ x, δ[i]? = some (some (.d x)) ∧ Q (.d x) M
def dFz (t : DE) : DX := fun δ M Q E => t δ M (fun r M' => Q r.fz M') E
def oPeek (i : Nat) : DX := fun δ M Q _ => ∃ s, δ[i]? = some (some s) ∧ Q s.fz M
def dV (t : DX) : DE := fun δ M Q E => t δ M (fun d M' => Q (.d d) M') E
theorem d_con {v : V} {d : D} (h : PE X e (tC v)) (r : ∀ K F, R K F v d) : PE X e (LE G W (dC d)) :=
  pe_imp h fun σ H Q ⟨F, δ, M, Qd, Ed, rep, q, k, x⟩ => k (.d d) v F M H rep (Ex.refl F) (r _ _) q
theorem d_int {i : Int} {j pos} : PE X (.Constant (.int i) j pos) (LE G W (dC (.int i))) := d_con pe_int fun _ _ => .int i
theorem d_bl {i : Bool} {j pos} : PE X (.Constant (.bool i) j pos) (LE G W (dC (.bl i))) := d_con pe_bl fun _ _ => .bl i
theorem d_str {i : Str} {j pos} : PE X (.Constant (.str i) j pos) (LE G W (dC (.str i))) := d_con pe_str fun _ _ => .str i
theorem d_non {j pos} : PE X (.Constant .none j pos) (LE G W (dC .non)) := d_con pe_non fun _ _ => .non
theorem d_var {i : Nat} (h : PE X e (tVar i)) : PE X e (LE G W (dVar i)) :=
  pe_imp h fun σ H Q ⟨F, δ, M, Qd, Ed, rep, ⟨x, hx, q⟩, k, _⟩ => by
    obtain ⟨v, h1, h2⟩ := rep.val i x hx
    exact ⟨v, h1, k (.d x) v F M H rep (Ex.refl F) h2 q⟩
theorem o_peek {i : Nat} (h : PE X e (tVar i)) : PE X e (LO G W (oPeek i)) :=
  pe_imp h fun σ H Q ⟨F, δ, M, Qd, Ed, rep, ⟨s, hs, q⟩, k, _⟩ => by
    cases s with
    | d x =>
      obtain ⟨v, h1, h2⟩ := rep.val i x hs
      exact ⟨v, h1, k x v F M H rep (Ex.refl F) (.inl h2) q⟩
    | own xs =>
      obtain ⟨a, h1, h2⟩ := rep.own i xs hs
      exact ⟨.ref a, h1, k (.lst xs) (.ref a) F M H rep (Ex.refl F) (.inr ⟨i, xs, hs, h1, rfl⟩) q⟩
theorem v_fz {td : DE} (h : PE X e (LE G W td)) : PE X e (LV G W (dFz td)) :=
  pe_imp h fun σ H Q ⟨F, δ, M, Qd, Ed, rep, q, k, x⟩ => ⟨F, δ, M, _, Ed, rep, q, fun r v F' M' H' rep' e' s' q' => by
    obtain ⟨F2, r2, e2, q2⟩ := rep'.frzAny s'
    exact k _ v F2 M' H' r2 (e'.trans e2) q2 q', x⟩
theorem o_v {td : DX} (h : PE X e (LV G W td)) : PE X e (LO G W td) :=
  pe_imp h fun σ H Q ⟨F, δ, M, Qd, Ed, rep, q, k, x⟩ => ⟨F, δ, M, Qd, Ed, rep, q, fun d v F' M' H' rep' e' s' q' => k d v F' M' H' rep' e' (.inl s') q', x⟩
theorem o_fz {td : DE} (h : PE X e (LE G W td)) : PE X e (LO G W (dFz td)) := o_v (v_fz h)
theorem d_v {td : DX} (h : PE X e (LV G W td)) : PE X e (LE G W (dV td)) :=
  pe_imp h fun σ H Q ⟨F, δ, M, Qd, Ed, rep, q, k, x⟩ => ⟨F, δ, M, _, Ed, rep, q, fun d v F' M' H' rep' e' s' q' => k (.d d) v F' M' H' rep' e' s' q', x⟩
/-! ### arguments -/
def aNil : DA := fun _ M Q _ => Q [] M
def aCons (t : DX) (u : DA) : DA := fun δ M Q E => t δ M (fun d M1 => u δ M1 (fun ds M2 => Q (d :: ds) M2) E) E
theorem a_nil : PA X [] (LA G W aNil) := pa_imp pa_nil fun σ H Q ⟨F, δ, M, Qd, Ed, rep, q, k, x⟩ => k [] [] F M H rep (Ex.refl F) .nil q
theorem a_cons {t : DX} {u : DA} (ha : PE X e (LV G W t)) (hr : PA X es (LA G W u)) (hs : starEach (e :: es) X.env = (false, eval e X.env) :: starEach es X.env := by rfl) : PA X (e :: es) (LA G W (aCons t u)) :=
  pa_imp (pa_cons ha hr hs) fun σ H Q ⟨F, δ, M, Qd, Ed, rep, q, k, x⟩ => ⟨F, δ, M, _, Ed, rep, q, fun d v F1 M1 H1 rep1 e1 s1 q1 =>
    ⟨F1, δ, M1, _, Ed, rep1, q1, fun ds vs F2 M2 H2 rep2 e2 s2 q2 => k _ _ F2 M2 H2 rep2 (e1.trans e2) (.cons (s1.mono e2) s2) q2, x⟩, x⟩
theorem ao_nil : PA X [] (LAO G W aNil) := pa_imp pa_nil fun σ H Q ⟨F, δ, M, Qd, Ed, rep, q, k, x⟩ => k [] [] F M H rep (Ex.refl F) .nil q
theorem ao_cons {t : DX} {u : DA} (ha : PE X e (LO G W t)) (hr : PA X es (LAO G W u)) (hs : starEach (e :: es) X.env = (false, eval e X.env) :: starEach es X.env := by rfl) : PA X (e :: es) (LAO G W (aCons t u)) :=
  pa_imp (pa_cons ha hr hs) fun σ H Q ⟨F, δ, M, Qd, Ed, rep, q, k, x⟩ => ⟨F, δ, M, _, Ed, rep, q, fun d v F1 M1 H1 rep1 e1 s1 q1 =>
    ⟨F1, δ, M1, _, Ed, rep1, q1, fun ds vs F2 M2 H2 rep2 e2 s2 q2 => k _ _ F2 M2 H2 rep2 (e1.trans e2) (.cons (s1.mono e2) s2) q2, x⟩, x⟩
/-! ### displays -/
def dTup (t : DA) : DE := fun δ M Q E => t δ M (fun ds M' => ds.length ≤ sizeLine ∧ Q (.d (.tup ds)) M') E
def dLst (t : DA) : DE := fun δ M Q E => t δ M (fun ds M' => ds.length ≤ sizeLine ∧ Q (.own ds) M') E
theorem d_tup {t : DA} {x1} (h : PA X es (LA G W t)) : PE X (.Tuple es x1 pos) (LE G W (dTup t)) :=
  pe_imp (pe_tup h) fun σ H Q ⟨F, δ, M, Qd, Ed, rep, q, k, x⟩ => ⟨F, δ, M, _, Ed, rep, q, fun ds vs F1 M1 H1 rep1 e1 s1 ⟨hl, q1⟩ =>
    ⟨by rw [s1.length]; exact hl, fun p hp => k (.d (.tup ds)) _ _ M1 _ (rep1.addF hp (.tup vs)) (e1.trans (Ex.new (rep1.fr.f_none hp))) (R.tup (.inl (.inl upd_same)) (s1.mono (Ex.new (rep1.fr.f_none hp)))) q1⟩, x⟩
theorem d_lst {t : DA} (h : PA X es (LA G W t)) : PE X (.List es pos) (LE G W (dLst t)) :=
  pe_imp (pe_lst h) fun σ H Q ⟨F, δ, M, Qd, Ed, rep, q, k, x⟩ => ⟨F, δ, M, _, Ed, rep, q, fun ds vs F1 M1 H1 rep1 e1 s1 ⟨hl, q1⟩ =>
    ⟨by rw [s1.length]; exact hl, fun p hp => k _ _ F1 M1 _ (rep1.addH hp (.lst vs)) e1 (rep1.addOwn hp s1) q1⟩, x⟩
/-! ### operators -/
abbrev F2 := D → D → MH → (Sl → MH → Prop) → Prop
/-- r on values does what f does on data -/
def OpL (G : Gd) (r : R2) (f : F2) : Prop := ∀ F δ M σ H v u x y Q Qv, Rep G F δ M σ H → Opn G F δ σ v x → Opn G F δ σ u y → f x y M Q →
  (∀ z w F' M' H', Rep G F' δ M' σ H' → Ex F F' → SvR G F' δ M' σ H' w z → Q z M' → Qv w H') → r v u H Qv
def dBin (f : F2) (ta tb : DX) : DE := fun δ M Q E => ta δ M (fun x M1 => tb δ M1 (fun y M2 => f x y M2 Q) E) E
theorem bin_l {r : R2} {f : F2} {ta tb : DX} (hl : OpL G r f) {σ : L2.St} {H : Hp} {Q : VK} (h : LE G W (dBin f ta tb) σ H Q) : tOp r (LO G W ta) (LO G W tb) σ H Q := by
  obtain ⟨F, δ, M, Qd, Ed, rep, q, k, x⟩ := h
  exact ⟨F, δ, M, _, Ed, rep, q, fun d v F1 M1 H1 rep1 e1 s1 q1 => ⟨F1, δ, M1, _, Ed, rep1, q1, fun d2 v2 F2 M2 H2 rep2 e2 s2 q2 =>
    hl F2 δ M2 σ H2 v v2 d d2 Qd Q rep2 (s1.mono e2) s2 q2 fun z w F' M' H' rep' e' s' q' => k z w F' M' H' rep' (e1.trans (e2.trans e')) s' q', x⟩, x⟩
theorem d_bin {a b : Expr} {op : Operator} {r : R2} {f : F2} {ta tb : DX} (ho : OpR X (binaryOp op) r) (hl : OpL G r f) (ha : PE X a (LO G W ta)) (hb : PE X b (LO G W tb)) : PE X (.BinOp a op b pos) (LE G W (dBin f ta tb)) :=
  pe_imp (pe_op ho ha hb) fun _ _ _ h => bin_l hl h
/-- a result that leaves the heap -/
theorem OpL.done {F : Hp} {δ : DS} {M : MH} {σ : L2.St} {H : Hp} {Q : Sl → MH → Prop} {Qv : VK} (rep : Rep G F δ M σ H) (k : ∀ z w F' M' H', Rep G F' δ M' σ H' → Ex F F' → SvR G F' δ M' σ H' w z → Q z M' → Qv w H')
    {d : D} {w : V} (r : R G.K F w d) (q : Q (.d d) M) : Qv w H := k (.d d) w F M H rep (Ex.refl F) r q
def fI (g : Int → Int → Int) (C : Int → Int → Prop) : F2 := fun x y M Q => ∃ i j, x = .int i ∧ y = .int j ∧ C i j ∧ Q (.d (.int (g i j))) M
theorem opn_int {F : Hp} {δ : DS} {σ : L2.St} {v : V} {i : Int} (h : Opn G F δ σ v (.int i)) : v = .int i := (h.val (fun _ z => by cases z)).int_inv
theorem opn_str {F : Hp} {δ : DS} {σ : L2.St} {v : V} {i : Str} (h : Opn G F δ σ v (.str i)) : v = .str i := (h.val (fun _ z => by cases z)).str_inv
theorem opn_bl {F : Hp} {δ : DS} {σ : L2.St} {v : V} {i : Bool} (h : Opn G F δ σ v (.bl i)) : v = .bl i := (h.val (fun _ z => by cases z)).bl_inv
theorem opn_non {F : Hp} {δ : DS} {σ : L2.St} {v : V} (h : Opn G F δ σ v .non) : v = .non := (h.val (fun _ z => by cases z)).non_inv
theorem opl_int {g : Int → Int → Int} {C : Int → Int → Prop} : OpL G (rI C fun i j => .int (g i j)) (fI g C) := by
  intro F δ M σ H v u x y Q Qv rep hx hy h k
  obtain ⟨i, j, rfl, rfl, c, q⟩ := h
  exact ⟨i, j, opn_int hx, opn_int hy, c, OpL.done rep k (.int _) q⟩
theorem opl_int0 {g : Int → Int → Int} : OpL G (rI0 fun i j => .int (g i j)) (fI g fun _ _ => True) := by
  intro F δ M σ H v u x y Q Qv rep hx hy h k
  obtain ⟨i, j, rfl, rfl, c, q⟩ := h
  exact ⟨i, j, opn_int hx, opn_int hy, OpL.done rep k (.int _) q⟩
def fAdd : F2 := fun x y M Q => match x, y with
  | .int i, .int j => Q (.d (.int (i + j))) M
  | .str a, .str b => a.length + b.length ≤ sizeLine ∧ Q (.d (.str (a ++ b))) M
  | .tup xs, .tup ys => xs.length + ys.length ≤ sizeLine ∧ Q (.d (.tup (xs ++ ys))) M
  | .lst xs, .lst ys => xs.length + ys.length ≤ sizeLine ∧ Q (.own (xs ++ ys)) M
  | _, _ => False
def rAddU (K : PySem.W.Frag) : R2 := fun x y H Q => rI0 (fun i j => .int (i + j)) x y H Q ∨ ((∃ i j, x = .str i ∧ y = .str j ∧ i.length + j.length ≤ sizeLine ∧ Q (.str (i ++ j)) H) ∨ (rCatA K x y H Q ∨ rCat x y H Q))
theorem op_addU : OpR X (binaryOp .Add) (rAddU X.K) := op_add.or (op_add_str.or (op_catA.or op_cat))
theorem rs_len {K : PySem.W.Frag} {F : Hp} {vs : List V} {ds : List D} (r : Rs K F vs ds) : ds.length = vs.length := r.length.symm
theorem opl_add : OpL G (rAddU G.K) fAdd := by
  intro F δ M σ H v u x y Q Qv rep hx hy h k
  unfold fAdd at h
  split at h
  · exact .inl ⟨_, _, opn_int hx, opn_int hy, OpL.done rep k (.int _) h⟩
  · exact .inr (.inl ⟨_, _, opn_str hx, opn_str hy, h.1, OpL.done rep k (.str _) h.2⟩)
  · obtain ⟨a, vs, rfl, h1, h2⟩ := (hx.val (fun _ z => by cases z)).tup_inv
    obtain ⟨b, us, rfl, h3, h4⟩ := (hy.val (fun _ z => by cases z)).tup_inv
    refine .inr (.inr (.inl ⟨a, b, vs, us, rfl, rfl, ex_t rep.fr.ex h1, ex_t rep.fr.ex h3, by rw [h2.length, h4.length]; exact h.1, fun z => ?_, fun _ z => ?_, fun _ _ p hp => ?_⟩))
    · subst z
      cases h2
      exact OpL.done rep k (.tup h3 h4) h.2
    · subst z
      cases h4
      exact OpL.done rep k (.tup h1 (by rw [List.append_nil]; exact h2)) h.2
    · have e := Ex.new (o := HO.tup (vs ++ us)) (rep.fr.f_none hp)
      exact k (.d (.tup _)) _ _ M _ (rep.addF hp (.tup (vs ++ us))) e (R.tup (.inl (.inl upd_same)) ((h2.append h4).mono e)) h.2
  · obtain ⟨a, vs, rfl, h1, h2⟩ := hx.lst rep
    obtain ⟨b, us, rfl, h3, h4⟩ := hy.lst rep
    exact .inr (.inr (.inr ⟨a, b, vs, us, rfl, rfl, h1, h3, by rw [h2.length, h4.length]; exact h.1, fun p hp =>
      k _ _ F M _ (rep.addH hp (.lst (vs ++ us))) (Ex.refl F) (rep.addOwn hp (h2.append h4)) h.2⟩))
  · exact h.elim
def fMul : F2 := fun x y M Q => match x, y with
  | .int i, .int j => (CMul i j ∨ CMulW i j) ∧ Q (.d (.int (i * j))) M
  | .lst xs, .int k => -(2 ^ 63) ≤ k ∧ k < 2 ^ 63 ∧ xs.length * k.toNat ≤ sizeLine ∧ Q (.own (List.replicate k.toNat xs).flatten) M
  | .tup xs, .int k => xs ≠ [] ∧ 2 ≤ k ∧ k ≤ 1000 ∧ xs.length ≤ 1000 ∧ Q (.d (.tup (List.replicate k.toNat xs).flatten)) M
  | _, _ => False
def rMulU (K : PySem.W.Frag) : R2 := fun x y H Q => rI CMul (fun i j => .int (i * j)) x y H Q ∨ (rI CMulW (fun i j => .int (i * j)) x y H Q ∨ (rRep x y H Q ∨ rRepT K x y H Q))
theorem op_mulU : OpR X (binaryOp .Mult) (rMulU X.K) := op_mul.or (op_mulW.or (op_rep.or op_repT))
theorem opl_mul : OpL G (rMulU G.K) fMul := by
  intro F δ M σ H v u x y Q Qv rep hx hy h k
  unfold fMul at h
  split at h
  · rcases h.1 with c | c
    · exact .inl ⟨_, _, opn_int hx, opn_int hy, c, OpL.done rep k (.int _) h.2⟩
    · exact .inr (.inl ⟨_, _, opn_int hx, opn_int hy, c, OpL.done rep k (.int _) h.2⟩)
  · obtain ⟨a, vs, rfl, h1, h2⟩ := hx.lst rep
    refine .inr (.inr (.inl ⟨a, _, vs, rfl, opn_int hy, h1, h.1, h.2.1, by rw [h2.length]; exact h.2.2.1, fun p hp => ?_⟩))
    exact k _ _ F M _ (rep.addH hp _) (Ex.refl F) (rep.addOwn hp (h2.replicate _)) h.2.2.2
  · obtain ⟨a, vs, rfl, h1, h2⟩ := (hx.val (fun _ z => by cases z)).tup_inv
    refine .inr (.inr (.inr ⟨a, _, vs, rfl, opn_int hy, ex_t rep.fr.ex h1, fun z => ?_, h.2.1, h.2.2.1, by rw [h2.length]; exact h.2.2.2.1, fun p hp => ?_⟩))
    · subst z
      cases h2
      exact h.1 rfl
    · exact k (.d (.tup _)) _ _ M _ (rep.addF hp _) (Ex.new (rep.fr.f_none hp)) (R.tup (.inl (.inl upd_same)) ((h2.replicate _).mono (Ex.new (rep.fr.f_none hp)))) h.2.2.2.2
  · exact h.elim
def rDivU : R2 := fun x y H Q => rI CDiv (fun i j => .int (i / j)) x y H Q ∨ rI CDivW (fun i j => .int (i / j)) x y H Q
theorem op_divU : OpR X (binaryOp .FloorDiv) rDivU := op_fdiv.or op_fdivW
def fDiv : F2 := fI (· / ·) fun i j => 0 < j ∧ (j < 1073741824 ∨ j.natAbs.log2 < 9000)
theorem opl_div : OpL G rDivU fDiv := by
  intro F δ M σ H v u x y Q Qv rep hx hy h k
  obtain ⟨i, j, rfl, rfl, c, q⟩ := h
  rcases c.2 with c2 | c2
  · exact .inl ⟨i, j, opn_int hx, opn_int hy, ⟨c.1, c2⟩, OpL.done rep k (.int _) q⟩
  · exact .inr ⟨i, j, opn_int hx, opn_int hy, ⟨c.1, c2⟩, OpL.done rep k (.int _) q⟩
def fMod : F2 := fI (· % ·) fun _ j => 0 < j
def fSub : F2 := fI (· - ·) fun _ _ => True
def fPow : F2 := fI (fun i j => i ^ j.toNat) CPow
/-- the operators by their names -/
theorem d_add {a b : Expr} {ta tb : DX} (hk : X.K = G.K) (ha : PE X a (LO G W ta)) (hb : PE X b (LO G W tb)) : PE X (.BinOp a .Add b pos) (LE G W (dBin fAdd ta tb)) := d_bin op_addU (by rw [hk]; exact opl_add) ha hb
theorem d_mul {a b : Expr} {ta tb : DX} (hk : X.K = G.K) (ha : PE X a (LO G W ta)) (hb : PE X b (LO G W tb)) : PE X (.BinOp a .Mult b pos) (LE G W (dBin fMul ta tb)) := d_bin op_mulU (by rw [hk]; exact opl_mul) ha hb
theorem d_sub {a b : Expr} {ta tb : DX} (ha : PE X a (LO G W ta)) (hb : PE X b (LO G W tb)) : PE X (.BinOp a .Sub b pos) (LE G W (dBin fSub ta tb)) := d_bin op_sub opl_int0 ha hb
theorem d_div {a b : Expr} {ta tb : DX} (ha : PE X a (LO G W ta)) (hb : PE X b (LO G W tb)) : PE X (.BinOp a .FloorDiv b pos) (LE G W (dBin fDiv ta tb)) := d_bin op_divU opl_div ha hb
theorem d_mod {a b : Expr} {ta tb : DX} (ha : PE X a (LO G W ta)) (hb : PE X b (LO G W tb)) : PE X (.BinOp a .Mod b pos) (LE G W (dBin fMod ta tb)) := d_bin op_mod opl_int ha hb
theorem d_pow {a b : Expr} {ta tb : DX} (ha : PE X a (LO G W ta)) (hb : PE X b (LO G W tb)) : PE X (.BinOp a .Pow b pos) (LE G W (dBin fPow ta tb)) := d_bin op_pow opl_int ha hb
def dNeg (t : DX) : DE := fun δ M Q E => t δ M (fun x M' => ∃ i, x = .int i ∧ Q (.d (.int (-i))) M') E
theorem d_neg {a : Expr} {t : DX} (ha : PE X a (LO G W t)) : PE X (.UnaryOp .USub a pos) (LE G W (dNeg t)) :=
  pe_imp (pe_un un_neg ha) fun σ H Q ⟨F, δ, M, Qd, Ed, rep, q, k, x⟩ => ⟨F, δ, M, _, Ed, rep, q, fun d v F1 M1 H1 rep1 e1 s1 ⟨i, z, q1⟩ => by
    subst z
    exact ⟨i, opn_int s1, k (.d (.int (-i))) _ F1 M1 H1 rep1 e1 (.int _) q1⟩, x⟩
end
end DL

set_option Elab.async false
set_option linter.all false
set_option maxRecDepth 100000
set_option maxHeartbeats 2000000
namespace DL
open PySem L2
/-! ### data as the library's own -/
mutual
def D.toP : D → PyData
  | .non => .none
  | .bl b => .bool b
  | .int i => .int i
  | .str s => .str s
  | .tup ds => .tuple (D.toPs ds)
  | .lst ds => .list (D.toPs ds)
  | .ref _ => .dict []
  | .lsk _ => .dict []
def D.toPs : List D → List PyData
  | [] => []
  | d :: ds => D.toP d :: D.toPs ds
end
theorem toPs_map : ∀ ds : List D, D.toPs ds = ds.map D.toP
  | [] => by simp [D.toPs]
  | d :: ds => by simp [D.toPs, toPs_map ds]
def D.eq (x y : D) : Bool := PyData.eqv x.toP y.toP
mutual
/-- no references, texts of proper signs -/
def D.nr : D → Bool
  | .ref _ => false
  | .lsk _ => false
  | .str s => PyData.strOk s
  | .tup ds => D.nrs ds
  | .lst ds => D.nrs ds
  | _ => true
def D.nrs : List D → Bool
  | [] => true
  | d :: ds => D.nr d && D.nrs ds
end
mutual
def D.dp : D → Nat
  | .tup ds => D.dps ds + 1
  | .lst ds => D.dps ds + 1
  | _ => 0
def D.dps : List D → Nat
  | [] => 0
  | d :: ds => max (D.dp d) (D.dps ds)
end
mutual
theorem lay_toP : ∀ d : D, (D.toP d).canLay0 = D.nr d
  | .non => by simp [D.toP, D.nr, PyData.canLay0]
  | .bl b => by simp [D.toP, D.nr, PyData.canLay0]
  | .int i => by simp [D.toP, D.nr, PyData.canLay0]
  | .str s => by simp [D.toP, D.nr, PyData.canLay0]
  | .ref a => by simp [D.toP, D.nr, PyData.canLay0]
  | .lsk a => by simp [D.toP, D.nr, PyData.canLay0]
  | .tup ds => by simp [D.toP, D.nr, PyData.canLay0, lay_toPs ds]
  | .lst ds => by simp [D.toP, D.nr, PyData.canLay0, lay_toPs ds]
theorem lay_toPs : ∀ ds : List D, PyData.canLayAll0 (D.toPs ds) = D.nrs ds
  | [] => by simp [D.toPs, D.nrs, PyData.canLayAll0]
  | d :: ds => by simp [D.toPs, D.nrs, PyData.canLayAll0, lay_toP d, lay_toPs ds]
end
mutual
theorem dp_toP : ∀ d : D, D.nr d = true → (D.toP d).depth = D.dp d
  | .non, _ => by simp [D.toP, D.dp, PyData.depth]
  | .bl b, _ => by simp [D.toP, D.dp, PyData.depth]
  | .int i, _ => by simp [D.toP, D.dp, PyData.depth]
  | .str s, _ => by simp [D.toP, D.dp, PyData.depth]
  | .ref a, h => by simp [D.nr] at h
  | .lsk a, h => by simp [D.nr] at h
  | .tup ds, h => by simp [D.toP, D.dp, PyData.depth, dp_toPs ds (by simpa [D.nr] using h)]
  | .lst ds, h => by simp [D.toP, D.dp, PyData.depth, dp_toPs ds (by simpa [D.nr] using h)]
theorem dp_toPs : ∀ ds : List D, D.nrs ds = true → PyData.depthAll (D.toPs ds) = D.dps ds
  | [], _ => by simp [D.toPs, D.dps, PyData.depthAll]
  | d :: ds, h => by
    have h' : D.nr d = true ∧ D.nrs ds = true := by simpa [D.nrs] using h
    simp [D.toPs, D.dps, PyData.depthAll, dp_toP d h'.1, dp_toPs ds h'.2]
end
/-- comparable data -/
def D.Ok (d : D) : Prop := d.nr = true ∧ d.dp ≤ 60
theorem D.Ok.shaped {d : D} (h : d.Ok) : SeqAt.shaped d.toP = true := by
  unfold SeqAt.shaped
  rw [lay_toP, dp_toP d h.1, h.1]
  have := h.2
  simp
  omega
mutual
theorem R.dp {K : PySem.W.Frag} {F H : Hp} (e : Ex F H) : ∀ (d : D) (v : V), R K F v d → D.nr d = true → Dp K H v d.toP
  | .non, _, h, _ => by cases h; exact .non
  | .bl b, _, h, _ => by cases h; exact .bl b
  | .int i, _, h, _ => by cases h; exact .int i
  | .str s, _, h, _ => by cases h; exact .str s
  | .ref a, _, _, n => by simp [D.nr] at n
  | .tup ds, _, h, n => by
    obtain ⟨a, vs, rfl, h1, h2⟩ := h.tup_inv
    have n' : D.nrs ds = true := by simpa [D.nr] using n
    have q := Rs.dp e ds vs h2 n'
    show Dp K H (.ref a) (.tuple (D.toPs ds))
    exact .tup (ex_t e h1) q
  | .lst ds, _, h, n => by
    obtain ⟨a, vs, rfl, h1, h2⟩ := h.lst_inv
    have n' : D.nrs ds = true := by simpa [D.nr] using n
    have q := Rs.dp e ds vs h2 n'
    show Dp K H (.ref a) (.list (D.toPs ds))
    exact .lst (.inl (.inl (e _ _ h1))) q
theorem Rs.dp {K : PySem.W.Frag} {F H : Hp} (e : Ex F H) : ∀ (ds : List D) (vs : List V), Rs K F vs ds → D.nrs ds = true → DpAll K H vs (D.toPs ds)
  | [], _, h, _ => by cases h; exact .nil
  | d :: ds, _, h, n => by
    cases h with
    | cons h1 h2 =>
      have n' : D.nr d = true ∧ D.nrs ds = true := by simpa [D.nrs] using n
      exact .cons (R.dp e d _ h1 n'.1) (Rs.dp e ds _ h2 n'.2)
end
section
variable {X : Cx} {G : Gd} {W : WX} {e a b c : Expr} {es : List Expr} {pos : Pos} {ta tb tc : DX}
theorem Opn.dp {F : Hp} {δ : DS} {M : MH} {σ : L2.St} {H : Hp} {v : V} {d : D} (h : Opn G F δ σ v d) (rep : Rep G F δ M σ H) (n : D.nr d = true) : Dp G.K H v d.toP := by
  cases d with
  | lst ds =>
    obtain ⟨a, vs, rfl, h1, h2⟩ := h.lst rep
    have n' : D.nrs ds = true := by simpa [D.nr] using n
    show Dp G.K H (.ref a) (.list (D.toPs ds))
    exact .lst (.inl (.inl h1)) (Rs.dp rep.fr.ex ds vs h2 n')
  | non => exact R.dp rep.fr.ex _ _ (h.val (fun _ z => by cases z)) n
  | bl b => exact R.dp rep.fr.ex _ _ (h.val (fun _ z => by cases z)) n
  | int i => exact R.dp rep.fr.ex _ _ (h.val (fun _ z => by cases z)) n
  | str s => exact R.dp rep.fr.ex _ _ (h.val (fun _ z => by cases z)) n
  | tup ds => exact R.dp rep.fr.ex _ _ (h.val (fun _ z => by cases z)) n
  | ref a => exact R.dp rep.fr.ex _ _ (h.val (fun _ z => by cases z)) n
  | lsk a => exact R.dp rep.fr.ex _ _ (h.val (fun _ z => by cases z)) n
/-! ### comparisons -/
abbrev FB := D → D → MH → (Bool → Prop) → Prop
def CmpL (G : Gd) (r : R2) (f : FB) : Prop := ∀ F δ M σ H v u x y Q Qv, Rep G F δ M σ H → Opn G F δ σ v x → Opn G F δ σ u y → f x y M Q → (∀ b, Q b → Qv (.bl b) H) → r v u H Qv
def dCmp (f : FB) (ta tb : DX) : DT := fun δ M Q E => ta δ M (fun x M1 => tb δ M1 (fun y M2 => f x y M2 fun b => Q b M2) E) E
/-- a test's answer as a value -/
def dOfT (t : DT) : DE := fun δ M Q E => t δ M (fun b M' => Q (.d (.bl b)) M') E
/-- a value as a test -/
def dB (t : DE) : DT := fun δ M Q E => t δ M (fun r M' => ∃ b, r = .d (.bl b) ∧ Q b M') E
theorem cmp_l {r : R2} {f : FB} (hl : CmpL G r f) {σ : L2.St} {H : Hp} {Q : VK} (h : LE G W (dOfT (dCmp f ta tb)) σ H Q) : tOp r (LO G W ta) (LO G W tb) σ H Q := by
  obtain ⟨F, δ, M, Qd, Ed, rep, q, k, x⟩ := h
  exact ⟨F, δ, M, _, Ed, rep, q, fun d v F1 M1 H1 rep1 e1 s1 q1 => ⟨F1, δ, M1, _, Ed, rep1, q1, fun d2 v2 F2 M2 H2 rep2 e2 s2 q2 =>
    hl F2 δ M2 σ H2 v v2 d d2 _ Q rep2 (s1.mono e2) s2 q2 fun b qb => k (.d (.bl b)) (.bl b) F2 M2 H2 rep2 (e1.trans e2) (R.bl b) qb, x⟩, x⟩
theorem cmp_t {r : R2} {f : FB} (hl : CmpL G r f) {σ : L2.St} {H : Hp} {Q : Bool → Hp → Prop} (h : LT G W (dCmp f ta tb) σ H Q) : tTest (tOp r (LO G W ta) (LO G W tb)) σ H Q := by
  obtain ⟨F, δ, M, Qd, Ed, rep, q, k, x⟩ := h
  exact ⟨F, δ, M, _, Ed, rep, q, fun d v F1 M1 H1 rep1 e1 s1 q1 => ⟨F1, δ, M1, _, Ed, rep1, q1, fun d2 v2 F2 M2 H2 rep2 e2 s2 q2 =>
    hl F2 δ M2 σ H2 v v2 d d2 _ _ rep2 (s1.mono e2) s2 q2 fun b qb => ⟨b, rfl, k b F2 M2 H2 rep2 (e1.trans e2) qb⟩, x⟩, x⟩
theorem d_cmp {op : CmpOp} {r : R2} {f : FB} (ho : OpR X (compareOp op) r) (hl : CmpL G r f) (ha : PE X a (LO G W ta)) (hb : PE X b (LO G W tb)) (hm : behindInMarks op b = false) : PE X (.Compare a [op] [b] pos) (LE G W (dOfT (dCmp f ta tb))) :=
  pe_imp (pe_cmpR ho ha hb hm) fun _ _ _ h => cmp_l hl h
theorem t_cmp {op : CmpOp} {r : R2} {f : FB} (ho : OpR X (compareOp op) r) (hl : CmpL G r f) (ha : PE X a (LO G W ta)) (hb : PE X b (LO G W tb)) (hm : behindInMarks op b = false) : PT X (.Compare a [op] [b] pos) (LT G W (dCmp f ta tb)) :=
  pt_imp (pt_cmpR ho ha hb hm) fun _ _ _ h => cmp_t hl h
def dChain (f f' : FB) (ta tb tc : DX) : DT := fun δ M Q E => ta δ M (fun x M1 => tb δ M1 (fun y M2 => f x y M2 fun b => if b = true then tc δ M2 (fun z M3 => f' y z M3 fun b' => Q b' M3) E else Q false M2) E) E
theorem chain_l {r r' : R2} {f f' : FB} (hl : CmpL G r f) (hl' : CmpL G r' f') {σ : L2.St} {H : Hp} {Q : VK} (h : LE G W (dOfT (dChain f f' ta tb tc)) σ H Q) : tChain r r' (LO G W ta) (LO G W tb) (LO G W tc) σ H Q := by
  obtain ⟨F, δ, M, Qd, Ed, rep, q, k, x⟩ := h
  refine ⟨F, δ, M, _, Ed, rep, q, fun d v F1 M1 H1 rep1 e1 s1 q1 => ⟨F1, δ, M1, _, Ed, rep1, q1, fun d2 v2 F2 M2 H2 rep2 e2 s2 q2 => ?_, x⟩, x⟩
  refine hl F2 δ M2 σ H2 v v2 d d2 _ _ rep2 (s1.mono e2) s2 q2 fun b qb => ⟨b, rfl, ?_⟩
  cases b with
  | false => exact k (.d (.bl false)) _ F2 M2 H2 rep2 (e1.trans e2) (R.bl _) qb
  | true =>
    rw [if_pos rfl] at qb ⊢
    exact ⟨F2, δ, M2, _, Ed, rep2, qb, fun d3 v3 F3 M3 H3 rep3 e3 s3 q3 =>
      hl' F3 δ M3 σ H3 v2 v3 d2 d3 _ _ rep3 (s2.mono e3) s3 q3 fun b' qb' => k (.d (.bl b')) _ F3 M3 H3 rep3 (e1.trans (e2.trans e3)) (R.bl _) qb', x⟩
theorem d_chain {op op' : CmpOp} {r r' : R2} {f f' : FB} (ho : OpR X (compareOp op) r) (hl : CmpL G r f) (ho' : OpR X (compareOp op') r') (hl' : CmpL G r' f') (ha : PE X a (LO G W ta)) (hb : PE X b (LO G W tb)) (hc : PE X c (LO G W tc))
    (hm : lastMarks [op, op'] [b, c] = false := by with_unfolding_all rfl) : PE X (.Compare a [op, op'] [b, c] pos) (LE G W (dOfT (dChain f f' ta tb tc))) :=
  pe_imp (pe_chain ho ho' ha hb hc hm) fun _ _ _ h => chain_l hl hl' h
theorem chain_t {r r' : R2} {f f' : FB} (hl : CmpL G r f) (hl' : CmpL G r' f') {σ : L2.St} {H : Hp} {Q : Bool → Hp → Prop} (h : LT G W (dChain f f' ta tb tc) σ H Q) : tTest (tChain r r' (LO G W ta) (LO G W tb) (LO G W tc)) σ H Q := by
  obtain ⟨F, δ, M, Qd, Ed, rep, q, k, x⟩ := h
  refine ⟨F, δ, M, _, Ed, rep, q, fun d v F1 M1 H1 rep1 e1 s1 q1 => ⟨F1, δ, M1, _, Ed, rep1, q1, fun d2 v2 F2 M2 H2 rep2 e2 s2 q2 => ?_, x⟩, x⟩
  refine hl F2 δ M2 σ H2 v v2 d d2 _ _ rep2 (s1.mono e2) s2 q2 fun b qb => ⟨b, rfl, ?_⟩
  cases b with
  | false => exact ⟨false, rfl, k false F2 M2 H2 rep2 (e1.trans e2) qb⟩
  | true =>
    rw [if_pos rfl] at qb ⊢
    exact ⟨F2, δ, M2, _, Ed, rep2, qb, fun d3 v3 F3 M3 H3 rep3 e3 s3 q3 =>
      hl' F3 δ M3 σ H3 v2 v3 d2 d3 _ _ rep3 (s2.mono e3) s3 q3 fun b' qb' => ⟨b', rfl, k b' F3 M3 H3 rep3 (e1.trans (e2.trans e3)) qb'⟩, x⟩
theorem t_chain {op op' : CmpOp} {r r' : R2} {f f' : FB} (ho : OpR X (compareOp op) r) (hl : CmpL G r f) (ho' : OpR X (compareOp op') r') (hl' : CmpL G r' f') (ha : PE X a (LO G W ta)) (hb : PE X b (LO G W tb)) (hc : PE X c (LO G W tc))
    (hm : lastMarks [op, op'] [b, c] = false := by with_unfolding_all rfl) : PT X (.Compare a [op, op'] [b, c] pos) (LT G W (dChain f f' ta tb tc)) :=
  pt_imp (pt_chain ho ho' ha hb hc hm) fun _ _ _ h => chain_t hl hl' h
/-! ### the comparisons by their names -/
def fCI (g : Int → Int → Bool) : FB := fun x y _ Q => ∃ i j, x = .int i ∧ y = .int j ∧ Q (g i j)
theorem cl_int {g : Int → Int → Bool} : CmpL G (rI0 fun i j => .bl (g i j)) (fCI g) := by
  intro F δ M σ H v u x y Q Qv rep hx hy h k
  obtain ⟨i, j, rfl, rfl, q⟩ := h
  exact ⟨i, j, opn_int hx, opn_int hy, k _ q⟩
def fLt : FB := fCI fun i j => decide (i < j)
def fLe : FB := fCI fun i j => decide (i ≤ j)
def fGt : FB := fCI fun i j => decide (j < i)
def fGe : FB := fCI fun i j => decide (j ≤ i)
theorem cl_lt : CmpL G (rI0 fun i j => .bl (decide (i < j))) fLt := cl_int
theorem cl_le : CmpL G (rI0 fun i j => .bl (decide (i ≤ j))) fLe := cl_int
theorem cl_gt : CmpL G (rI0 fun i j => .bl (decide (j < i))) fGt := cl_int
theorem cl_ge : CmpL G (rI0 fun i j => .bl (decide (j ≤ i))) fGe := cl_int
def fEq : FB := fun x y _ Q => x.Ok ∧ y.Ok ∧ Q (D.eq x y)
def fNe : FB := fun x y _ Q => x.Ok ∧ y.Ok ∧ Q (!D.eq x y)
theorem cl_eq : CmpL G (rEqD G.K) fEq := by
  intro F δ M σ H v u x y Q Qv rep hx hy ⟨h1, h2, h3⟩ k
  exact ⟨x.toP, y.toP, hx.dp rep h1.1, hy.dp rep h2.1, h1.shaped, h2.shaped, k _ h3⟩
theorem cl_ne : CmpL G (rNeD G.K) fNe := by
  intro F δ M σ H v u x y Q Qv rep hx hy ⟨h1, h2, h3⟩ k
  exact ⟨x.toP, y.toP, hx.dp rep h1.1, hy.dp rep h2.1, h1.shaped, h2.shaped, k _ h3⟩
/-- in -/
def flatD : D → Bool
  | .non => true
  | .bl _ => true
  | .int _ => true
  | .str _ => true
  | _ => false
theorem R.flat {K : PySem.W.Frag} {F : Hp} {v : V} {d : D} (h : R K F v d) (f : flatD d = true) : flatV v = true := by
  cases h with
  | non => rfl
  | bl b => rfl
  | int i => rfl
  | str x => rfl
  | tup _ _ => cases f
  | lst _ _ => cases f
  | ref a => cases f
  | lsk _ _ => cases f
theorem eqV_eq {K : PySem.W.Frag} {F : Hp} {v u : V} {x y : D} (h : R K F v x) (h' : R K F u y) (f : flatD x = true) (f' : flatD y = true) : eqV v u = D.eq x y := by
  cases x with
  | non => cases h; cases y with
    | non => cases h'; simp [eqV, D.eq, D.toP, PyData.eqv]
    | bl b => cases h'; simp [eqV, D.eq, D.toP, PyData.eqv]
    | int b => cases h'; simp [eqV, D.eq, D.toP, PyData.eqv]
    | str b => cases h'; simp [eqV, D.eq, D.toP, PyData.eqv]
    | tup b => cases f'
    | lst b => cases f'
    | ref b => cases f'
    | lsk b => cases f'
  | bl b0 => cases h; cases y with
    | non => cases h'; simp [eqV, D.eq, D.toP, PyData.eqv]
    | bl b => cases h'; simp [eqV, D.eq, D.toP, PyData.eqv]
    | int b => cases h'; simp [eqV, D.eq, D.toP, PyData.eqv]
    | str b => cases h'; simp [eqV, D.eq, D.toP, PyData.eqv]
    | tup b => cases f'
    | lst b => cases f'
    | ref b => cases f'
    | lsk b => cases f'
  | int b0 => cases h; cases y with
    | non => cases h'; simp [eqV, D.eq, D.toP, PyData.eqv]
    | bl b => cases h'; simp [eqV, D.eq, D.toP, PyData.eqv]
    | int b => cases h'; simp [eqV, D.eq, D.toP, PyData.eqv]
    | str b => cases h'; simp [eqV, D.eq, D.toP, PyData.eqv]
    | tup b => cases f'
    | lst b => cases f'
    | ref b => cases f'
    | lsk b => cases f'
  | str b0 => cases h; cases y with
    | non => cases h'; simp [eqV, D.eq, D.toP, PyData.eqv]
    | bl b => cases h'; simp [eqV, D.eq, D.toP, PyData.eqv]
    | int b => cases h'; simp [eqV, D.eq, D.toP, PyData.eqv]
    | str b => cases h'; simp [eqV, D.eq, D.toP, PyData.eqv]
    | tup b => cases f'
    | lst b => cases f'
    | ref b => cases f'
    | lsk b => cases f'
  | tup b0 => cases f
  | lst b0 => cases f
  | ref b0 => cases f
  | lsk b0 => cases f
theorem inV_eq {K : PySem.W.Frag} {F : Hp} {v : V} {x : D} (h : R K F v x) (f : flatD x = true) : ∀ {vs : List V} {ds : List D}, Rs K F vs ds → ds.all flatD = true → vs.all flatV = true ∧ inV v vs = ds.any fun y => D.eq y x
  | _, _, .nil, _ => ⟨rfl, rfl⟩
  | _, _, .cons (v := u) (d := y) (vs := us) (ds := ys) r1 r2, fa => by
    have fa' : flatD y = true ∧ ys.all flatD = true := by simpa using fa
    obtain ⟨q1, q2⟩ := inV_eq h f r2 fa'.2
    refine ⟨by simp [r1.flat fa'.1]; simpa using q1, ?_⟩
    have q2' : us.any (fun y => eqV y v) = ys.any fun y => D.eq y x := q2
    show (eqV u v || us.any fun y => eqV y v) = _
    rw [eqV_eq r1 h fa'.1 f, q2']
    rfl
def fInG (g : Bool → Bool) : FB := fun x y _ Q => match y with
  | .tup ys => flatD x = true ∧ ys.all flatD = true ∧ Q (g (ys.any fun z => D.eq z x))
  | .lst ys => (flatD x = true ∧ ys.all flatD = true ∨ x.Ok ∧ D.Ok (.lst ys)) ∧ Q (g (ys.any fun z => D.eq z x))
  | .str z => ∃ c, x = .str ⟨#[c]⟩ ∧ Q (g (decide (c ∈ z.cps.toList)))
  | _ => False
def fIn : FB := fInG id
def fNotIn : FB := fInG not
def rInU (K : PySem.W.Frag) : R2 := fun x y H Q => rIn K false x y H Q ∨ (rInD K x y H Q ∨ (∃ (c : Nat) (z : Str), x = .str ⟨#[c]⟩ ∧ y = .str z ∧ Q (.bl (decide (c ∈ z.cps.toList))) H))
def rNotInU (K : PySem.W.Frag) : R2 := fun x y H Q => rIn K true x y H Q ∨ (rNotInD K x y H Q ∨ (∃ (c : Nat) (z : Str), x = .str ⟨#[c]⟩ ∧ y = .str z ∧ Q (.bl (!decide (c ∈ z.cps.toList))) H))
theorem op_inU (hu : X.A.units + 65 < cLine) : OpR X (compareOp .In) (rInU X.K) := op_in_seq.or ((op_inD hu).or op_in_sign)
theorem op_notInU (hu : X.A.units + 65 < cLine) : OpR X (compareOp .NotIn) (rNotInU X.K) := op_notIn_seq.or ((op_notInD hu).or op_notIn_sign)
theorem any_toP (x : D) : ∀ ys : List D, ((D.toPs ys).any fun z => PyData.eqv z x.toP) = ys.any fun z => D.eq z x
  | [] => rfl
  | y :: ys => by
    show (PyData.eqv y.toP x.toP || _) = (D.eq y x || _)
    rw [any_toP x ys]
    rfl
theorem cl_in : CmpL G (rInU G.K) fIn := by
  intro F δ M σ H v u x y Q Qv rep hx hy h k
  unfold fIn fInG at h
  split at h
  · obtain ⟨f1, f2, q⟩ := h
    obtain ⟨a, us, rfl, h1, h2⟩ := hy.tup rep
    have hx' := hx.val (fun _ z => by rw [z] at f1; cases f1)
    obtain ⟨g1, g2⟩ := inV_eq hx' f1 h2 f2
    refine .inl ⟨a, us, rfl, .inr h1, hx'.flat f1, g1, ?_⟩
    rw [g2]
    exact k _ q
  · obtain ⟨⟨f1, f2⟩ | ⟨n1, n2⟩, q⟩ := h
    · obtain ⟨a, us, rfl, h1, h2⟩ := hy.lst rep
      have hx' := hx.val (fun _ z => by rw [z] at f1; cases f1)
      obtain ⟨g1, g2⟩ := inV_eq hx' f1 h2 f2
      refine .inl ⟨a, us, rfl, .inl (.inl (.inl h1)), hx'.flat f1, g1, ?_⟩
      rw [g2]
      exact k _ q
    · refine .inr (.inl ⟨x.toP, D.toPs _, hx.dp rep n1.1, hy.dp rep n2.1, n1.shaped, n2.shaped, ?_⟩)
      rw [any_toP]
      exact k _ q
  · obtain ⟨c, rfl, q⟩ := h
    exact .inr (.inr ⟨c, _, opn_str hx, opn_str hy, k _ q⟩)
  · exact h.elim
theorem cl_notIn : CmpL G (rNotInU G.K) fNotIn := by
  intro F δ M σ H v u x y Q Qv rep hx hy h k
  unfold fNotIn fInG at h
  split at h
  · obtain ⟨f1, f2, q⟩ := h
    obtain ⟨a, us, rfl, h1, h2⟩ := hy.tup rep
    have hx' := hx.val (fun _ z => by rw [z] at f1; cases f1)
    obtain ⟨g1, g2⟩ := inV_eq hx' f1 h2 f2
    refine .inl ⟨a, us, rfl, .inr h1, hx'.flat f1, g1, ?_⟩
    rw [g2]
    exact k _ q
  · obtain ⟨⟨f1, f2⟩ | ⟨n1, n2⟩, q⟩ := h
    · obtain ⟨a, us, rfl, h1, h2⟩ := hy.lst rep
      have hx' := hx.val (fun _ z => by rw [z] at f1; cases f1)
      obtain ⟨g1, g2⟩ := inV_eq hx' f1 h2 f2
      refine .inl ⟨a, us, rfl, .inl (.inl (.inl h1)), hx'.flat f1, g1, ?_⟩
      rw [g2]
      exact k _ q
    · refine .inr (.inl ⟨x.toP, D.toPs _, hx.dp rep n1.1, hy.dp rep n2.1, n1.shaped, n2.shaped, ?_⟩)
      rw [any_toP]
      exact k _ q
  · obtain ⟨c, rfl, q⟩ := h
    exact .inr (.inr ⟨c, _, opn_str hx, opn_str hy, k _ q⟩)
  · exact h.elim
/-- is None -/
def isNon : D → Bool
  | .non => true
  | _ => false
def fIs : FB := fun x y _ Q => y = .non ∧ Q (isNon x)
def fIsNot : FB := fun x y _ Q => y = .non ∧ Q (!isNon x)
theorem opn_isNon {F : Hp} {δ : DS} {σ : L2.St} {H : Hp} {M : MH} {v : V} {x : D} (rep : Rep G F δ M σ H) (h : Opn G F δ σ v x) : decide (v = .non) = isNon x := by
  rcases h with h | ⟨i, xs, h1, h2, h3⟩
  · cases h <;> simp [isNon]
  · subst h3
    obtain ⟨a, q, _⟩ := rep.own i xs h1
    rw [h2] at q
    cases q
    simp [isNon]
theorem cl_is : CmpL G (fun x y H Q => y = .non ∧ Q (.bl (decide (x = .non))) H) fIs := by
  intro F δ M σ H v u x y Q Qv rep hx hy h k
  obtain ⟨rfl, q⟩ := h
  refine ⟨opn_non hy, ?_⟩
  rw [opn_isNon rep hx]
  exact k _ q
theorem cl_isNot : CmpL G (fun x y H Q => y = .non ∧ Q (.bl (!decide (x = .non))) H) fIsNot := by
  intro F δ M σ H v u x y Q Qv rep hx hy h k
  obtain ⟨rfl, q⟩ := h
  refine ⟨opn_non hy, ?_⟩
  rw [opn_isNon rep hx]
  exact k _ q
/-! ### tests -/
theorem t_val {td : DE} (h : PE X e (LE G W td)) (he : ∀ whole, isTrue e X.env whole = (do let v ← whole; standAt e.pos; holding [v] (truthy v)) := by intro _; rfl) : PT X e (LT G W (dB td)) :=
  pt_imp (pt_val h he) fun σ H Q ⟨F, δ, M, Qd, Ed, rep, q, k, x⟩ => ⟨F, δ, M, _, Ed, rep, q, fun r v F' M' H' rep' e' s' ⟨b, hb, qb⟩ => by
    subst hb
    cases s'
    exact ⟨b, rfl, k b F' M' H' rep' e' qb⟩, x⟩
def tdAnd (t u : DT) : DT := fun δ M Q E => t δ M (fun c M1 => if c = true then u δ M1 Q E else Q false M1) E
def tdOr (t u : DT) : DT := fun δ M Q E => t δ M (fun c M1 => if c = true then Q true M1 else u δ M1 Q E) E
def tdNot (t : DT) : DT := fun δ M Q E => t δ M (fun c M1 => Q (!c) M1) E
theorem and_l {t u : DT} {σ : L2.St} {H : Hp} {Q : Bool → Hp → Prop} (h : LT G W (tdAnd t u) σ H Q) : tAnd (LT G W t) (LT G W u) σ H Q := by
  obtain ⟨F, δ, M, Qd, Ed, rep, q, k, x⟩ := h
  refine ⟨F, δ, M, _, Ed, rep, q, fun b F1 M1 H1 rep1 e1 q1 => ?_, x⟩
  cases b with
  | true => exact ⟨F1, δ, M1, _, Ed, rep1, q1, fun b F2 M2 H2 rep2 e2 q2 => k b F2 M2 H2 rep2 (e1.trans e2) q2, x⟩
  | false => exact k _ F1 M1 H1 rep1 e1 q1
theorem or_l {t u : DT} {σ : L2.St} {H : Hp} {Q : Bool → Hp → Prop} (h : LT G W (tdOr t u) σ H Q) : tOr (LT G W t) (LT G W u) σ H Q := by
  obtain ⟨F, δ, M, Qd, Ed, rep, q, k, x⟩ := h
  refine ⟨F, δ, M, _, Ed, rep, q, fun b F1 M1 H1 rep1 e1 q1 => ?_, x⟩
  cases b with
  | false => exact ⟨F1, δ, M1, _, Ed, rep1, q1, fun b F2 M2 H2 rep2 e2 q2 => k b F2 M2 H2 rep2 (e1.trans e2) q2, x⟩
  | true => exact k _ F1 M1 H1 rep1 e1 q1
theorem w_and1 {t : DT} (ha : PT X a (LT G W t)) : PW X (.BoolOp .And [a] pos) (LT G W t) := pw_and1 ha
theorem w_or1 {t : DT} (ha : PT X a (LT G W t)) : PW X (.BoolOp .Or [a] pos) (LT G W t) := pw_or1 ha
theorem w_and {t u : DT} {rest : List Expr} (ha : PT X a (LT G W t)) (hb : PW X (.BoolOp .And (b :: rest) pos) (LT G W u)) : PW X (.BoolOp .And (a :: b :: rest) pos) (LT G W (tdAnd t u)) := pw_imp (pw_and ha hb) fun _ _ _ h => and_l h
theorem w_or {t u : DT} {rest : List Expr} (ha : PT X a (LT G W t)) (hb : PW X (.BoolOp .Or (b :: rest) pos) (LT G W u)) : PW X (.BoolOp .Or (a :: b :: rest) pos) (LT G W (tdOr t u)) := pw_imp (pw_or ha hb) fun _ _ _ h => or_l h
theorem t_not {t : DT} (ha : PT X a (LT G W t)) : PT X (.UnaryOp .Not a pos) (LT G W (tdNot t)) :=
  pt_imp (pt_not ha) fun σ H Q ⟨F, δ, M, Qd, Ed, rep, q, k, x⟩ => ⟨F, δ, M, _, Ed, rep, q, fun b F1 M1 H1 rep1 e1 q1 => k _ F1 M1 H1 rep1 e1 q1, x⟩
/-! .. as values -/
def dAnd (t u : DE) : DE := fun δ M Q E => t δ M (fun r M1 => ∃ c, r = .d (.bl c) ∧ if c = true then u δ M1 Q E else Q (.d (.bl false)) M1) E
def dOr (t u : DE) : DE := fun δ M Q E => t δ M (fun r M1 => ∃ c, r = .d (.bl c) ∧ if c = true then Q (.d (.bl true)) M1 else u δ M1 Q E) E
def dNot (t : DE) : DE := fun δ M Q E => t δ M (fun r M1 => ∃ c, r = .d (.bl c) ∧ Q (.d (.bl (!c))) M1) E
theorem d_one {op} {t : DE} (h : PE X a (LE G W t)) : PE X (.BoolOp op [a] pos) (LE G W t) := pe_one h
theorem d_and {t u : DE} {rest : List Expr} (ha : PE X a (LE G W t)) (hb : PE X (.BoolOp .And (b :: rest) pos) (LE G W u)) : PE X (.BoolOp .And (a :: b :: rest) pos) (LE G W (dAnd t u)) :=
  pe_imp (pe_and ha hb) fun σ H Q ⟨F, δ, M, Qd, Ed, rep, q, k, x⟩ => ⟨F, δ, M, _, Ed, rep, q, fun r v F1 M1 H1 rep1 e1 s1 ⟨c, hc, q1⟩ => by
    subst hc
    cases s1
    refine ⟨c, rfl, ?_⟩
    cases c with
    | true => exact ⟨F1, δ, M1, _, Ed, rep1, q1, fun b v F2 M2 H2 rep2 e2 s2 q2 => k b v F2 M2 H2 rep2 (e1.trans e2) s2 q2, x⟩
    | false => exact k (.d (.bl false)) _ F1 M1 H1 rep1 e1 (R.bl _) q1, x⟩
theorem d_or {t u : DE} {rest : List Expr} (ha : PE X a (LE G W t)) (hb : PE X (.BoolOp .Or (b :: rest) pos) (LE G W u)) : PE X (.BoolOp .Or (a :: b :: rest) pos) (LE G W (dOr t u)) :=
  pe_imp (pe_or ha hb) fun σ H Q ⟨F, δ, M, Qd, Ed, rep, q, k, x⟩ => ⟨F, δ, M, _, Ed, rep, q, fun r v F1 M1 H1 rep1 e1 s1 ⟨c, hc, q1⟩ => by
    subst hc
    cases s1
    refine ⟨c, rfl, ?_⟩
    cases c with
    | false => exact ⟨F1, δ, M1, _, Ed, rep1, q1, fun b v F2 M2 H2 rep2 e2 s2 q2 => k b v F2 M2 H2 rep2 (e1.trans e2) s2 q2, x⟩
    | true => exact k (.d (.bl true)) _ F1 M1 H1 rep1 e1 (R.bl _) q1, x⟩
theorem d_not {t : DE} (ha : PE X a (LE G W t)) : PE X (.UnaryOp .Not a pos) (LE G W (dNot t)) :=
  pe_imp (pe_not ha) fun σ H Q ⟨F, δ, M, Qd, Ed, rep, q, k, x⟩ => ⟨F, δ, M, _, Ed, rep, q, fun r v F1 M1 H1 rep1 e1 s1 ⟨c, hc, q1⟩ => by
    subst hc
    cases s1
    exact ⟨c, rfl, k (.d (.bl (!c))) _ F1 M1 H1 rep1 e1 (R.bl _) q1⟩, x⟩
def dIf (t : DT) (u w : DE) : DE := fun δ M Q E => t δ M (fun c M1 => if c = true then u δ M1 Q E else w δ M1 Q E) E
theorem d_if {t : DT} {u w : DE} (hc : PT X c (LT G W t)) (ha : PE X a (LE G W u)) (hb : PE X b (LE G W w)) : PE X (.IfExp c a b pos) (LE G W (dIf t u w)) :=
  pe_imp (pe_ifExp hc ha hb) fun σ H Q ⟨F, δ, M, Qd, Ed, rep, q, k, x⟩ => ⟨F, δ, M, _, Ed, rep, q, fun b F1 M1 H1 rep1 e1 q1 => by
    cases b with
    | true => exact ⟨F1, δ, M1, _, Ed, rep1, q1, fun b v F2 M2 H2 rep2 e2 s2 q2 => k b v F2 M2 H2 rep2 (e1.trans e2) s2 q2, x⟩
    | false => exact ⟨F1, δ, M1, _, Ed, rep1, q1, fun b v F2 M2 H2 rep2 e2 s2 q2 => k b v F2 M2 H2 rep2 (e1.trans e2) s2 q2, x⟩, x⟩
end
end DL

set_option Elab.async false
set_option linter.all false
set_option maxRecDepth 100000
set_option maxHeartbeats 2000000
namespace DL
open PySem L2
section
variable {X : Cx} {G : Gd} {W : WX} {e a b c : Expr} {es : List Expr} {pos p : Pos} {ta tb tc : DX}
/-! ### calls of built-ins -/
abbrev FC := List D → MH → (Sl → MH → Prop) → Prop
def CallL (G : Gd) (r : List V → Hp → VK → Prop) (f : FC) : Prop := ∀ F δ M σ H vs ds Q Qv, Rep G F δ M σ H → Opns G F δ σ vs ds → f ds M Q →
  (∀ z w F' M' H', Rep G F' δ M' σ H' → Ex F F' → SvR G F' δ M' σ H' w z → Q z M' → Qv w H') → r vs H Qv
def dCB (f : FC) (t : DA) : DE := fun δ M Q E => t δ M (fun ds M1 => f ds M1 Q) E
theorem cb_l {r : List V → Hp → VK → Prop} {f : FC} {t : DA} (hl : CallL G r f) {σ : L2.St} {H : Hp} {Q : VK} (h : LE G W (dCB f t) σ H Q) : tCB r (LAO G W t) σ H Q := by
  obtain ⟨F, δ, M, Qd, Ed, rep, q, k, x⟩ := h
  exact ⟨F, δ, M, _, Ed, rep, q, fun ds vs F1 M1 H1 rep1 e1 s1 q1 => hl F1 δ M1 σ H1 vs ds Qd Q rep1 s1 q1 fun z w F' M' H' rep' e' s' q' => k z w F' M' H' rep' (e1.trans e') s' q', x⟩
theorem d_callB {x : Str} {id : String} {r : List V → Hp → VK → Prop} {f : FC} {t : DA} (hc : CallR X (.builtin id) r) (hl : CallL G r f) (hg : Gl X x) (hm : X.mg x = none) (hv : bootBuiltins x = some (.builtin id)) (ha : PA X (e :: es) (LAO G W t))
    (hn : x ≠ "__name__" := by decide) (hdb : (x == ("__debug__" : Str)) = false := by decide)
    (he : starEach (e :: es) X.env = (false, eval e X.env) :: starEach es X.env := by rfl) (hpl : (backTo pos (starEach es X.env)).any (·.1) = false := by rfl) : PE X (.Call (.Name x p) (e :: es) [] pos) (LE G W (dCB f t)) :=
  pe_imp (pe_callB hc hg hm hv ha hn hdb he hpl) fun _ _ _ h => cb_l hl h
theorem d_callTy {x : Str} {id : String} {r : List V → Hp → VK → Prop} {f : FC} {t : DA} (hc : CallR X (.type id) r) (hl : CallL G r f) (hg : Gl X x) (hm : X.mg x = none) (hv : bootBuiltins x = some (.type id)) (ha : PA X (e :: es) (LAO G W t))
    (hn : x ≠ "__name__" := by decide) (hdb : (x == ("__debug__" : Str)) = false := by decide)
    (he : starEach (e :: es) X.env = (false, eval e X.env) :: starEach es X.env := by rfl) (hpl : (backTo pos (starEach es X.env)).any (·.1) = false := by rfl) : PE X (.Call (.Name x p) (e :: es) [] pos) (LE G W (dCB f t)) :=
  pe_imp (pe_callTy hc hg hm hv ha hn hdb he hpl) fun _ _ _ h => cb_l hl h
theorem Opns.one {F : Hp} {δ : DS} {σ : L2.St} {vs : List V} {d : D} (h : Opns G F δ σ vs [d]) : ∃ v, vs = [v] ∧ Opn G F δ σ v d := by
  cases h with
  | cons h1 h2 => cases h2; exact ⟨_, rfl, h1⟩
theorem Opns.two {F : Hp} {δ : DS} {σ : L2.St} {vs : List V} {d d' : D} (h : Opns G F δ σ vs [d, d']) : ∃ v v', vs = [v, v'] ∧ Opn G F δ σ v d ∧ Opn G F δ σ v' d' := by
  cases h with
  | cons h1 h2 => cases h2 with
    | cons h3 h4 => cases h4; exact ⟨_, _, rfl, h1, h3⟩
/-- what a list-like operand holds -/
def seqOf (M : MH) : D → Option (List D)
  | .lst xs => some xs
  | .lsk xs => some xs
  | .ref a => match M a with
    | some (.lst xs) => some xs
    | _ => none
  | _ => none
theorem seqOf_at {F : Hp} {δ : DS} {M : MH} {σ : L2.St} {H : Hp} {v : V} {d : D} {xs : List D} (rep : Rep G F δ M σ H) (h : Opn G F δ σ v d) (q : seqOf M d = some xs) : ∃ a vs, v = .ref a ∧ SqL G.K H a vs ∧ Rs G.K F vs xs := by
  unfold seqOf at q
  split at q
  · cases q
    obtain ⟨a, vs, h0, h1, h2⟩ := h.lst rep
    exact ⟨a, vs, h0, .inl (.inl h1), h2⟩
  · cases q
    obtain ⟨a, vs, h0, h1, h2⟩ := (h.val (fun _ z => by cases z)).lsk_inv
    exact ⟨a, vs, h0, ex_l rep.fr.ex h1, h2⟩
  · split at q
    · rename_i e
      cases q
      have hv := (h.val (fun _ z => by cases z)).ref_inv
      obtain ⟨vs, h1, h2⟩ := (rep.fr.mem _ _ e).2
      exact ⟨_, vs, hv, .inl (.inl h1), h2⟩
    · cases q
  · cases q
def fLen : FC := fun ds M Q => ∃ d, ds = [d] ∧ match d with
  | .str s => s.length ≤ sizeLine ∧ Q (.d (.int s.length)) M
  | .tup xs => Q (.d (.int xs.length)) M
  | d => ∃ xs, seqOf M d = some xs ∧ Q (.d (.int xs.length)) M
theorem cl_len : CallL G (fun xs H Q => ∃ x n, xs = [x] ∧ LenV G.K x H n ∧ Q (.int n) H) fLen := by
  intro F δ M σ H vs ds Q Qv rep hs h k
  obtain ⟨d, rfl, h⟩ := h
  obtain ⟨v, rfl, o⟩ := hs.one
  split at h
  · obtain rfl := opn_str o
    exact ⟨_, _, rfl, ⟨h.1, rfl⟩, k (.d (.int _)) _ F M H rep (Ex.refl F) (R.int _) h.2⟩
  · obtain ⟨a, us, rfl, h1, h2⟩ := o.tup rep
    exact ⟨_, _, rfl, .inr ⟨us, h1, rfl⟩, k (.d (.int _)) _ F M H rep (Ex.refl F) (by rw [h2.length]; exact R.int _) h⟩
  · obtain ⟨xs, q, h⟩ := h
    obtain ⟨a, us, rfl, h1, h2⟩ := seqOf_at rep o q
    exact ⟨_, _, rfl, .inl ⟨us, h1, rfl⟩, k (.d (.int _)) _ F M H rep (Ex.refl F) (by rw [h2.length]; exact R.int _) h⟩
def fMin2 : FC := fun ds M Q => ∃ i j, ds = [.int i, .int j] ∧ Q (.d (.int (if j < i then j else i))) M
def fMax2 : FC := fun ds M Q => ∃ i j, ds = [.int i, .int j] ∧ Q (.d (.int (if j > i then j else i))) M
theorem cl_min2 : CallL G (fun xs H Q => ∃ i j, xs = [.int i, .int j] ∧ Q (.int (if j < i then j else i)) H) fMin2 := by
  intro F δ M σ H vs ds Q Qv rep hs h k
  obtain ⟨i, j, rfl, h⟩ := h
  obtain ⟨v, u, rfl, o1, o2⟩ := hs.two
  rw [opn_int o1, opn_int o2]
  exact ⟨i, j, rfl, k (.d (.int _)) _ F M H rep (Ex.refl F) (R.int _) h⟩
theorem cl_max2 : CallL G (fun xs H Q => ∃ i j, xs = [.int i, .int j] ∧ Q (.int (if j > i then j else i)) H) fMax2 := by
  intro F δ M σ H vs ds Q Qv rep hs h k
  obtain ⟨i, j, rfl, h⟩ := h
  obtain ⟨v, u, rfl, o1, o2⟩ := hs.two
  rw [opn_int o1, opn_int o2]
  exact ⟨i, j, rfl, k (.d (.int _)) _ F M H rep (Ex.refl F) (R.int _) h⟩
def fInt : FC := fun ds M Q => ∃ d, ds = [d] ∧ match d with
  | .int i => Q (.d (.int i)) M
  | .bl c => Q (.d (.int (if c = true then 1 else 0))) M
  | _ => False
theorem cl_int1 : CallL G (fun xs H Q => (∃ i, xs = [.int i] ∧ Q (.int i) H) ∨ ∃ k, xs = [.bl k] ∧ Q (.int (if k then 1 else 0)) H) fInt := by
  intro F δ M σ H vs ds Q Qv rep hs h k
  obtain ⟨d, rfl, h⟩ := h
  obtain ⟨v, rfl, o⟩ := hs.one
  split at h
  · obtain rfl := opn_int o
    exact .inl ⟨_, rfl, k (.d (.int _)) _ F M H rep (Ex.refl F) (R.int _) h⟩
  · obtain rfl := opn_bl o
    exact .inr ⟨_, rfl, k (.d (.int _)) _ F M H rep (Ex.refl F) (R.int _) h⟩
  · exact h.elim
def fStrI : FC := fun ds M Q => ∃ i, ds = [.int i] ∧ i.natAbs.log2 < 1920 ∧ Q (.d (.str (toString i))) M
theorem cl_strI : CallL G (fun xs H Q => ∃ i, xs = [.int i] ∧ i.natAbs.log2 < 1920 ∧ Q (.str (toString i)) H) fStrI := by
  intro F δ M σ H vs ds Q Qv rep hs h k
  obtain ⟨i, rfl, h1, h⟩ := h
  obtain ⟨v, rfl, o⟩ := hs.one
  obtain rfl := opn_int o
  exact ⟨_, rfl, h1, k (.d (.str _)) _ F M H rep (Ex.refl F) (R.str _) h⟩
/-- tuple(x), list(x) -/
def fTuple : FC := fun ds M Q => ∃ d, ds = [d] ∧ match d with
  | .tup xs => Q (.d (.tup xs)) M
  | d => ∃ xs, seqOf M d = some xs ∧ Q (.d (.tup xs)) M
theorem cl_tuple : CallL G (fun xs H Q => ∃ p ys, xs = [.ref p] ∧ ((SqL G.K H p ys ∧ ∀ l, H l = none → Q (.ref l) (upd H l (.tup ys))) ∨ (SqT G.K H p ys ∧ Q (.ref p) H))) fTuple := by
  intro F δ M σ H vs ds Q Qv rep hs h k
  obtain ⟨d, rfl, h⟩ := h
  obtain ⟨v, rfl, o⟩ := hs.one
  split at h
  · obtain ⟨a, us, rfl, h1, h2⟩ := (o.val (fun _ z => by cases z)).tup_inv
    exact ⟨a, us, rfl, .inr ⟨ex_t rep.fr.ex h1, k (.d (.tup _)) _ F M H rep (Ex.refl F) (R.tup h1 h2) h⟩⟩
  · obtain ⟨xs, q, h⟩ := h
    obtain ⟨a, us, rfl, h1, h2⟩ := seqOf_at rep o q
    exact ⟨a, us, rfl, .inl ⟨h1, fun l hl => k (.d (.tup _)) _ _ M _ (rep.addF hl (.tup us)) (Ex.new (rep.fr.f_none hl)) (R.tup (.inl (.inl upd_same)) (h2.mono (Ex.new (rep.fr.f_none hl)))) h⟩⟩
def fList : FC := fun ds M Q => ∃ d, ds = [d] ∧ match d with
  | .tup xs => Q (.own xs) M
  | d => ∃ xs, seqOf M d = some xs ∧ Q (.own xs) M
theorem cl_list : CallL G (fun xs H Q => ∃ p ys, xs = [.ref p] ∧ (SqL G.K H p ys ∨ SqT G.K H p ys) ∧ ∀ l, H l = none → Q (.ref l) (upd H l (.lst ys))) fList := by
  intro F δ M σ H vs ds Q Qv rep hs h k
  obtain ⟨d, rfl, h⟩ := h
  obtain ⟨v, rfl, o⟩ := hs.one
  split at h
  · obtain ⟨a, us, rfl, h1, h2⟩ := (o.val (fun _ z => by cases z)).tup_inv
    exact ⟨a, us, rfl, .inr (ex_t rep.fr.ex h1), fun l hl => k (.own _) _ F M _ (rep.addH hl (.lst us)) (Ex.refl F) (rep.addOwn hl h2) h⟩
  · obtain ⟨xs, q, h⟩ := h
    obtain ⟨a, us, rfl, h1, h2⟩ := seqOf_at rep o q
    exact ⟨a, us, rfl, .inl h1, fun l hl => k (.own _) _ F M _ (rep.addH hl (.lst us)) (Ex.refl F) (rep.addOwn hl h2) h⟩
/-- sum of a list of ints -/
def fSum : FC := fun ds M Q => ∃ (d : D) (ns : List Int), ds = [d] ∧ seqOf M d = some (ns.map D.int) ∧ Q (.d (.int ns.sum)) M
theorem cl_sum : CallL G (rSum G.K) fSum := by
  intro F δ M σ H vs ds Q Qv rep hs h k
  obtain ⟨d, ns, rfl, q, h⟩ := h
  obtain ⟨v, rfl, o⟩ := hs.one
  obtain ⟨a, us, rfl, h1, h2⟩ := seqOf_at rep o q
  obtain rfl := h2.ints
  exact ⟨a, ns, rfl, h1, k (.d (.int _)) _ F M H rep (Ex.refl F) (R.int _) h⟩
def fAll : FC := fun ds M Q => ∃ (d : D) (bs : List Bool), ds = [d] ∧ seqOf M d = some (bs.map D.bl) ∧ Q (.d (.bl (bs.all id))) M
theorem cl_all : CallL G (rAll G.K) fAll := by
  intro F δ M σ H vs ds Q Qv rep hs h k
  obtain ⟨d, ns, rfl, q, h⟩ := h
  obtain ⟨v, rfl, o⟩ := hs.one
  obtain ⟨a, us, rfl, h1, h2⟩ := seqOf_at rep o q
  obtain rfl := h2.bls
  exact ⟨a, ns, rfl, h1, k (.d (.bl _)) _ F M H rep (Ex.refl F) (R.bl _) h⟩
/-! ### subscripts -/
def fIx : F2 := fun x y M Q => ∃ i, y = .int i ∧ match x with
  | .tup xs => ∃ d, atI xs i = some d ∧ Q (.d d) M
  | .str z => z.length ≤ sizeLine ∧ ∃ c, atI z.cps.toList i = some c ∧ Q (.d (.str ⟨#[c]⟩)) M
  | d => ∃ xs d', seqOf M d = some xs ∧ atI xs i = some d' ∧ Q (.d d') M
theorem atI_rs {K : PySem.W.Frag} {F : Hp} {vs : List V} {ds : List D} {i : Int} {d : D} (r : Rs K F vs ds) (h : atI ds i = some d) : ∃ v, atI vs i = some v ∧ R K F v d := by
  unfold atI at h ⊢
  rw [r.length]
  cases e : ixN ds.length i with
  | none => rw [e] at h; cases h
  | some j =>
    rw [e] at h
    exact r.get h
theorem opl_ix : OpL G (rIx G.K) fIx := by
  intro F δ M σ H v u x y Q Qv rep hx hy h k
  obtain ⟨i, rfl, h⟩ := h
  obtain rfl := opn_int hy
  split at h
  · obtain ⟨d, q, h⟩ := h
    obtain ⟨a, us, rfl, h1, h2⟩ := hx.tup rep
    obtain ⟨w, q1, q2⟩ := atI_rs h2 q
    exact .inr (.inl ⟨a, us, i, w, rfl, rfl, h1, q1, k (.d d) w F M H rep (Ex.refl F) q2 h⟩)
  · obtain ⟨hz, d, q, h⟩ := h
    obtain rfl := opn_str hx
    exact .inr (.inr ⟨_, i, d, rfl, rfl, hz, q, k (.d (.str _)) _ F M H rep (Ex.refl F) (R.str _) h⟩)
  · obtain ⟨xs, d, q0, q, h⟩ := h
    obtain ⟨a, us, rfl, h1, h2⟩ := seqOf_at rep hx q0
    obtain ⟨w, q1, q2⟩ := atI_rs h2 q
    exact .inl ⟨a, us, i, w, rfl, rfl, h1, q1, k (.d d) w F M H rep (Ex.refl F) q2 h⟩
theorem d_ix (hk : X.K = G.K) (ha : PE X a (LO G W ta)) (hb : PE X b (LO G W tb)) (hs : PlainIx b := by intro _ _; rfl) : PE X (.Subscript a b pos) (LE G W (dBin fIx ta tb)) :=
  pe_imp (pe_ix ix_seq ha hb hs) fun _ _ _ h => by rw [hk]; exact bin_l opl_ix h
/-! ### slices -/
abbrev DO := DS → MH → (Option Int → MH → Prop) → XP → Prop
def LP (G : Gd) (W : WX) (td : DO) : TO := fun σ H Q => ∃ F δ M Qd Ed, Rep G F δ M σ H ∧ td δ M Qd Ed ∧
  (∀ o F' M' H', Rep G F' δ M' σ H' → Ex F F' → Qd o M' → Q o H') ∧ XOk G W δ σ Ed
def pNone : DO := fun _ M Q _ => Q none M
def pSome (t : DE) : DO := fun δ M Q E => t δ M (fun r M' => ∃ i, r = .d (.int i) ∧ Q (some i) M') E
theorem po_imp {o : Option Expr} {t t' : TO} (h : PO X o t) (k : ∀ σ H Q, t' σ H Q → t σ H Q) : PO X o t' := ⟨fun pins s σ H Q I z => h.run pins s σ H Q I (k σ H Q z)⟩
theorem p_none : PO X none (LP G W pNone) := po_imp po_none fun σ H Q ⟨F, δ, M, Qd, Ed, rep, q, k, x⟩ => k _ F M H rep (Ex.refl F) q
theorem p_some {t : DE} (h : PE X e (LE G W t)) : PO X (some e) (LP G W (pSome t)) := po_imp (po_some h) fun σ H Q ⟨F, δ, M, Qd, Ed, rep, q, k, x⟩ => ⟨F, δ, M, _, Ed, rep, q, fun r v F1 M1 H1 rep1 e1 s1 ⟨i, hi, q1⟩ => by
  subst hi
  cases s1
  exact ⟨i, rfl, k _ F1 M1 H1 rep1 e1 q1⟩, x⟩
abbrev FS := D → Option Int → Option Int → MH → (Sl → MH → Prop) → Prop
def cutD (xs : List D) (lo hi : Option Int) : List D := (xs.drop (HT.sIx xs.length 0 lo)).take (HT.sIx xs.length xs.length hi - HT.sIx xs.length 0 lo)
theorem rs_cut {K : PySem.W.Frag} {F : Hp} {vs : List V} {ds : List D} {lo hi : Option Int} (r : Rs K F vs ds) : Rs K F (cutV vs lo hi) (cutD ds lo hi) := by
  unfold cutV cutD
  rw [r.length]
  exact (r.drop _).take _
def fSl : FS := fun x lo hi M Q => match x with
  | .tup xs => Q (.d (.tup (cutD xs lo hi))) M
  | .str z => z.length ≤ sizeLine ∧ Q (.d (.str (cutS z lo hi))) M
  | d => ∃ xs, seqOf M d = some xs ∧ Q (.own (cutD xs lo hi)) M
def dSl (f : FS) (t : DX) (tl th : DO) : DE := fun δ M Q E => t δ M (fun x M1 => tl δ M1 (fun l M2 => th δ M2 (fun u M3 => f x l u M3 Q) E) E) E
def rSlU (K : PySem.W.Frag) : V → Option Int → Option Int → Hp → VK → Prop := fun x lo hi H Q => rSlL K x lo hi H Q ∨ (rSlA K x lo hi H Q ∨ rSlS x lo hi H Q)
theorem sl_u : SlR X (rSlU X.K) := sl_list.or (sl_tupA.or sl_str)
theorem cut_whole {vs : List V} {lo hi : Option Int} (h : HT.sIx vs.length 0 lo = 0 ∧ HT.sIx vs.length vs.length hi = vs.length) : cutV vs lo hi = vs := by
  unfold cutV
  rw [h.1, h.2]
  simp
theorem d_slice {tl th : DO} {lo hi : Option Expr} {p2 : Pos} (hk : X.K = G.K) (he : PE X e (LO G W ta)) (hl : PO X lo (LP G W tl)) (hu : PO X hi (LP G W th)) : PE X (.Subscript e (.Slice lo hi none p2) pos) (LE G W (dSl fSl ta tl th)) :=
  pe_imp (pe_slice sl_u he hl hu) fun σ H Q ⟨F, δ, M, Qd, Ed, rep, q, k, x⟩ => ⟨F, δ, M, _, Ed, rep, q, fun d v F1 M1 H1 rep1 e1 s1 q1 => ⟨F1, δ, M1, _, Ed, rep1, q1, fun o1 F2 M2 H2 rep2 e2 q2 => ⟨F2, δ, M2, _, Ed, rep2, q2, fun o2 F3 M3 H3 rep3 e3 q3 => by
    have s3 := s1.mono (e2.trans e3)
    have e0 := e1.trans (e2.trans e3)
    rw [hk]
    unfold fSl at q3
    split at q3
    · obtain ⟨a, us, rfl, h1, h2⟩ := (s3.val (fun _ z => by cases z)).tup_inv
      refine .inr (.inl ⟨a, us, rfl, ex_t rep3.fr.ex h1, fun w => ?_, fun w p hp => ?_⟩)
      · refine k (.d (.tup _)) _ F3 M3 H3 rep3 e0 (R.tup h1 ?_) q3
        have z := rs_cut (lo := o1) (hi := o2) h2
        rw [cut_whole w] at z
        exact z
      · exact k (.d (.tup _)) _ _ M3 _ (rep3.addF hp _) (e0.trans (Ex.new (rep3.fr.f_none hp))) (R.tup (.inl (.inl upd_same)) ((rs_cut h2).mono (Ex.new (rep3.fr.f_none hp)))) q3
    · obtain rfl := opn_str s3
      exact .inr (.inr ⟨_, rfl, q3.1, k (.d (.str _)) _ F3 M3 H3 rep3 e0 (R.str _) q3.2⟩)
    · obtain ⟨xs, q0, q3⟩ := q3
      obtain ⟨a, us, rfl, h1, h2⟩ := seqOf_at rep3 s3 q0
      exact .inl ⟨a, us, rfl, h1, fun p hp => k (.own _) _ F3 M3 _ (rep3.addH hp _) e0 (rep3.addOwn hp (rs_cut h2)) q3⟩, x⟩, x⟩, x⟩
/-! ### isinstance of a built-in type -/
inductive Ty where
  | int | bool | str | tuple | list | dict
def Ty.nm : Ty → String
  | .int => "int" | .bool => "bool" | .str => "str" | .tuple => "tuple" | .list => "list" | .dict => "dict"
def isi : Ty → D → Bool
  | .int, .int _ => true
  | .int, .bl _ => true
  | .bool, .bl _ => true
  | .str, .str _ => true
  | .tuple, .tup _ => true
  | .list, .lst _ => true
  | _, _ => false
def isiM : Ty → MO → Option Bool
  | .list, .lst _ => some true
  | _, .lst _ => some false
  | .dict, .dk _ => some true
  | _, .dk _ => some false
  | _, _ => none
def fIsi (t : Ty) (x : D) (M : MH) (Q : Bool → Prop) : Prop := match x with
  | .ref a => ∃ mo b, M a = some mo ∧ isiM t mo = some b ∧ Q b
  | .lsk _ => False
  | x => Q (isi t x)
def dIsi (t : Ty) (ta : DX) : DT := fun δ M Q E => ta δ M (fun x M1 => fIsi t x M1 fun b => Q b M1) E
theorem tyX_tup {K : PySem.W.Frag} {H : Hp} {a : Addr} {xs : List V} (h : SqT K H a xs) : TyX K H (.ref a) (.type "tuple") := by
  rcases h with (h | ⟨o, h⟩) | ⟨o, its, n, h, c, _⟩
  · exact .base (.tup h)
  · exact .fTuple h
  · exact .kTuple h c
theorem kitB_list (t : Ty) : kitB "list" t.nm = some (match t with | .list => true | _ => false) := by cases t <;> decide +kernel
theorem kitB_dict (t : Ty) : kitB "dict" t.nm = some (match t with | .dict => true | _ => false) := by cases t <;> decide +kernel
theorem kitB_tuple (t : Ty) : kitB "tuple" t.nm = some (match t with | .tuple => true | _ => false) := by cases t <;> decide +kernel
theorem kitB_str (t : Ty) : kitB "str" t.nm = some (match t with | .str => true | _ => false) := by cases t <;> decide +kernel
theorem kitB_int (t : Ty) : kitB "int" t.nm = some (match t with | .int => true | _ => false) := by cases t <;> decide +kernel
theorem kitB_bool (t : Ty) : kitB "bool" t.nm = some (match t with | .int => true | .bool => true | _ => false) := by cases t <;> decide +kernel
theorem kitB_non (t : Ty) : kitB "NoneType" t.nm = some false := by cases t <;> decide +kernel
theorem tyOf_d {F : Hp} {δ : DS} {M : MH} {σ : L2.St} {H : Hp} {v : V} {x : D} {t : Ty} {Q : Bool → Prop} (rep : Rep G F δ M σ H) (h : Opn G F δ σ v x) (q : fIsi t x M Q) : ∃ n b, TyX G.K H v (.type n) ∧ kitB n t.nm = some b ∧ Q b := by
  cases x with
  | non => obtain rfl := opn_non h; exact ⟨_, _, .base .non, kitB_non t, by cases t <;> exact q⟩
  | bl b => obtain rfl := opn_bl h; exact ⟨_, _, .base (.bl b), kitB_bool t, by cases t <;> exact q⟩
  | int i => obtain rfl := opn_int h; exact ⟨_, _, .base (.int i), kitB_int t, by cases t <;> exact q⟩
  | str s => obtain rfl := opn_str h; exact ⟨_, _, .base (.str s), kitB_str t, by cases t <;> exact q⟩
  | tup ds =>
    obtain ⟨a, us, rfl, h1, h2⟩ := h.tup rep
    exact ⟨_, _, tyX_tup h1, kitB_tuple t, by cases t <;> exact q⟩
  | lst ds =>
    obtain ⟨a, us, rfl, h1, h2⟩ := h.lst rep
    exact ⟨_, _, .base (.lst h1), kitB_list t, by cases t <;> exact q⟩
  | lsk a => exact q.elim
  | ref a =>
    obtain ⟨mo, b, e, e2, q⟩ := q
    obtain rfl := (h.val (fun _ z => by cases z)).ref_inv
    have m := (rep.fr.mem _ _ e).2
    cases mo with
    | lst xs =>
      obtain ⟨vs, h1, _⟩ := m
      refine ⟨_, _, .base (.lst h1), kitB_list t, ?_⟩
      cases t <;> (cases e2; exact q)
    | dk xs =>
      obtain ⟨vs, h1, _⟩ := m
      refine ⟨_, _, .base (.dK h1), kitB_dict t, ?_⟩
      cases t <;> (cases e2; exact q)
    | ins C fs => cases t <;> cases e2
    | exc C fs => cases t <;> cases e2
def tIsi (K : PySem.W.Frag) (t : Ty) (ta : TE) : TE := tCB (rIsi K) (tCons ta (tCons (tC (.ty t.nm)) tNil))
theorem isi_l {t : Ty} {σ : L2.St} {H : Hp} {Q : VK} (h : LE G W (dOfT (dIsi t ta)) σ H Q) : tIsi G.K t (LO G W ta) σ H Q := by
  obtain ⟨F, δ, M, Qd, Ed, rep, q, k, x⟩ := h
  refine ⟨F, δ, M, _, Ed, rep, q, fun d v F1 M1 H1 rep1 e1 s1 q1 => ?_, x⟩
  obtain ⟨n, b, h1, h2, h3⟩ := tyOf_d rep1 s1 q1
  exact ⟨v, _, .type n, _, b, rfl, .ty _, h1, kit_ty h2, k (.d (.bl b)) _ F1 M1 H1 rep1 e1 (R.bl b) h3⟩
/-- isinstance(x, T) as a value -/
theorem d_isi (t : Ty) {T : Str} {pT pI : Pos} (hk : X.K = G.K) (hg : Gl X "isinstance") (hm : X.mg "isinstance" = none) (hgT : Gl X T) (hmT : X.mg T = none) (hvT : bootBuiltins T = some (.type t.nm)) (ha : PE X a (LO G W ta))
    (hn : T ≠ "__name__" := by decide) (hdb : (T == ("__debug__" : Str)) = false := by decide)
    (he : starEach [a, .Name T pT] X.env = (false, eval a X.env) :: starEach [.Name T pT] X.env := by rfl) (he2 : starEach [.Name T pT] X.env = (false, eval (.Name T pT) X.env) :: starEach [] X.env := by rfl)
    (hpl : (backTo pos (starEach [.Name T pT] X.env)).any (·.1) = false := by rfl) :
    PE X (.Call (.Name "isinstance" pI) [a, .Name T pT] [] pos) (LE G W (dOfT (dIsi t ta))) :=
  pe_imp (pe_callB call_isi hg hm (by decide +kernel) (pa_cons ha (pa_cons (pe_bltn (v := .ty t.nm) hgT hmT hvT rfl hn hdb) pa_nil he2) he) (by decide) (by decide) he hpl) fun _ _ _ h => by rw [hk]; exact isi_l h
end
end DL

set_option Elab.async false
set_option linter.all false
set_option maxRecDepth 100000
set_option maxHeartbeats 2000000
namespace DL
open PySem L2
/-- a def's promise over data -/
abbrev SpD := List D → MH → (Sl → MH → Prop) → (Addr → List (Str × D) → MH → Prop) → Prop
def LSp (K : PySem.W.Frag) (sp : SpD) : Sp := fun vs H Q E => ∃ F M ds Qd Ed, Ex F H ∧ (∀ a mo, M a = some mo → F a = none ∧ MoR K F H a mo) ∧ Rs K F vs ds ∧ sp ds M Qd Ed ∧
  (∀ r v F' M' H', Fra ⟨K, H, F, M⟩ F' M' H' → RetR ⟨K, H, F, M⟩ F' M' H' v r → Qd r M' → Q v H') ∧
  (∀ C fs F' M' H' dx fv, Fra ⟨K, H, F, M⟩ F' M' H' → H' dx = some (.xd fv) → Fds K F' fv fs → H dx = none → Ed C fs M' → E (.ref C) (some dx) H')
section
variable {X : Cx} {G : Gd} {W : WX} {e a b c : Expr} {es : List Expr} {pos p : Pos} {ta tb tc : DX}
theorem Fra.call {F F' : Hp} {M M' : MH} {H H' : Hp} (r : Fra G F M H) (f : Fra ⟨G.K, H, F, M⟩ F' M' H') : Fra G F' M' H' where
  ex := f.ex
  ex0 := r.ex0.trans f.ex0
  keep := fun a o h m => f.keep a o (r.keep a o h m) (by
    cases e : M a with
    | none => exact e
    | some mo =>
      rcases r.newM a (by rw [e]; simp) with q | q
      · exact absurd m q
      · rw [q] at h; cases h)
  newF := fun a h => by
    rcases f.newF a h with q | q
    · exact r.newF a q
    · exact .inr (r.h0 q)
  newM := fun a h => by
    rcases f.newM a h with q | q
    · exact r.newM a q
    · exact .inr (r.h0 q)
  dom := fun a h => f.dom a (r.dom a h)
  domM := fun a h => f.domM a (r.domM a h)
  mem := f.mem
theorem Rep.call {F F' : Hp} {δ : DS} {M M' : MH} {σ : L2.St} {H H' : Hp} (r : Rep G F δ M σ H) (f : Fra ⟨G.K, H, F, M⟩ F' M' H') : Rep G F' δ M' σ H' where
  fr := r.fr.call f
  len := r.len
  val := fun i x h => by
    obtain ⟨v, h1, h2⟩ := r.val i x h
    exact ⟨v, h1, h2.mono f.ex0⟩
  own := fun i xs h => by
    obtain ⟨a, h1, vs, h2, h3, h4, h5, h6⟩ := r.own i xs h
    refine ⟨a, h1, vs, f.keep a _ h2 h5, h3.mono f.ex0, ?_, ?_, h6⟩
    · cases e : F' a with
      | none => rfl
      | some o =>
        rcases f.newF a (by rw [e]; simp) with q | q
        · exact absurd h4 q
        · have q' : H a = none := q
          rw [q'] at h2; cases h2
    · cases e : M' a with
      | none => rfl
      | some o =>
        rcases f.newM a (by rw [e]; simp) with q | q
        · exact absurd h5 q
        · have q' : H a = none := q
          rw [q'] at h2; cases h2
  inj := r.inj
theorem RetR.sv {F F' : Hp} {δ : DS} {M M' : MH} {σ : L2.St} {H H' : Hp} {v : V} {x : Sl} (r : Rep G F δ M σ H) (h : RetR ⟨G.K, H, F, M⟩ F' M' H' v x) : SvR G F' δ M' σ H' v x := by
  cases x with
  | d x => exact h
  | own xs =>
    obtain ⟨a, rfl, vs, h1, h2, h3, h4, h5⟩ := h
    have h5' : H a = none := h5
    refine ⟨a, rfl, ⟨vs, h1, h2, h3, h4, r.fr.h0 h5'⟩, fun i ys q z => ?_⟩
    obtain ⟨b, g1, us, g2, _⟩ := r.own i ys q
    rw [z] at g1
    cases g1
    rw [h5'] at g2; cases g2
def dCall (sp : SpD) (t : DA) : DE := fun δ M Q E => t δ M (fun ds M1 => sp ds M1 Q (fun C fs M2 => E C fs δ M2)) E
theorem call_l {sp : SpD} {t : DA} {σ : L2.St} {H : Hp} {Q : VK} (h : LE G W (dCall sp t) σ H Q) : tCallS (LSp G.K sp) (WE W) (LA G W t) σ H Q := by
  obtain ⟨F, δ, M, Qd, Ed, rep, q, k, x⟩ := h
  exact ⟨F, δ, M, _, Ed, rep, q, fun ds vs F1 M1 H1 rep1 e1 s1 q1 => ⟨F1, M1, ds, Qd, _, rep1.fr.ex, rep1.fr.mem, s1, q1,
    fun r v F' M' H' f ret q' => k r v F' M' H' (rep1.call f) (e1.trans f.ex0) (ret.sv rep1) q',
    fun C fs F' M' H' dx fv f hd hf h0 q' => x C fs F' M' H' dx fv (rep1.call f) hd hf (rep1.fr.h0 h0) q'⟩, x⟩
theorem d_call {n k : Nat} {f : Addr} {fd : FuncData} {ps : List Str} {sp : SpD} {x : Str} {t : DA} (F : FnOk X.prog X.w X.K X.mg X.base (L2.CX X.prog X.w) k f fd ps (LSp X.K sp)) (hK : X.K = G.K) (hr : Room k X.A) (hg : Gl X x) (hm : X.mg x = some (.ref f)) (hk : PySem.W.keepIn X.K (.ref f) = true)
    (hb : Binds X.K fd ps []) (tk : Takes X W) (ha : PA X (e :: es) (LA G W t)) (hdb : (x == ("__debug__" : Str)) = false := by decide)
    (he : starEach (e :: es) X.env = (false, eval e X.env) :: starEach es X.env := by rfl) (hpl : (backTo pos (starEach es X.env)).any (·.1) = false := by rfl) :
    PE X (.Call (.Name x p) (e :: es) [] pos) (LE G W (dCall sp t)) :=
  pe_imp (pe_callS F hr hg hm hk hb (fun σ => passAt tk σ) ha hdb he hpl) fun _ _ _ h => by rw [hK]; exact call_l h
end
/-! ### statements -/
section
variable {X : Cx} {G : Gd} {W : WX} {e a b c : Expr} {es : List Expr} {pos p : Pos} {ta tb tc : DX} {st : Stmt} {rest body orelse : List Stmt} {t u : DP}
theorem EndsOk.mono {F F' : Hp} {D : Ends} {E : DEnds} (ok : EndsOk G W F D E) (e : Ex F F') : EndsOk G W F' D E :=
  ⟨fun F2 δ M σ H r e2 q => ok.nx F2 δ M σ H r (e.trans e2) q, ok.rt, fun F2 δ M σ H r e2 q => ok.bk F2 δ M σ H r (e.trans e2) q, fun F2 δ M σ H r e2 q => ok.ct F2 δ M σ H r (e.trans e2) q, ok.ex⟩
def sNext : DP := fun E δ M => E.nx δ M
def sSeq (t u : DP) : DP := fun E δ M => t { E with nx := fun δ' M' => u E δ' M' } δ M
theorem ss_nil : PSs X [] (LS G W sNext) := pss_imp pss_nil fun D σ H ⟨F, δ, M, E, rep, q, ok⟩ => ok.nx F δ M σ H rep (Ex.refl F) q
theorem ss_cons (h1 : PS X st (LS G W t)) (h2 : PSs X rest (LS G W u)) : PSs X (st :: rest) (LS G W (sSeq t u)) :=
  pss_imp (pss_cons h1 h2) fun D σ H ⟨F, δ, M, E, rep, q, ok⟩ => ⟨F, δ, M, _, rep, q, fun F' δ' M' σ' H' r' e' q' => ⟨F', δ', M', E, r', q', ok.mono e'⟩, ok.rt, ok.bk, ok.ct, ok.ex⟩
theorem ss_one (h1 : PS X st (LS G W t)) : PSs X [st] (LS G W t) := pss_one h1
def sBreak : DP := fun E δ M => E.bk δ M
def sCont : DP := fun E δ M => E.ct δ M
theorem s_pass : PS X (.Pass pos) (LS G W sNext) := ps_imp ps_pass fun D σ H ⟨F, δ, M, E, rep, q, ok⟩ => ok.nx F δ M σ H rep (Ex.refl F) q
theorem s_doc {x j pos pos'} : PS X (.Expr (.Constant (.str x) j pos) pos') (LS G W sNext) := ps_imp ps_doc fun D σ H ⟨F, δ, M, E, rep, q, ok⟩ => ok.nx F δ M σ H rep (Ex.refl F) q
theorem s_break : PS X (.Break pos) (LS G W sBreak) := ps_imp ps_break fun D σ H ⟨F, δ, M, E, rep, q, ok⟩ => ok.bk F δ M σ H rep (Ex.refl F) q
theorem s_cont : PS X (.Continue pos) (LS G W sCont) := ps_imp ps_continue fun D σ H ⟨F, δ, M, E, rep, q, ok⟩ => ok.ct F δ M σ H rep (Ex.refl F) q
def sDrop (t : DE) : DP := fun E δ M => t δ M (fun _ M' => E.nx δ M') E.ex
theorem s_expr {t : DE} (he : PE X e (LE G W t)) (hs : swapsWith e none pos.line X.env = pure false := by rfl) : PS X (.Expr e pos) (LS G W (sDrop t)) :=
  ps_imp (ps_expr he hs) fun D σ H ⟨F, δ, M, E, rep, q, ok⟩ => ⟨F, δ, M, _, _, rep, q, fun r v F' M' H' r' e' s' q' => ok.nx F' δ M' σ H' r' e' q', ok.ex δ σ⟩
theorem SvR.ret {F : Hp} {δ : DS} {M : MH} {σ : L2.St} {H : Hp} {v : V} {x : Sl} (h : SvR G F δ M σ H v x) : RetR G F M H v x := by
  cases x with
  | d x => exact h
  | own xs => obtain ⟨a, h1, h2, _⟩ := h; exact ⟨a, h1, h2⟩
def sRet (t : DE) : DP := fun E δ M => t δ M (fun r M' => E.rt r M') E.ex
theorem s_ret {t : DE} (he : PE X e (LE G W t)) : PS X (.Return (some e) pos) (LS G W (sRet t)) :=
  ps_imp (ps_ret he) fun D σ H ⟨F, δ, M, E, rep, q, ok⟩ => ⟨F, δ, M, _, _, rep, q, fun r v F' M' H' r' e' s' q' => ok.rt r v F' M' H' r'.fr s'.ret q', ok.ex δ σ⟩
/-- return x, x a name: what it holds is handed over -/
def sRetV (i : Nat) : DP := fun E δ M => ∃ x, δ[i]? = some (some x) ∧ E.rt x M
theorem s_retV {i : Nat} (he : PE X e (tVar i)) : PS X (.Return (some e) pos) (LS G W (sRetV i)) :=
  ps_imp (ps_ret he) fun D σ H ⟨F, δ, M, E, rep, ⟨x, hx, q⟩, ok⟩ => by
    cases x with
    | d x =>
      obtain ⟨v, h1, h2⟩ := rep.val i x hx
      exact ⟨v, h1, ok.rt (.d x) v F M H rep.fr h2 q⟩
    | own xs =>
      obtain ⟨a, h1, h2⟩ := rep.own i xs hx
      exact ⟨_, h1, ok.rt (.own xs) _ F M H rep.fr ⟨a, rfl, h2⟩ q⟩
def sRetN : DP := fun E _ M => E.rt (.d .non) M
theorem s_retN : PS X (.Return none pos) (LS G W sRetN) := ps_imp ps_retN fun D σ H ⟨F, δ, M, E, rep, q, ok⟩ => ok.rt (.d .non) _ F M H rep.fr R.non q
def sIf (c : DT) (t u : DP) : DP := fun E δ M => c δ M (fun b M' => if b = true then t E δ M' else u E δ M') E.ex
theorem s_if {tc : DT} (hc : PT X c (LT G W tc)) (ha : PSs X body (LS G W t)) (hb : PSs X orelse (LS G W u)) : PS X (.If c body orelse pos) (LS G W (sIf tc t u)) :=
  ps_imp (ps_if hc ha hb) fun D σ H ⟨F, δ, M, E, rep, q, ok⟩ => ⟨F, δ, M, _, _, rep, q, fun b F' M' H' r' e' q' => by
    cases b with
    | true => exact ⟨F', δ, M', E, r', q', ok.mono e'⟩
    | false => exact ⟨F', δ, M', E, r', q', ok.mono e'⟩, ok.ex δ σ⟩
def sNever : DP := fun _ _ _ => False
theorem s_never : PS X st (LS G W sNever) := ps_imp ps_never fun D σ H ⟨F, δ, M, E, rep, q, ok⟩ => q
theorem ss_never : PSs X rest (LS G W sNever) := pss_imp pss_never fun D σ H ⟨F, δ, M, E, rep, q, ok⟩ => q
/-- x = e -/
def sAsg (t : DE) (i : Nat) : DP := fun E δ M => t δ M (fun r M' => E.nx (δ.set i (some r)) M') E.ex
theorem s_asg {i : Nat} {x : Str} {t : DE} {pos' : Pos} (hN : X.N.Nodup) (hi : X.N[i]? = some x) (hx : Loc X.env.scope x) (he : PE X e (LE G W t)) (hs : swapsWith e (some (.Name x pos')) pos.line X.env = pure false := by rfl)
    (hf : X.fn x = true ∨ X.env.scope.names.lookup x = some .local := by first | exact .inl rfl | exact .inr rfl | assumption) : PS X (.Assign [.Name x pos'] e pos) (LS G W (sAsg t i)) :=
  ps_imp (ps_set hN hi hx he hs hf) fun D σ H ⟨F, δ, M, E, rep, q, ok⟩ => ⟨F, δ, M, _, _, rep, q, fun r v F' M' H' r' e' s' q' => ok.nx F' _ M' _ H' (r'.setAny s') e' q', ok.ex δ σ⟩
/-! words for the proof alone -/
def frzS (i : Nat) (δ : DS) : DS := match δ[i]? with
  | some (some (.own xs)) => δ.set i (some (.d (.lst xs)))
  | _ => δ
theorem Rep.frzS {F : Hp} {δ : DS} {M : MH} {σ : L2.St} {H : Hp} (r : Rep G F δ M σ H) (i : Nat) : ∃ F', Rep G F' (DL.frzS i δ) M σ H ∧ Ex F F' := by
  unfold DL.frzS
  split
  · rename_i xs h
    exact r.frzSlot h
  · exact ⟨F, r, Ex.refl F⟩
/-- slot i is let go of as a value, ahead of t -/
def sFrz (i : Nat) (t : DP) : DP := fun E δ M => t E (frzS i δ) M
theorem ss_frz (i : Nat) (h : PSs X rest (LS G W t)) : PSs X rest (LS G W (sFrz i t)) := pss_imp h fun D σ H ⟨F, δ, M, E, rep, q, ok⟩ => by
  obtain ⟨F', r', e'⟩ := rep.frzS i
  exact ⟨F', _, M, E, r', q, ok.mono e'⟩
/-- slot i's own list is shared from here on -/
def sShare (i : Nat) (t : DP) : DP := fun E δ M => match δ[i]? with
  | some (some (.own xs)) => ∀ a, M a = none → t E (δ.set i (some (.d (.ref a)))) (mu M a (.lst xs))
  | _ => t E δ M
theorem ss_share (i : Nat) (h : PSs X rest (LS G W t)) : PSs X rest (LS G W (sShare i t)) := pss_imp h fun D σ H ⟨F, δ, M, E, rep, q, ok⟩ => by
  unfold sShare at q
  split at q
  · rename_i xs hi
    obtain ⟨a, h1, h2, r'⟩ := rep.shareSlot hi
    exact ⟨F, _, _, E, r', q a h1, ok⟩
  · exact ⟨F, δ, M, E, rep, q, ok⟩
/-- slot i's word is forgotten -/
def sForget (i : Nat) (t : DP) : DP := fun E δ M => t E (δ.set i none) M
theorem ss_forget (i : Nat) (h : PSs X rest (LS G W t)) : PSs X rest (LS G W (sForget i t)) := pss_imp h fun D σ H ⟨F, δ, M, E, rep, q, ok⟩ => ⟨F, _, M, E, rep.forget, q, ok⟩
/-- what follows is shown once, from Mid -/
def sCut (t u : DP) : DP := fun E δ M => ∃ Mid : DS → MH → Prop, t { E with nx := Mid } δ M ∧ ∀ δ' M', Mid δ' M' → u E δ' M'
theorem ss_cut (h1 : PS X st (LS G W t)) (h2 : PSs X rest (LS G W u)) : PSs X (st :: rest) (LS G W (sCut t u)) :=
  pss_imp (pss_cons h1 h2) fun D σ H ⟨F, δ, M, E, rep, ⟨Mid, q, qm⟩, ok⟩ => ⟨F, δ, M, _, rep, q, fun F' δ' M' σ' H' r' e' q' => ⟨F', δ', M', E, r', qm _ _ q', ok.mono e'⟩, ok.rt, ok.bk, ok.ct, ok.ex⟩
/-! ### targets -/
abbrev DG := D → DS → MH → (DS → MH → Prop) → Prop
abbrev DGs := List D → DS → MH → (DS → MH → Prop) → Prop
/-- slots outside js are as they were -/
structure Off (js : List Nat) (δ δ' : DS) (σ σ' : L2.St) : Prop where
  ld : δ'.length = δ.length
  ls : σ'.length = σ.length
  d : ∀ j, j ∉ js → δ'[j]? = δ[j]?
  s : ∀ j, j ∉ js → σ'[j]? = σ[j]?
theorem Off.refl {δ : DS} {σ : L2.St} {js : List Nat} : Off js δ δ σ σ := ⟨rfl, rfl, fun _ _ => rfl, fun _ _ => rfl⟩
theorem Off.trans {δ δ1 δ2 : DS} {σ σ1 σ2 : L2.St} {js : List Nat} (a : Off js δ δ1 σ σ1) (b : Off js δ1 δ2 σ1 σ2) : Off js δ δ2 σ σ2 :=
  ⟨b.ld.trans a.ld, b.ls.trans a.ls, fun j h => (b.d j h).trans (a.d j h), fun j h => (b.s j h).trans (a.s j h)⟩
theorem Off.mono {δ δ1 : DS} {σ σ1 : L2.St} {js ks : List Nat} (a : Off js δ δ1 σ σ1) (h : ∀ j ∈ js, j ∈ ks) : Off ks δ δ1 σ σ1 :=
  ⟨a.ld, a.ls, fun j z => a.d j fun q => z (h j q), fun j z => a.s j fun q => z (h j q)⟩
def LG (G : Gd) (js : List Nat) (tg : DG) : TG := fun v σ H Q => ∃ F δ M d Qd, Rep G F δ M σ H ∧ R G.K F v d ∧ tg d δ M Qd ∧
  ∀ F' δ' σ', Rep G F' δ' M σ' H → Ex F F' → Off js δ δ' σ σ' → Qd δ' M → Q σ' H
def LGs (G : Gd) (js : List Nat) (tg : DGs) : TGs := fun vs σ H Q => ∃ F δ M ds Qd, Rep G F δ M σ H ∧ Rs G.K F vs ds ∧ tg ds δ M Qd ∧
  ∀ F' δ' σ', Rep G F' δ' M σ' H → Ex F F' → Off js δ δ' σ σ' → Qd δ' M → Q σ' H
theorem pg_imp {t t' : TG} (h : PG X e t) (k : ∀ v σ H Q, t' v σ H Q → t v σ H Q) : PG X e t' := ⟨fun pins s σ H v u Q I r z => h.run pins s σ H v u Q I r (k v σ H Q z)⟩
theorem pgs_imp {t t' : TGs} (h : PGs X es t) (k : ∀ v σ H Q, t' v σ H Q → t v σ H Q) : PGs X es t' := ⟨fun pins s σ H v u Q I r z => h.run pins s σ H v u Q I r (k v σ H Q z)⟩
theorem pg_or {t t' : TG} (h : PG X e t) (h' : PG X e t') : PG X e (fun v σ H Q => t v σ H Q ∨ t' v σ H Q) := ⟨fun pins s σ H v u Q I r z => z.elim (h.run pins s σ H v u Q I r) (h'.run pins s σ H v u Q I r)⟩
def gN (i : Nat) : DG := fun d δ M Q => Q (δ.set i (some (.d d))) M
theorem off_set {δ : DS} {σ : L2.St} {i : Nat} {x : Option Sl} {v : Option V} : Off [i] δ (δ.set i x) σ (σ.set i v) :=
  ⟨List.length_set, List.length_set, fun j h => setNe (fun z => h (by rw [z]; exact List.mem_singleton.mpr rfl)), fun j h => setNe (fun z => h (by rw [z]; exact List.mem_singleton.mpr rfl))⟩
theorem g_name {i : Nat} {x : Str} (hN : X.N.Nodup) (hi : X.N[i]? = some x) (hx : Loc X.env.scope x) (hf : X.fn x = true ∨ X.env.scope.names.lookup x = some .local := by first | exact .inl rfl | exact .inr rfl | assumption) : PG X (.Name x pos) (LG G [i] (gN i)) :=
  pg_imp (pg_name hN hi hx hf) fun v σ H Q ⟨F, δ, M, d, Qd, rep, r, q, k⟩ => k F _ _ (rep.setD r) (Ex.refl F) off_set q
def gNilD : DGs := fun ds δ M Q => ds = [] ∧ Q δ M
def gConsD (t : DG) (u : DGs) : DGs := fun ds δ M Q => ∃ d r, ds = d :: r ∧ t d δ M fun δ' M' => u r δ' M' Q
theorem gs_nil : PGs X [] (LGs G [] gNilD) := pgs_imp pgs_nil fun vs σ H Q ⟨F, δ, M, ds, Qd, rep, r, ⟨h1, q⟩, k⟩ => by
  subst h1
  cases r
  exact ⟨rfl, k F δ σ rep (Ex.refl F) Off.refl q⟩
theorem gs_cons {t : DG} {u : DGs} {js ks : List Nat} (h1 : PG X e (LG G js t)) (h2 : PGs X es (LGs G ks u))
    (hs : (assignEach (e :: es) X.env).map (·.2) = assign e X.env :: (assignEach es X.env).map (·.2) := by rfl) : PGs X (e :: es) (LGs G (js ++ ks) (gConsD t u)) :=
  pgs_imp (pgs_cons h1 h2 hs) fun vs σ H Q ⟨F, δ, M, ds, Qd, rep, r, ⟨d, rs, h1, q⟩, k⟩ => by
    subst h1
    cases r with
    | cons r1 r2 =>
      exact ⟨_, _, rfl, F, δ, M, d, _, rep, r1, q, fun F1 δ1 σ1 rep1 e1 o1 q1 => ⟨F1, δ1, M, rs, Qd, rep1, r2.mono e1, q1, fun F2 δ2 σ2 rep2 e2 o2 q2 =>
        k F2 δ2 σ2 rep2 (e1.trans e2) ((o1.mono fun j h => List.mem_append_left _ h).trans (o2.mono fun j h => List.mem_append_right _ h)) q2⟩⟩
def gTupD (n : Nat) (t : DGs) : DG := fun d δ M Q => ∃ xs, (d = .tup xs ∨ d = .lst xs) ∧ xs.length = n ∧ t xs δ M Q
theorem g_tup {k : Nat} {t : DGs} {js : List Nat} {n : Nat} (hK : X.K = G.K) (hc : X.calm = true) (h : PGs X es (LGs G js t))
    (hn : (assignEach es X.env).length = n := by rfl) (hst : (assignEach es X.env).findIdx? (·.1) = none := by rfl) : PG X (.Tuple es k pos) (LG G js (gTupD n t)) :=
  pg_imp (pg_or (pg_tup hc h hn hst) (pg_lst hc h hn hst)) fun v σ H Q ⟨F, δ, M, d, Qd, rep, r, ⟨xs, hd, hl, q⟩, k⟩ => by
    rcases hd with rfl | rfl
    · obtain ⟨a, vs, rfl, h1, h2⟩ := r.tup_inv
      exact .inl ⟨a, vs, rfl, by rw [hK]; exact ex_t rep.fr.ex h1, h2.length.trans hl, F, δ, M, xs, Qd, rep, h2, q, k⟩
    · obtain ⟨a, vs, rfl, h1, h2⟩ := r.lst_inv
      exact .inr ⟨a, vs, rfl, by rw [hK]; exact .inl (.inl (rep.fr.ex _ _ h1)), h2.length.trans hl, F, δ, M, xs, Qd, rep, h2, q, k⟩
/-- a, b = e -/
def sAsgT (t : DX) (g : DG) : DP := fun E δ M => t δ M (fun d M' => g d δ M' E.nx) E.ex
theorem s_asgT {tg : Expr} {t : DX} {g : DG} {js : List Nat} (he : PE X e (LV G W t)) (hg : PG X tg (LG G js g)) (hs : swapsWithSole [tg] e pos.line X.env = pure false := by rfl) (hw : swappedStores [tg] e X.env = pure none := by rfl)
    (h1 : (assignEach [tg] X.env).map (·.2) = [assign tg X.env] := by rfl) : PS X (.Assign [tg] e pos) (LS G W (sAsgT t g)) :=
  ps_imp (ps_asg he hg hs hw h1) fun D σ H ⟨F, δ, M, E, rep, q, ok⟩ => ⟨F, δ, M, _, _, rep, q, fun d v F1 M1 H1 rep1 e1 r1 q1 => ⟨F1, δ, M1, d, E.nx, rep1, r1, q1, fun F2 δ2 σ2 rep2 e2 o2 q2 => ok.nx F2 δ2 M1 σ2 H1 rep2 (e1.trans e2) q2⟩, ok.ex δ σ⟩
end
end DL

set_option Elab.async false
set_option linter.all false
set_option maxRecDepth 100000
set_option maxHeartbeats 2000000
namespace L2
open PySem PySem.Spec PyProof.Rows
/-! ### enumerate of a tuple -/
def IteT (K : PySem.W.Frag) (a : Addr) : It :=
  ⟨fun i H => ∃ (xs : List V) (x : V), SqT K H a xs ∧ xs[i]? = some x, fun i H v H' => ∃ T x, v = .ref T ∧ H T = none ∧ H' = upd H T (.tup [.int (i : Nat), x]) ∧ ∀ xs, SqT K H a xs → xs[i]? = some x, fun i H => ∃ xs : List V, SqT K H a xs ∧ xs.length ≤ i⟩
theorem meets_enumerate_newT (l : Addr) (items : Array Value) (n : Nat) (dct : Option Addr) (sl : Array (Option Value)) :
    Meets (Builtin.«enumerate.__new__» ⟨[.type "enumerate", .ref l], []⟩) (fun _ R s => s.heap.get? l = some { cls := .type "tuple", dict := dct, data := .seq items n, slots := sl } ∧
      R (.ok (.ret (.ref (s.heap.push { cls := .type "tuple_iterator", data := .fields #[.ref l, .int 0 0] }).objs.size)))
        { s with heap := (s.heap.push { cls := .type "tuple_iterator", data := .fields #[.ref l, .int 0 0] }).push { cls := .type "enumerate", data := .fields #[.none, .bool false, .ref s.heap.objs.size, rawInt 0, .none, .none] } }) :=
  .of_wp fun prog w A R s h => by
    obtain ⟨hp, g, d, tk, os⟩ := s; obtain ⟨hl, h⟩ := h
    have hsub := sub_enumerate
    have hL : Heap.IsTuple (Shared.heap ⟨hp, g, d, tk, os⟩) l items := ⟨_, hl, rfl, n, rfl⟩
    wp_walk using PySem.AutoSeq1.wpAny_loadPart' hl
    refine wpAny_stack_any fun st => wpAny_pure ?_
    split
    · rename_i c _ _ _ _ _
      cases (c == Value.type "enumerate")
      · wp_walk using PySem.AutoSeq1.wpAny_loadPart' hl, wpAny_pyIter_tuple hL
        exact ⟨_, rfl, h⟩
      · wp_walk using PySem.AutoSeq1.wpAny_loadPart' hl, wpAny_pyIter_tuple hL
        exact ⟨_, rfl, h⟩
    · wp_walk using PySem.AutoSeq1.wpAny_loadPart' hl, wpAny_pyIter_tuple hL
      exact ⟨_, rfl, h⟩
theorem call_enumerate_tuple {prog : Program} {w : World} {A : Around} {E : Value → Shared → Prop} {s : Shared} {l : Addr} {items : Array Value} {Q : Value → Shared → Prop} (hL : s.heap.IsTuple l items)
    (h : ∀ h', IsEnum h' (s.heap.objs.size + 1) s.heap.objs.size 0 .none → h'.IsTupleIter s.heap.objs.size l 0 → h'.objs.size = s.heap.objs.size + 2 →
      (∀ b o, s.heap.get? b = some o → h'.get? b = some o) → Q (.ref (s.heap.objs.size + 1)) { s with heap := h' }) :
    wpAny (model prog w) A (call (.type "enumerate") [.ref l]) Q E s := by
  obtain ⟨⟨c, dct, dt, sl⟩, hl, hc, n, hd⟩ := hL
  replace hc : c = .type "tuple" := hc
  replace hd : dt = .seq items n := hd
  subst hc hd
  refine callType_new F.called_enumerate (by decide) (F.typeCall_enumerate_1 _) (F.newCall_enumerate_1 _) (fun obj => F.args_object_init_2 obj _) F.entry_enumerate_new
    (meets_enumerate_newT l items n dct sl) ⟨hl, ?_⟩
  have hz : (s.heap.push { cls := .type "tuple_iterator", data := .fields #[.ref l, .int 0 0] }).objs.size = s.heap.objs.size + 1 := Heap.size_push ..
  show _ ∧ _
  rw [hz]
  have he : IsEnum ((s.heap.push { cls := .type "tuple_iterator", data := .fields #[.ref l, .int 0 0] }).push
      { cls := .type "enumerate", data := .fields #[.none, .bool false, .ref s.heap.objs.size, rawInt 0, .none, .none] }) (s.heap.objs.size + 1) s.heap.objs.size 0 .none := by
    have := Heap.get?_push_size (s.heap.push { cls := .type "tuple_iterator", data := .fields #[.ref l, .int 0 0] })
      (o := { cls := .type "enumerate", data := .fields #[.none, .bool false, .ref s.heap.objs.size, rawInt 0, .none, .none] }) rfl
    rw [hz] at this; exact this
  refine ⟨⟨_, he, rfl⟩, h _ he ⟨_, Heap.get?_push_of_some _ (Heap.get?_push_size _ rfl), rfl, rfl⟩ (by rw [Heap.size_push, hz]) fun b o x => Heap.get?_push_of_some _ (Heap.get?_push_of_some _ x)⟩
theorem wpAny_pyNext_enum_tupEnd {prog : Program} {w : World} {A : Around} {E : Value → Shared → Prop} {s : Shared} {e it l : Addr} {i : Nat} {items : Array Value} {old : Value} {Q : Option Value → Shared → Prop} (hh : A.handled = none)
    (he : IsEnum s.heap e it i old) (hit : s.heap.IsTupleIter it l i) (hl : s.heap.IsTuple l items) (hx : items[i]? = none)
    (hQ : ∀ h', Heap.ExtBut it s.heap h' → Q none { s with heap := h' }) : wpAny (model prog w) A (pyNext (.ref e)) Q E s := by
  have hT : s.TypeIs (.ref e) "enumerate" := ⟨_, he, rfl⟩
  unfold pyNext
  refine wpAny_bind (wpAny_attempt (wpAny_callSpecial?_slot (name := Str.ofString "__next__") hT F.slot_enumerate_next
    (wpAny_call_entry F.slot_enumerate_next hT F.entry_enumerate_next ?_ (F.args_enumerate_next_1 _))))
  show wpAny _ _ (field (.ref e) 2 >>= _) _ _ _
  refine wpAny_bind (wpAny_field he rfl (x := .ref it) rfl ?_)
  refine wpAny_bind (wpAny_nextOf_tuple_end hh hit hl hx fun h' x he' hx' => ?_)
  obtain ⟨o, ho, hc⟩ := hx'
  refine wpAny_bind (wpAny_isInstance (T := "StopIteration") (b := true) ⟨o, ho, hc⟩ isSubtype_stop ?_)
  exact wpAny_pure (hQ _ he')
theorem turn_enumT {P : Program} {w : World} {K : PySem.W.Frag} {elts : List Expr} {kk : Nat} {tpos : Pos} (a e it : Addr) :
    Turn P w K (.Tuple elts kk tpos) (IteT K a) [e, it] e (fun i h => (∃ old, IsEnum h e it ((i : Nat) : Int) old) ∧ h.IsTupleIter it a i ∧ e ≠ it) where
  mem := by simp
  obj := fun i h st b hb => by
    obtain ⟨⟨old, he⟩, ⟨o, ho, hc, hd⟩, _⟩ := st
    have e' : b = e ∨ b = it := by simpa using hb
    rcases e' with z | z
    · rw [z]; exact ⟨_, he, fun v q => nomatch q⟩
    · rw [z]; exact ⟨o, ho, fun v q => by rw [hd] at q; cases q⟩
  keep := fun i h h' st k => let ⟨⟨old, he⟩, hi, hne⟩ := st; ⟨⟨old, k e (by simp) _ he⟩, hi.at fun o q => k it (by simp) o q, hne⟩
  item := by
    intro X hP hw hK hc i pins s σ H E I hf st hg
    subst hP hw hK
    obtain ⟨⟨old, he⟩, hit, hne⟩ := st
    obtain ⟨xs, x, hq, hx⟩ := hg
    obtain ⟨its, rv, p, hz⟩ := I.tuple hq
    obtain ⟨u, hu, ru⟩ := rv.get hx
    have hel : e < s.heap.objs.size := Heap.lt_size he
    have hil : it < s.heap.objs.size := by obtain ⟨_, q, _⟩ := hit; exact Heap.lt_size q
    obtain ⟨oa, hoa, hca, na, hda⟩ := id p
    have hea : e ≠ a := fun z => by
      rw [z] at he
      have he' : s.heap.get? a = some _ := he
      rw [hoa] at he'
      have z2 := Option.some.inj he'
      rw [z2] at hca
      simp at hca
    have hia : a ≠ it := fun z => by
      obtain ⟨o2, ho2, hc2, _⟩ := hit
      rw [← z, hoa] at ho2
      have z2 := Option.some.inj ho2
      rw [← z2, hca] at hc2
      simp at hc2
    have DD := Draws.tuple (prog := X.prog) (w := X.w) (A := X.A.in1) (I.ok.hd hc) it a hia its.toArray
    have hlt : i < its.toArray.size := by
      have := (List.getElem?_eq_some_iff.mp hu).1
      simpa using this
    refine wpAny_pyNext_enum_itemC DD he ⟨hit, ⟨oa, hoa, hca, na, hda⟩⟩ hlt hne (by simp [hne, hea]) fun y h' tk hy ho hit' hT hsz hk => ?_
    have hyu : y = u := by
      have z : its.toArray[i]? = some y := hy
      have z2 : its.toArray[i]? = some u := by simpa using hu
      rw [z] at z2
      exact Option.some.inj z2
    subst hyu
    refine ⟨_, rfl, wpAny_letOwnedTupleGo_enum (s := { s with heap := h', toks := tk + 1 }) ho fun h'' he' sb => ?_⟩
    have hT2 : h''.get? s.heap.objs.size = some { cls := .type "tuple", data := .seq #[.int i tk, y] } := (sb.2 _ (Nat.ne_of_gt hel)).trans hT
    have new : ObjOk X.prog X.w (upd H s.heap.objs.size (.tup [.int (i : Nat), x])) h'' s.heap.objs.size (.tup [.int (i : Nat), x]) :=
      ⟨by show 2 ≤ sizeLine; decide, [.int i tk, y], .cons ⟨_, rfl⟩ (.cons ru .nil), ⟨_, hT2, rfl, _, rfl⟩⟩
    have I1 : Inv X pins σ (upd H s.heap.objs.size (.tup [.int (i : Nat), x])) { s with heap := h'', toks := tk + 1 } :=
      I.turnedNew (ch := [e, it]) (fun b ob hb q => (sb.2 b (fun z => hb (by simp [z]))).trans (hk b ob (fun z => hb (by simp [z])) (fun z => hb (by simp [z])) q)) hf (Nat.le_refl _) new
    refine ⟨.ref s.heap.objs.size, _, I1, rfl, ⟨_, x, rfl, I.hok.fresh (Nat.le_refl _), rfl, fun ys hy => by rw [I.tuple_inj hy hq]; exact hx⟩, ⟨⟨y, ?_⟩, hit'.1.at fun o q => (sb.2 it (Ne.symm hne)).trans q, hne⟩, fun b hb => ?_⟩
    · have e1 : ((i + 1 : Nat) : Int) = (i : Int) + 1 := by omega
      rw [e1]; exact he'
    · have hb' : b < s.heap.objs.size := by
        have e' : b = e ∨ b = it := by simpa using hb
        rcases e' with z | z
        · rw [z]; exact hel
        · rw [z]; exact hil
      rw [upd_ne (Nat.ne_of_lt hb')]
      exact (hf b hb).1
  done := by
    intro X hP hw hK hc i pins s σ H E I hf st hg
    subst hP hw hK
    obtain ⟨⟨old, he⟩, hit, hne⟩ := st
    obtain ⟨xs, hq, hx⟩ := hg
    obtain ⟨its, rv, p, hz⟩ := I.tuple hq
    obtain ⟨f0, f1, f2, f3, f4, f5⟩ := hf it (by simp)
    have hl := rv.length
    obtain ⟨oa, hoa, hca, na, hda⟩ := id p
    refine wpAny_pyNext_enum_tupEnd (I.ok.hd hc) he hit ⟨oa, hoa, hca, na, hda⟩ (by simp; omega) fun h' eb => ⟨rfl, I.turned (t' := s.toks) (fun b o hb q => eb b o hb q) f0 f1 f3 f4 f5⟩
  self := fun A i s Q E st h => let ⟨⟨_, he⟩, _⟩ := st; wpAny_pyIter_enum he h

def iEnumA (K : PySem.W.Frag) (ta : TA) : TI := fun σ H R => ta σ H fun vs H1 => ∃ a xs, vs = [.ref a] ∧ ((SqL K H1 a xs ∧ R (Ite K a) H1) ∨ (SqT K H1 a xs ∧ R (IteT K a) H1))
theorem pi_enumA {X : Cx} {e : Expr} {ta : TA} {p pos tpos : Pos} {elts : List Expr} {kk : Nat} (hg : Gl X "enumerate") (hm : X.mg "enumerate" = none) (ha : PA X [e] ta) (hs : starEach [e] X.env = [(false, eval e X.env)] := by rfl) :
    PI X (.Tuple elts kk tpos) (.Call (.Name "enumerate" p) [e] [] pos) (iEnumA X.K ta) := by
  refine ⟨fun pins s σ H R I h => ?_⟩
  refine Call_ (ld_blt I hg hm boot_enumerate (PyProof.Rows.callWith_type1 (thn (ha.run pos pins s σ H _ I h) fun us s1 ⟨vs, H1, I1, r1, q1⟩ => ?_) hs rfl))
  obtain ⟨a, xs, ex, q⟩ := q1
  subst ex
  cases r1 with
  | cons r rr =>
    cases rr
    cases r
    have fin : ∀ b, (b = s1.heap.objs.size + 1 ∨ b = s1.heap.objs.size) → FpOk X pins H1 b := fun b e' => by
      have hle : s1.heap.objs.size ≤ b := by
        rcases e' with z | z
        · rw [z]; exact Nat.le_add_right _ _
        · rw [z]; exact Nat.le_refl _
      exact I1.fpOk hle (I1.hok.fresh hle)
    rcases q with ⟨hq, q⟩ | ⟨hq, q⟩
    · obtain ⟨its, rv, p', hz⟩ := I1.list hq
      refine call_enumerate_list p'.isList fun h' he hit hsz hk => wpAny_pyIter_enum he ?_
      have I2 : Inv X pins σ H1 { s1 with heap := h' } := I1.kept (t' := s1.toks) hk
      exact ⟨s1.heap.objs.size + 1, [s1.heap.objs.size + 1, s1.heap.objs.size], _, _, H1, rfl, I2, turn_enum a (s1.heap.objs.size + 1) s1.heap.objs.size, ⟨⟨.none, he⟩, hit, Nat.succ_ne_self _⟩, fun b hb => fin b (by simpa using hb), q⟩
    · obtain ⟨its, rv, p', hz⟩ := I1.tuple hq
      obtain ⟨oa, hoa, hca, na, hda⟩ := id p'
      refine call_enumerate_tuple (items := its.toArray) ⟨oa, hoa, hca, na, hda⟩ fun h' he hit hsz hk => wpAny_pyIter_enum he ?_
      have I2 : Inv X pins σ H1 { s1 with heap := h' } := I1.kept (t' := s1.toks) hk
      exact ⟨s1.heap.objs.size + 1, [s1.heap.objs.size + 1, s1.heap.objs.size], _, _, H1, rfl, I2, turn_enumT a (s1.heap.objs.size + 1) s1.heap.objs.size, ⟨⟨.none, he⟩, hit, Nat.succ_ne_self _⟩, fun b hb => fin b (by simpa using hb), q⟩
end L2

set_option Elab.async false
set_option linter.all false
set_option maxRecDepth 100000
set_option maxHeartbeats 2000000
namespace DL
open PySem L2
/-- J walks over the items xs; own slots of δ1 stay (P1), what is frozen in F1 stays -/
structure ItOk (K : PySem.W.Frag) (F1 : Hp) (δ1 : DS) (σ1 : L2.St) (J : It) (xs : List D) : Prop where
  go : ∀ (G : Gd) (F : Hp) (δ : DS) (M : MH) (σ : L2.St) (H : Hp) (i : Nat), G.K = K → Rep G F δ M σ H → Ex F1 F → (∀ (j : Nat) (ys : List D), δ1[j]? = some (some (Sl.own ys)) → δ[j]? = δ1[j]? ∧ σ[j]? = σ1[j]?) → i < xs.length → J.go i H
  stop : ∀ (G : Gd) (F : Hp) (δ : DS) (M : MH) (σ : L2.St) (H : Hp) (i : Nat), G.K = K → Rep G F δ M σ H → Ex F1 F → (∀ (j : Nat) (ys : List D), δ1[j]? = some (some (Sl.own ys)) → δ[j]? = δ1[j]? ∧ σ[j]? = σ1[j]?) → xs.length ≤ i → J.stop i H
  yld : ∀ (G : Gd) (F : Hp) (δ : DS) (M : MH) (σ : L2.St) (H : Hp) (i : Nat) (x : V) (H' : Hp), G.K = K → Rep G F δ M σ H → Ex F1 F → (∀ (j : Nat) (ys : List D), δ1[j]? = some (some (Sl.own ys)) → δ[j]? = δ1[j]? ∧ σ[j]? = σ1[j]?) → i < xs.length → J.yld i H x H' →
    ∃ F' d, xs[i]? = some d ∧ Rep G F' δ M σ H' ∧ Ex F F' ∧ R K F' x d
abbrev DIt := DS → MH → (List D → MH → Prop) → XP → Prop
/-- for a for: nothing leans on own slots -/
def LI (G : Gd) (W : WX) (td : DIt) : TI := fun σ H R => ∃ F δ M Qd Ed, Rep G F δ M σ H ∧ td δ M Qd Ed ∧
  (∀ xs J F' M' H', Rep G F' δ M' σ H' → Ex F F' → ItOk G.K F' [] [] J xs → Qd xs M' → R J H') ∧ XOk G W δ σ Ed
/-- for a comprehension -/
def LIP (G : Gd) (W : WX) (td : DIt) : TI := fun σ H R => ∃ F δ M Qd Ed, Rep G F δ M σ H ∧ td δ M Qd Ed ∧
  (∀ xs J F' M' H', Rep G F' δ M' σ H' → Ex F F' → ItOk G.K F' δ σ J xs → Qd xs M' → R J H') ∧ XOk G W δ σ Ed
theorem ItOk.weak {K : PySem.W.Frag} {F1 : Hp} {J : It} {xs : List D} {δ : DS} {σ : L2.St} (h : ItOk K F1 [] [] J xs) : ItOk K F1 δ σ J xs where
  go := fun G F δ M σ H i hk r e _ => h.go G F δ M σ H i hk r e fun j ys q => by simp at q
  stop := fun G F δ M σ H i hk r e _ => h.stop G F δ M σ H i hk r e fun j ys q => by simp at q
  yld := fun G F δ M σ H i x H' hk r e _ => h.yld G F δ M σ H i x H' hk r e fun j ys q => by simp at q
theorem pi_imp {X : Cx} {tg e : Expr} {t t' : TI} (h : PI X tg e t) (k : ∀ σ H Q, t' σ H Q → t σ H Q) : PI X tg e t' := ⟨fun pins s σ H Q I z => h.run pins s σ H Q I (k σ H Q z)⟩
theorem i_p {X : Cx} {G : Gd} {W : WX} {tg e : Expr} {t : DIt} (h : PI X tg e (LI G W t)) : PI X tg e (LIP G W t) :=
  pi_imp h fun σ H R ⟨F, δ, M, Qd, Ed, rep, q, k, x⟩ => ⟨F, δ, M, Qd, Ed, rep, q, fun xs J F' M' H' r' e' o' q' => k xs J F' M' H' r' e' o'.weak q', x⟩
section
variable {K : PySem.W.Frag} {F1 : Hp} {δ1 : DS} {σ1 : L2.St}
/-- a tuple, a list that stand in F1 -/
theorem ok_tup {a : Addr} {vs : List V} {xs : List D} (h : SqT K F1 a vs) (r : Rs K F1 vs xs) : ItOk K F1 [] [] (Itt K a) xs where
  go := fun G F δ M σ H i hk rep e _ hi => by
    obtain ⟨v, h1, _⟩ := r.get (List.getElem?_eq_getElem hi)
    exact ⟨vs, v, ex_t (e.trans rep.fr.ex) h, h1⟩
  stop := fun G F δ M σ H i hk rep e _ hi => ⟨vs, ex_t (e.trans rep.fr.ex) h, by rw [r.length]; exact hi⟩
  yld := fun G F δ M σ H i x H' hk rep e _ hi q => by
    obtain ⟨rfl, q⟩ := q
    obtain ⟨v, h1, h2⟩ := r.get (List.getElem?_eq_getElem hi)
    have z := q vs (ex_t (e.trans rep.fr.ex) h)
    rw [h1] at z
    cases z
    exact ⟨F, _, List.getElem?_eq_getElem hi, rep, Ex.refl F, h2.mono e⟩
theorem ok_lst {a : Addr} {vs : List V} {xs : List D} (h : F1 a = some (.lst vs)) (r : Rs K F1 vs xs) : ItOk K F1 [] [] (Itl K a) xs where
  go := fun G F δ M σ H i hk rep e _ hi => by
    obtain ⟨v, h1, _⟩ := r.get (List.getElem?_eq_getElem hi)
    exact ⟨vs, v, .inl (.inl (rep.fr.ex _ _ (e _ _ h))), h1⟩
  stop := fun G F δ M σ H i hk rep e _ hi => ⟨vs, .inl (.inl (rep.fr.ex _ _ (e _ _ h))), by rw [r.length]; exact hi⟩
  yld := fun G F δ M σ H i x H' hk rep e _ hi q => by
    obtain ⟨rfl, q⟩ := q
    obtain ⟨v, h1, h2⟩ := r.get (List.getElem?_eq_getElem hi)
    have z := q vs (.inl (.inl (rep.fr.ex _ _ (e _ _ h))))
    rw [h1] at z
    cases z
    exact ⟨F, _, List.getElem?_eq_getElem hi, rep, Ex.refl F, h2.mono e⟩
/-- an own slot's list -/
theorem own_at {G : Gd} {F : Hp} {δ : DS} {M : MH} {σ : L2.St} {H : Hp} {j : Nat} {xs : List D} {a : Addr} (hj : δ1[j]? = some (some (.own xs))) (hs : σ1[j]? = some (some (.ref a))) (rep : Rep G F δ M σ H)
    (p : ∀ (j : Nat) (ys : List D), δ1[j]? = some (some (Sl.own ys)) → δ[j]? = δ1[j]? ∧ σ[j]? = σ1[j]?) : ∃ vs, H a = some (.lst vs) ∧ Rs G.K F vs xs := by
  obtain ⟨p1, p2⟩ := p j xs hj
  rw [hj] at p1
  obtain ⟨b, q1, vs, q2, q3, _⟩ := rep.own j xs p1
  rw [p2, hs] at q1
  cases q1
  exact ⟨vs, q2, q3⟩
theorem ok_own {j : Nat} {a : Addr} {xs : List D} (hj : δ1[j]? = some (some (.own xs))) (hs : σ1[j]? = some (some (.ref a))) : ItOk K F1 δ1 σ1 (Itl K a) xs where
  go := fun G F δ M σ H i hk rep e p hi => by
    obtain ⟨vs, h, r⟩ := own_at hj hs rep p
    obtain ⟨v, h1, _⟩ := r.get (List.getElem?_eq_getElem hi)
    exact ⟨vs, v, .inl (.inl h), h1⟩
  stop := fun G F δ M σ H i hk rep e p hi => by
    obtain ⟨vs, h, r⟩ := own_at hj hs rep p
    exact ⟨vs, .inl (.inl h), by rw [r.length]; exact hi⟩
  yld := fun G F δ M σ H i x H' hk rep e p hi q => by
    subst hk
    obtain ⟨rfl, q⟩ := q
    obtain ⟨vs, h, r⟩ := own_at hj hs rep p
    obtain ⟨v, h1, h2⟩ := r.get (List.getElem?_eq_getElem hi)
    have z := q vs (.inl (.inl h))
    rw [h1] at z
    cases z
    exact ⟨F, _, List.getElem?_eq_getElem hi, rep, Ex.refl F, h2⟩
def rgD (lo : Int) (n : Nat) : List D := (List.range n).map fun i => D.int (lo + (i : Nat))
theorem rgD_len {lo : Int} {n : Nat} : (rgD lo n).length = n := by unfold rgD; rw [List.length_map, List.length_range]
theorem rgD_get {lo : Int} {n i : Nat} (h : i < n) : (rgD lo n)[i]? = some (.int (lo + (i : Nat))) := by
  unfold rgD
  rw [List.getElem?_map, List.getElem?_range h]
  rfl
theorem ok_rng {lo : Int} {n : Nat} : ItOk K F1 [] [] (Itr lo n) (rgD lo n) where
  go := fun G F δ M σ H i hk rep e _ hi => by rw [rgD_len] at hi; exact hi
  stop := fun G F δ M σ H i hk rep e _ hi => by rw [rgD_len] at hi; exact hi
  yld := fun G F δ M σ H i x H' hk rep e _ hi q => by
    obtain ⟨rfl, rfl⟩ := q
    rw [rgD_len] at hi
    exact ⟨F, _, rgD_get hi, rep, Ex.refl F, R.int _⟩
/-- (0, x), (1, y), .. -/
def enD (xs : List D) : List D := (List.range xs.length).map fun i => D.tup [.int (i : Nat), xs.getD i .non]
theorem enD_len {xs : List D} : (enD xs).length = xs.length := by unfold enD; rw [List.length_map, List.length_range]
theorem enD_get {xs : List D} {i : Nat} {d : D} (h : xs[i]? = some d) : (enD xs)[i]? = some (.tup [.int (i : Nat), d]) := by
  unfold enD
  rw [List.getElem?_map, List.getElem?_range (lt_of_get h)]
  rw [Option.map_some, List.getD_eq_getElem?_getD, h]
  rfl
theorem pair_new {G : Gd} {F : Hp} {δ : DS} {M : MH} {σ : L2.St} {H : Hp} {T : Addr} {v u : V} {x y : D} (rep : Rep G F δ M σ H) (hT : H T = none) (h1 : R G.K F v x) (h2 : R G.K F u y) :
    ∃ F', Rep G F' δ M σ (upd H T (.tup [v, u])) ∧ Ex F F' ∧ R G.K F' (.ref T) (.tup [x, y]) := by
  have e := Ex.new (o := HO.tup [v, u]) (rep.fr.f_none hT)
  exact ⟨_, rep.addF hT _, e, .tup (.inl (.inl upd_same)) (.cons (h1.mono e) (.cons (h2.mono e) .nil))⟩
theorem ok_enumT {a : Addr} {vs : List V} {xs : List D} (h : SqT K F1 a vs) (r : Rs K F1 vs xs) : ItOk K F1 [] [] (IteT K a) (enD xs) where
  go := fun G F δ M σ H i hk rep e _ hi => by
    rw [enD_len] at hi
    obtain ⟨v, h1, _⟩ := r.get (List.getElem?_eq_getElem hi)
    exact ⟨vs, v, ex_t (e.trans rep.fr.ex) h, h1⟩
  stop := fun G F δ M σ H i hk rep e _ hi => by rw [enD_len] at hi; exact ⟨vs, ex_t (e.trans rep.fr.ex) h, by rw [r.length]; exact hi⟩
  yld := fun G F δ M σ H i x H' hk rep e _ hi q => by
    subst hk
    rw [enD_len] at hi
    obtain ⟨T, y, rfl, hT, rfl, q⟩ := q
    obtain ⟨v, h1, h2⟩ := r.get (List.getElem?_eq_getElem hi)
    have z := q vs (ex_t (e.trans rep.fr.ex) h)
    rw [h1] at z
    cases z
    obtain ⟨F', g1, g2, g3⟩ := pair_new rep hT (.int ((i : Nat) : Int)) (h2.mono e)
    exact ⟨F', _, enD_get (List.getElem?_eq_getElem hi), g1, g2, g3⟩
theorem ok_enumL {a : Addr} {vs : List V} {xs : List D} (h : F1 a = some (.lst vs)) (r : Rs K F1 vs xs) : ItOk K F1 [] [] (Ite K a) (enD xs) where
  go := fun G F δ M σ H i hk rep e _ hi => by
    rw [enD_len] at hi
    obtain ⟨v, h1, _⟩ := r.get (List.getElem?_eq_getElem hi)
    exact ⟨vs, v, .inl (.inl (rep.fr.ex _ _ (e _ _ h))), h1⟩
  stop := fun G F δ M σ H i hk rep e _ hi => by rw [enD_len] at hi; exact ⟨vs, .inl (.inl (rep.fr.ex _ _ (e _ _ h))), by rw [r.length]; exact hi⟩
  yld := fun G F δ M σ H i x H' hk rep e _ hi q => by
    subst hk
    rw [enD_len] at hi
    obtain ⟨T, y, rfl, hT, rfl, q⟩ := q
    obtain ⟨v, h1, h2⟩ := r.get (List.getElem?_eq_getElem hi)
    have z := q vs (.inl (.inl (rep.fr.ex _ _ (e _ _ h))))
    rw [h1] at z
    cases z
    obtain ⟨F', g1, g2, g3⟩ := pair_new rep hT (.int ((i : Nat) : Int)) (h2.mono e)
    exact ⟨F', _, enD_get (List.getElem?_eq_getElem hi), g1, g2, g3⟩
/-- pairs of items -/
def zpD (xs ys : List D) : List D := (xs.zip ys).map fun p => D.tup [p.1, p.2]
theorem zpD_len {xs ys : List D} : (zpD xs ys).length = min xs.length ys.length := by unfold zpD; rw [List.length_map, List.length_zip]
theorem zpD_get {xs ys : List D} {i : Nat} {x y : D} (h1 : xs[i]? = some x) (h2 : ys[i]? = some y) : (zpD xs ys)[i]? = some (.tup [x, y]) := by
  unfold zpD
  rw [List.getElem?_map, List.getElem?_zip_eq_some (z := (x, y)) |>.mpr ⟨h1, h2⟩]
  rfl
theorem ok_zipT {a b : Addr} {vs us : List V} {xs ys : List D} (h : SqT K F1 a vs) (r : Rs K F1 vs xs) (h' : SqT K F1 b us) (r' : Rs K F1 us ys) : ItOk K F1 [] [] (RZ.ItzT K a b) (zpD xs ys) where
  go := fun G F δ M σ H i hk rep e _ hi => by
    rw [zpD_len] at hi
    obtain ⟨v, h1, _⟩ := r.get (List.getElem?_eq_getElem (show i < xs.length by omega))
    obtain ⟨u, h2, _⟩ := r'.get (List.getElem?_eq_getElem (show i < ys.length by omega))
    exact ⟨vs, us, v, u, ex_t (e.trans rep.fr.ex) h, ex_t (e.trans rep.fr.ex) h', h1, h2⟩
  stop := fun G F δ M σ H i hk rep e _ hi => by
    rw [zpD_len] at hi
    exact ⟨vs, us, ex_t (e.trans rep.fr.ex) h, ex_t (e.trans rep.fr.ex) h', by rw [r.length, r'.length]; omega⟩
  yld := fun G F δ M σ H i x H' hk rep e _ hi q => by
    subst hk
    rw [zpD_len] at hi
    obtain ⟨T, y, z, rfl, hT, rfl, q, q'⟩ := q
    obtain ⟨v, h1, h2⟩ := r.get (List.getElem?_eq_getElem (show i < xs.length by omega))
    obtain ⟨u, h3, h4⟩ := r'.get (List.getElem?_eq_getElem (show i < ys.length by omega))
    have z1 := q vs (ex_t (e.trans rep.fr.ex) h)
    rw [h1] at z1
    cases z1
    have z2 := q' us (ex_t (e.trans rep.fr.ex) h')
    rw [h3] at z2
    cases z2
    obtain ⟨F', g1, g2, g3⟩ := pair_new rep hT (h2.mono e) (h4.mono e)
    exact ⟨F', _, zpD_get (List.getElem?_eq_getElem (show i < xs.length by omega)) (List.getElem?_eq_getElem (show i < ys.length by omega)), g1, g2, g3⟩
theorem ok_zipL {a b : Addr} {vs us : List V} {xs ys : List D} (h : F1 a = some (.lst vs)) (r : Rs K F1 vs xs) (h' : F1 b = some (.lst us)) (r' : Rs K F1 us ys) : ItOk K F1 [] [] (Itz K a b) (zpD xs ys) where
  go := fun G F δ M σ H i hk rep e _ hi => by
    rw [zpD_len] at hi
    obtain ⟨v, h1, _⟩ := r.get (List.getElem?_eq_getElem (show i < xs.length by omega))
    obtain ⟨u, h2, _⟩ := r'.get (List.getElem?_eq_getElem (show i < ys.length by omega))
    exact ⟨vs, us, v, u, .inl (.inl (rep.fr.ex _ _ (e _ _ h))), .inl (.inl (rep.fr.ex _ _ (e _ _ h'))), h1, h2⟩
  stop := fun G F δ M σ H i hk rep e _ hi => by
    rw [zpD_len] at hi
    exact ⟨vs, us, .inl (.inl (rep.fr.ex _ _ (e _ _ h))), .inl (.inl (rep.fr.ex _ _ (e _ _ h'))), by rw [r.length, r'.length]; omega⟩
  yld := fun G F δ M σ H i x H' hk rep e _ hi q => by
    subst hk
    rw [zpD_len] at hi
    obtain ⟨T, y, z, rfl, hT, rfl, q, q'⟩ := q
    obtain ⟨v, h1, h2⟩ := r.get (List.getElem?_eq_getElem (show i < xs.length by omega))
    obtain ⟨u, h3, h4⟩ := r'.get (List.getElem?_eq_getElem (show i < ys.length by omega))
    have z1 := q vs (.inl (.inl (rep.fr.ex _ _ (e _ _ h))))
    rw [h1] at z1
    cases z1
    have z2 := q' us (.inl (.inl (rep.fr.ex _ _ (e _ _ h'))))
    rw [h3] at z2
    cases z2
    obtain ⟨F', g1, g2, g3⟩ := pair_new rep hT (h2.mono e) (h4.mono e)
    exact ⟨F', _, zpD_get (List.getElem?_eq_getElem (show i < xs.length by omega)) (List.getElem?_eq_getElem (show i < ys.length by omega)), g1, g2, g3⟩
/-- the signs of a text -/
def sgD (x : Str) : List D := x.cps.toList.map fun c => D.str ⟨#[c]⟩
theorem ok_str {x : Str} : ItOk K F1 [] [] (Its x) (sgD x) where
  go := fun G F δ M σ H i hk rep e _ hi => by unfold sgD at hi; rw [List.length_map] at hi; show i < x.cps.size; simpa using hi
  stop := fun G F δ M σ H i hk rep e _ hi => by unfold sgD at hi; rw [List.length_map] at hi; show x.cps.size ≤ i; simpa using hi
  yld := fun G F δ M σ H i y H' hk rep e _ hi q => by
    obtain ⟨rfl, c, hc, rfl⟩ := q
    refine ⟨F, .str ⟨#[c]⟩, ?_, rep, Ex.refl F, R.str _⟩
    unfold sgD
    rw [List.getElem?_map]
    have : x.cps.toList[i]? = some c := by simpa using hc
    rw [this]
    rfl
end
/-! ### what is walked -/
section
variable {X : Cx} {G : Gd} {W : WX} {tg e : Expr} {es : List Expr} {pos p : Pos} {t ta : DX}
def iSeq (t : DX) : DIt := fun δ M Q E => t δ M (fun d M' => ∃ xs, (d = .tup xs ∨ d = .lst xs) ∧ Q xs M') E
theorem i_or {wi wi' : TI} (h : PI X tg e wi) (h' : PI X tg e wi') : PI X tg e (fun σ H R => wi σ H R ∨ wi' σ H R) := ⟨fun pins s σ H Q I z => z.elim (h.run pins s σ H Q I) (h'.run pins s σ H Q I)⟩
/-- over a tuple | a list, as the proof says -/
def iTupD (t : DX) : DIt := fun δ M Q E => t δ M (fun d M' => ∃ xs, d = .tup xs ∧ Q xs M') E
def iLstD (t : DX) : DIt := fun δ M Q E => t δ M (fun d M' => ∃ xs, d = .lst xs ∧ Q xs M') E
theorem i_tup (hk : X.K = G.K) (h : PE X e (LV G W t)) : PI X tg e (LI G W (iTupD t)) :=
  pi_imp (pi_tup h) fun σ H R ⟨F, δ, M, Qd, Ed, rep, q, k, x⟩ => ⟨F, δ, M, _, Ed, rep, q, fun d v F1 M1 H1 r1 e1 s1 ⟨xs, hd, q1⟩ => by
    subst hd
    obtain ⟨a, vs, rfl, h1, h2⟩ := s1.tup_inv
    rw [hk]
    exact ⟨a, rfl, ⟨vs, ex_t r1.fr.ex h1⟩, k xs _ F1 M1 H1 r1 e1 (ok_tup h1 h2) q1⟩, x⟩
theorem i_lst (hk : X.K = G.K) (h : PE X e (LV G W t)) : PI X tg e (LI G W (iLstD t)) :=
  pi_imp (pi_list h) fun σ H R ⟨F, δ, M, Qd, Ed, rep, q, k, x⟩ => ⟨F, δ, M, _, Ed, rep, q, fun d v F1 M1 H1 r1 e1 s1 ⟨xs, hd, q1⟩ => by
    subst hd
    obtain ⟨a, vs, rfl, h1, h2⟩ := s1.lst_inv
    rw [hk]
    exact ⟨a, rfl, ⟨vs, .inl (.inl (r1.fr.ex _ _ h1))⟩, k xs _ F1 M1 H1 r1 e1 (ok_lst h1 h2) q1⟩, x⟩
/-- an own slot's list, for a comprehension -/
def iPeek (i : Nat) : DIt := fun δ M Q _ => ∃ xs, (δ[i]? = some (some (.own xs)) ∨ δ[i]? = some (some (.d (.lst xs)))) ∧ Q xs M
theorem i_peek {i : Nat} (hk : X.K = G.K) (h : PE X e (tVar i)) : PI X tg e (LIP G W (iPeek i)) :=
  pi_imp (pi_list h) fun σ H R ⟨F, δ, M, Qd, Ed, rep, ⟨xs, hx, q⟩, k, x⟩ => by
    rcases hx with hx | hx
    · obtain ⟨a, h1, vs, h2, h3, _⟩ := rep.own i xs hx
      refine ⟨.ref a, h1, a, rfl, ⟨vs, .inl (.inl h2)⟩, ?_⟩
      rw [hk]
      exact k xs _ F M H rep (Ex.refl F) (ok_own hx h1) q
    · obtain ⟨v, h1, h2⟩ := rep.val i _ hx
      obtain ⟨a, vs, rfl, h3, h4⟩ := h2.lst_inv
      refine ⟨.ref a, h1, a, rfl, ⟨vs, .inl (.inl (rep.fr.ex _ _ h3))⟩, ?_⟩
      rw [hk]
      exact k xs _ F M H rep (Ex.refl F) (ok_lst h3 h4).weak q
def iRange1 (t : DA) : DIt := fun δ M Q E => t δ M (fun ds M' => ∃ j : Int, ds = [.int j] ∧ -(2 ^ 62) ≤ j ∧ j < 2 ^ 62 ∧ Q (rgD 0 j.toNat) M') E
def iRange2 (t : DA) : DIt := fun δ M Q E => t δ M (fun ds M' => ∃ i j : Int, ds = [.int i, .int j] ∧ (-(2 ^ 62) ≤ i ∧ i < 2 ^ 62 ∧ -(2 ^ 62) ≤ j ∧ j < 2 ^ 62) ∧ Q (rgD i (j - i).toNat) M') E
theorem Rs.one {K : PySem.W.Frag} {F : Hp} {vs : List V} {d : D} (h : Rs K F vs [d]) : ∃ v, vs = [v] ∧ R K F v d := by
  cases h with
  | cons h1 h2 => cases h2; exact ⟨_, rfl, h1⟩
theorem Rs.two {K : PySem.W.Frag} {F : Hp} {vs : List V} {d d' : D} (h : Rs K F vs [d, d']) : ∃ v v', vs = [v, v'] ∧ R K F v d ∧ R K F v' d' := by
  cases h with
  | cons h1 h2 => cases h2 with
    | cons h3 h4 => cases h4; exact ⟨_, _, rfl, h1, h3⟩
theorem i_range1 {a : Expr} {t : DA} (hg : Gl X "range") (hm : X.mg "range" = none) (ha : PA X [a] (LA G W t)) (hs : starEach [a] X.env = [(false, eval a X.env)] := by rfl) : PI X tg (.Call (.Name "range" p) [a] [] pos) (LI G W (iRange1 t)) :=
  pi_imp (pi_range1 hg hm ha hs) fun σ H R ⟨F, δ, M, Qd, Ed, rep, q, k, x⟩ => ⟨F, δ, M, _, Ed, rep, q, fun ds vs F1 M1 H1 r1 e1 s1 ⟨j, hd, h1, h2, q1⟩ => by
    subst hd
    obtain ⟨v, rfl, s2⟩ := s1.one
    obtain rfl := s2.int_inv
    exact ⟨j, rfl, h1, h2, k _ _ F1 M1 H1 r1 e1 ok_rng q1⟩, x⟩
theorem i_range2 {a b : Expr} {t : DA} (hg : Gl X "range") (hm : X.mg "range" = none) (ha : PA X [a, b] (LA G W t)) (hs : starEach [a, b] X.env = [(false, eval a X.env), (false, eval b X.env)] := by rfl) (hs2 : starEach [b] X.env = [(false, eval b X.env)] := by rfl) :
    PI X tg (.Call (.Name "range" p) [a, b] [] pos) (LI G W (iRange2 t)) :=
  pi_imp (pi_range2 hg hm ha hs hs2) fun σ H R ⟨F, δ, M, Qd, Ed, rep, q, k, x⟩ => ⟨F, δ, M, _, Ed, rep, q, fun ds vs F1 M1 H1 r1 e1 s1 ⟨i, j, hd, h1, q1⟩ => by
    subst hd
    obtain ⟨v, u, rfl, s2, s3⟩ := s1.two
    obtain rfl := s2.int_inv
    obtain rfl := s3.int_inv
    exact ⟨i, j, rfl, h1, k _ _ F1 M1 H1 r1 e1 ok_rng q1⟩, x⟩
def iEnumD (t : DA) : DIt := fun δ M Q E => t δ M (fun ds M' => ∃ d xs, ds = [d] ∧ (d = .tup xs ∨ d = .lst xs) ∧ Q (enD xs) M') E
theorem i_enum {t : DA} {elts : List Expr} {kk : Nat} {tpos : Pos} (hk : X.K = G.K) (hg : Gl X "enumerate") (hm : X.mg "enumerate" = none) (ha : PA X [e] (LA G W t)) (hs : starEach [e] X.env = [(false, eval e X.env)] := by rfl) :
    PI X (.Tuple elts kk tpos) (.Call (.Name "enumerate" p) [e] [] pos) (LI G W (iEnumD t)) :=
  pi_imp (pi_enumA hg hm ha hs) fun σ H R ⟨F, δ, M, Qd, Ed, rep, q, k, x⟩ => ⟨F, δ, M, _, Ed, rep, q, fun ds vs F1 M1 H1 r1 e1 s1 ⟨d, xs, hd, hx, q1⟩ => by
    subst hd
    obtain ⟨v, rfl, s2⟩ := s1.one
    rw [hk]
    rcases hx with rfl | rfl
    · obtain ⟨a, us, rfl, h1, h2⟩ := s2.tup_inv
      exact ⟨a, us, rfl, .inr ⟨ex_t r1.fr.ex h1, k _ _ F1 M1 H1 r1 e1 (ok_enumT h1 h2) q1⟩⟩
    · obtain ⟨a, us, rfl, h1, h2⟩ := s2.lst_inv
      exact ⟨a, us, rfl, .inl ⟨.inl (.inl (r1.fr.ex _ _ h1)), k _ _ F1 M1 H1 r1 e1 (ok_enumL h1 h2) q1⟩⟩, x⟩
def iZipD (t : DA) : DIt := fun δ M Q E => t δ M (fun ds M' => ∃ d d' xs ys, ds = [d, d'] ∧ ((d = .tup xs ∧ d' = .tup ys) ∨ (d = .lst xs ∧ d' = .lst ys)) ∧ Q (zpD xs ys) M') E
theorem i_zip {e2 : Expr} {t : DA} {elts : List Expr} {kk : Nat} {tpos : Pos} (hk : X.K = G.K) (hg : Gl X "zip") (hm : X.mg "zip" = none) (ha : PA X [e, e2] (LA G W t))
    (hs : starEach [e, e2] X.env = (false, eval e X.env) :: starEach [e2] X.env := by rfl) (hpl : (backTo pos (starEach [e2] X.env)).any (·.1) = false := by rfl) :
    PI X (.Tuple elts kk tpos) (.Call (.Name "zip" p) [e, e2] [] pos) (LI G W (iZipD t)) :=
  pi_imp (RZ.pi_zipA hg hm ha hs hpl) fun σ H R ⟨F, δ, M, Qd, Ed, rep, q, k, x⟩ => ⟨F, δ, M, _, Ed, rep, q, fun ds vs F1 M1 H1 r1 e1 s1 ⟨d, d', xs, ys, hd, hx, q1⟩ => by
    subst hd
    obtain ⟨v, u, rfl, s2, s3⟩ := s1.two
    rw [hk]
    rcases hx with ⟨rfl, rfl⟩ | ⟨rfl, rfl⟩
    · obtain ⟨a, us, rfl, h1, h2⟩ := s2.tup_inv
      obtain ⟨b, ws, rfl, h3, h4⟩ := s3.tup_inv
      exact ⟨a, b, us, ws, rfl, .inr ⟨ex_t r1.fr.ex h1, ex_t r1.fr.ex h3, k _ _ F1 M1 H1 r1 e1 (ok_zipT h1 h2 h3 h4) q1⟩⟩
    · obtain ⟨a, us, rfl, h1, h2⟩ := s2.lst_inv
      obtain ⟨b, ws, rfl, h3, h4⟩ := s3.lst_inv
      exact ⟨a, b, us, ws, rfl, .inl ⟨.inl (.inl (r1.fr.ex _ _ h1)), .inl (.inl (r1.fr.ex _ _ h3)), k _ _ F1 M1 H1 r1 e1 (ok_zipL h1 h2 h3 h4) q1⟩⟩, x⟩
def iStrD (t : DX) : DIt := fun δ M Q E => t δ M (fun d M' => ∃ s, d = .str s ∧ Q (sgD s) M') E
theorem i_str (h : PE X e (LV G W t)) : PI X tg e (LI G W (iStrD t)) :=
  pi_imp (pi_str h) fun σ H R ⟨F, δ, M, Qd, Ed, rep, q, k, x⟩ => ⟨F, δ, M, _, Ed, rep, q, fun d v F1 M1 H1 r1 e1 s1 ⟨s, hd, q1⟩ => by
    subst hd
    obtain rfl := s1.str_inv
    exact ⟨s, rfl, k _ _ F1 M1 H1 r1 e1 ok_str q1⟩, x⟩
/-! ### for -/
def forD (g : DG) (b : DP) (E : DEnds) : List D → DS → MH → Prop
  | [], δ, M => E.nx δ M
  | x :: r, δ, M => g x δ M fun δ' M' => b { E with nx := forD g b E r, ct := forD g b E r, bk := E.nx } δ' M'
def sFor (it : DIt) (g : DG) (b : DP) : DP := fun E δ M => it δ M (fun xs M' => forD g b E xs δ M') E.ex
theorem forD_drop {g : DG} {b : DP} {E : DEnds} {xs : List D} {i : Nat} {d : D} {δ : DS} {M : MH} (h : xs[i]? = some d) (q : forD g b E (xs.drop i) δ M) :
    g d δ M fun δ' M' => b { E with nx := forD g b E (xs.drop (i + 1)), ct := forD g b E (xs.drop (i + 1)), bk := E.nx } δ' M' := by
  have hl := lt_of_get h
  have e : xs.drop i = d :: xs.drop (i + 1) := by
    rw [List.drop_eq_getElem_cons hl]
    have := (List.getElem?_eq_some_iff.mp h).2
    rw [this]
  rw [e] at q
  exact q
theorem s_for {iter : Expr} {body : List Stmt} {it : DIt} {g : DG} {js : List Nat} {b : DP} (hp : PassesOwn (model X.prog X.w) X.A X.env X.xe) (hc : X.calm = true) (hi : PI X tg iter (LI G W it)) (hg : PG X tg (LG G js g)) (hb : PSs X body (LS G W b))
    (hs : ∀ x, foldedSetIterable iter X.env x = pure x := by intro _; rfl) : PS X (.For tg iter body [] pos) (LS G W (sFor it g b)) := by
  refine ps_imp (ps_for hp hc hi hg hb hs) fun D σ H ⟨F, δ, M, E, rep, q, ok⟩ => ⟨F, δ, M, _, _, rep, q, fun xs J F1 M1 H1 r1 e1 o1 q1 => ?_, ok.ex δ σ⟩
  refine ⟨fun i m σ' H' => ∃ F' δ' M', Rep G F' δ' M' σ' H' ∧ Ex F1 F' ∧ forD g b E (xs.drop i) δ' M' ∧ m = xs.length - i, ⟨_, F1, δ, M1, r1, Ex.refl F1, q1, rfl⟩, ?_⟩
  rintro i m σ' H' ⟨F', δ', M', r', e', q', rfl⟩
  by_cases hl : i < xs.length
  · refine .inr ⟨o1.go G F' δ' M' σ' H' i rfl r' e' (fun j ys z => by simp at z) hl, fun σ2 H2 => ∃ F2 δ2 M2, Rep G F2 δ2 M2 σ2 H2 ∧ Ex F1 F2 ∧ forD g b E (xs.drop (i + 1)) δ2 M2, ?_, fun x H2 hy => ?_⟩
    · rintro σ2 H2 ⟨F2, δ2, M2, z1, z2, z3⟩
      exact ⟨xs.length - (i + 1), by omega, F2, δ2, M2, z1, z2, z3, rfl⟩
    · obtain ⟨F2, d, hd, r2, e2, s2⟩ := o1.yld G F' δ' M' σ' H' i x H2 rfl r' e' (fun j ys z => by simp at z) hl hy
      refine ⟨F2, δ', M', d, _, r2, s2, forD_drop hd q', fun F3 δ3 σ3 r3 e3 o3 q3 => ⟨F3, δ3, M', _, r3, q3, ?_⟩⟩
      have ee : Ex F1 F3 := e'.trans (e2.trans e3)
      exact ⟨fun F4 δ4 M4 σ4 H4 r4 e4 q4 => ⟨F4, δ4, M4, r4, ee.trans e4, q4⟩, ok.rt, fun F4 δ4 M4 σ4 H4 r4 e4 q4 => ok.nx F4 δ4 M4 σ4 H4 r4 (e1.trans (ee.trans e4)) q4, fun F4 δ4 M4 σ4 H4 r4 e4 q4 => ⟨F4, δ4, M4, r4, ee.trans e4, q4⟩, ok.ex⟩
  · refine .inl ⟨o1.stop G F' δ' M' σ' H' i rfl r' e' (fun j ys z => by simp at z) (by omega), ?_⟩
    rw [List.drop_eq_nil_of_le (by omega)] at q'
    exact ok.nx F' δ' M' σ' H' r' (e1.trans e') q'
end
end DL

set_option Elab.async false
set_option linter.all false
set_option maxRecDepth 100000
set_option maxHeartbeats 2000000
namespace DL
open PySem L2
/-! ### comprehensions -/
def wipeD (δ : DS) : List Nat → DS
  | [] => δ
  | v :: vs => (wipeD δ vs).set v none
def NoX : XP := fun _ _ _ _ => False
def W0 : WX := fun _ _ _ _ => False
def NoOwn (δ : DS) (vs : List Nat) : Prop := ∀ i ∈ vs, ∀ ys, δ[i]? ≠ some (some (.own ys))
def lcD (g : DG) (tt : DT) (te : DX) (vs : List Nat) (δ : DS) (Q : List D → MH → Prop) : List D → List D → MH → Prop
  | [], acc, M => Q acc M
  | x :: r, acc, M => g x (wipeD δ vs) M fun δ2 M2 => tt δ2 M2 (fun b M3 => if b = true then te δ2 M3 (fun y M4 => acc.length < sizeLine ∧ lcD g tt te vs δ Q r (acc ++ [y]) M4) NoX else lcD g tt te vs δ Q r acc M3) NoX
def dLc (it : DIt) (g : DG) (tt : DT) (te : DX) (vs : List Nat) : DE := fun δ M Q E => NoOwn δ vs ∧ it δ M (fun xs M1 => lcD g tt te vs δ (fun acc M2 => Q (.own acc) M2) xs [] M1) E
def tdYes : DT := fun _ M Q _ => Q true M
section
variable {X : Cx} {G : Gd} {W : WX} {F F' : Hp} {δ δ2 : DS} {M M' : MH} {σ σ2 : L2.St} {H H' : Hp} {vs : List Nat}
theorem ts_nil : PTs X [] (LT G W tdYes) := ⟨fun pins s σ H Q I ⟨F, δ, M, Qd, Ed, rep, q, k, x⟩ => pts_nil.run pins s σ H Q I (k true F M H rep (Ex.refl F) q)⟩
theorem ts_one {c : Expr} {t : DT} (h : PT X c (LT G W t)) : PTs X [c] (LT G W t) := pts_one h
theorem wipeD_length : ∀ vs : List Nat, (wipeD δ vs).length = δ.length
  | [] => rfl
  | v :: vs => by show ((wipeD δ vs).set v none).length = _; rw [List.length_set, wipeD_length vs]
theorem wipeD_out {i : Nat} : ∀ {vs : List Nat}, i ∉ vs → (wipeD δ vs)[i]? = δ[i]?
  | [], _ => rfl
  | v :: vs, h => by
    show ((wipeD δ vs).set v none)[i]? = _
    rw [setNe (fun z => h (by rw [z]; exact List.mem_cons_self))]
    exact wipeD_out fun z => h (List.mem_cons_of_mem _ z)
theorem wipe_in {i : Nat} : ∀ {vs : List Nat}, i ∈ vs → i < σ.length → (wipe σ vs)[i]? = some none
  | v :: vs, h, hl => by
    show ((wipe σ vs).set v none)[i]? = _
    by_cases e : i = v
    · subst e; exact setSame (by rw [wipe_length]; exact hl)
    · rw [setNe e]
      exact wipe_in ((List.mem_cons.mp h).resolve_left e) hl
theorem wipe_off {js : List Nat} (h : ∀ j ∈ js, j ∈ vs) (ls : σ2.length = (wipe σ vs).length) (s : ∀ j, j ∉ js → σ2[j]? = (wipe σ vs)[j]?) : wipe σ2 vs = wipe σ vs := by
  apply List.ext_getElem?
  intro i
  by_cases hi : i ∈ vs
  · by_cases hl : i < σ.length
    · rw [wipe_in hi (by rw [ls, wipe_length]; exact hl), wipe_in hi hl]
    · rw [List.getElem?_eq_none (by rw [wipe_length, ls, wipe_length]; omega), List.getElem?_eq_none (by rw [wipe_length]; omega)]
  · rw [wipe_out hi, s i (fun z => hi (h i z))]
theorem Rep.wipe (r : Rep G F δ M σ H) : ∀ vs : List Nat, Rep G F (wipeD δ vs) M (L2.wipe σ vs) H
  | [] => r
  | v :: vs => (Rep.wipe r vs).setNone
theorem Rep.unwipe (r : Rep G F δ M σ H) (r2 : Rep G F' δ2 M' σ2 H') (e : Ex F F') (no : NoOwn δ vs) (hd : ∀ j, j ∉ vs → δ2[j]? = δ[j]?) (hs : ∀ j, j ∉ vs → σ2[j]? = σ[j]?) : Rep G F' δ M' σ H' where
  fr := r2.fr
  len := r.len
  val := fun i x h => by
    obtain ⟨v, h1, h2⟩ := r.val i x h
    exact ⟨v, h1, h2.mono e⟩
  own := fun i xs h => by
    have hi : i ∉ vs := fun z => no i z xs h
    obtain ⟨a, h1, h2⟩ := r2.own i xs (by rw [hd i hi]; exact h)
    exact ⟨a, by rw [← hs i hi]; exact h1, h2⟩
  inj := r.inj
/-- the ground with the list that is being made -/
def Gd.with (G : Gd) (D : Addr) (o : HO) : Gd := ⟨G.K, upd G.H0 D o, G.F0, G.M0⟩
theorem Rep.withL {D : Addr} {o : HO} (r : Rep G F δ M σ H) (h : H D = some o) (h0 : G.H0 D = none) (f : F D = none) (m : M D = none) (no : ∀ (i : Nat) (ys : List DL.D), δ[i]? = some (some (Sl.own ys)) → σ[i]? ≠ some (some (V.ref D))) : Rep (G.with D o) F δ M σ H where
  fr := {
    ex := r.fr.ex
    ex0 := r.fr.ex0
    keep := fun a u e z => by
      by_cases ha : a = D
      · subst ha
        have e' : upd G.H0 a o a = some u := e
        rw [upd_same] at e'
        rw [h]; exact e'
      · have e' : upd G.H0 D o a = some u := e
        rw [upd_ne ha] at e'
        exact r.fr.keep a u e' z
    newF := fun a z => by
      have ha : a ≠ D := fun q => z (by rw [q]; exact f)
      rcases r.fr.newF a z with q | q
      · exact .inl q
      · exact .inr (by show upd G.H0 D o a = none; rw [upd_ne ha]; exact q)
    newM := fun a z => by
      have ha : a ≠ D := fun q => z (by rw [q]; exact m)
      rcases r.fr.newM a z with q | q
      · exact .inl q
      · exact .inr (by show upd G.H0 D o a = none; rw [upd_ne ha]; exact q)
    dom := fun a z => by
      by_cases ha : a = D
      · rw [ha, h]; simp
      · refine r.fr.dom a ?_
        have z' : upd G.H0 D o a ≠ none := z
        rw [upd_ne ha] at z'
        exact z'
    domM := r.fr.domM
    mem := r.fr.mem }
  len := r.len
  val := r.val
  own := fun i xs e => by
    obtain ⟨a, h1, vs, h2, h3, h4, h5, h6⟩ := r.own i xs e
    have ha : a ≠ D := fun q => no i xs e (by rw [h1, q])
    exact ⟨a, h1, vs, h2, h3, h4, h5, by show upd G.H0 D o a = none; rw [upd_ne ha]; exact h6⟩
  inj := r.inj
theorem Rep.offL {D : Addr} {o : HO} (r : Rep (G.with D o) F δ M σ H) (h0 : G.H0 D = none) (f0 : G.F0 D = none) (m0 : G.M0 D = none) : Rep G F δ M σ H ∧ H D = some o ∧ F D = none ∧ M D = none := by
  have hD : H D = some o := r.fr.keep D o (by show upd G.H0 D o D = some o; exact upd_same) m0
  have z0 : ∀ {a : Addr}, (G.with D o).H0 a = none → G.H0 a = none := fun {a} q => by
    have q' : upd G.H0 D o a = none := q
    by_cases ha : a = D
    · rw [ha, upd_same] at q'; cases q'
    · rw [upd_ne ha] at q'; exact q'
  have zD : (G.with D o).H0 D ≠ none := by show upd G.H0 D o D ≠ none; rw [upd_same]; simp
  refine ⟨⟨⟨r.fr.ex, r.fr.ex0, fun a u e z => ?_, fun a z => (r.fr.newF a z).imp id z0, fun a z => (r.fr.newM a z).imp id z0, fun a z => ?_, r.fr.domM, r.fr.mem⟩, r.len, r.val, fun i xs e => ?_, r.inj⟩, hD, ?_, ?_⟩
  · have ha : a ≠ D := fun q => by rw [q, h0] at e; cases e
    exact r.fr.keep a u (by show upd G.H0 D o a = some u; rw [upd_ne ha]; exact e) z
  · have ha : a ≠ D := fun q => z (by rw [q]; exact h0)
    exact r.fr.dom a (by show upd G.H0 D o a ≠ none; rw [upd_ne ha]; exact z)
  · obtain ⟨a, h1, vs, h2, h3, h4, h5, h6⟩ := r.own i xs e
    exact ⟨a, h1, vs, h2, h3, h4, h5, z0 h6⟩
  · cases e : F D with
    | none => rfl
    | some u =>
      rcases r.fr.newF D (by rw [e]; simp) with q | q
      · exact absurd f0 q
      · exact absurd q zD
  · cases e : M D with
    | none => rfl
    | some u =>
      rcases r.fr.newM D (by rw [e]; simp) with q | q
      · exact absurd m0 q
      · exact absurd q zD
/-- an object that is nobody's is changed -/
theorem Rep.chgX {D : Addr} {o u : HO} (r : Rep G F δ M σ H) (h : H D = some u) (hx : ∀ fv, u ≠ .xd fv) (h0 : G.H0 D = none) (f : F D = none) (m : M D = none) (no : ∀ (i : Nat) (ys : List DL.D), δ[i]? = some (some (Sl.own ys)) → σ[i]? ≠ some (some (V.ref D))) : Rep G F δ M σ (upd H D o) := by
  have hx' : ∀ c fv, H c = some (.xd fv) → c ≠ D := fun c fv z y => by rw [y, h] at z; cases z; exact hx fv rfl
  refine ⟨⟨r.fr.ex.updR f _, r.fr.ex0, fun b v e z => ?_, r.fr.newF, r.fr.newM, fun b e => ?_, r.fr.domM, fun b mo e => ?_⟩, r.len, r.val, fun i xs e => ?_, r.inj⟩
  · have hb : b ≠ D := fun q => by rw [q, h0] at e; cases e
    rw [upd_ne hb]; exact r.fr.keep b v e z
  · by_cases hb : b = D
    · subst hb; rw [upd_same]; simp
    · rw [upd_ne hb]; exact r.fr.dom b e
  · have hb : b ≠ D := fun z => by rw [z, m] at e; cases e
    obtain ⟨q1, q2⟩ := r.fr.mem b mo e
    exact ⟨q1, q2.mono (Ex.refl F) (upd_ne hb) fun c fv z => upd_ne (hx' c fv z)⟩
  · obtain ⟨b, g1, g2⟩ := r.own i xs e
    have hb : b ≠ D := fun z => no i xs e (by rw [g1, z])
    obtain ⟨ws, g3, g4, g5, g6, g7⟩ := id g2
    exact ⟨b, g1, g2.mono (Ex.refl F) (upd_ne hb) g5 g6⟩
theorem xok0 : XOk G W0 δ σ NoX := fun _ _ _ _ _ _ _ _ _ _ _ h => h
def tgX (K : PySem.W.Frag) (js : List Nat) (g : DG) : TG := fun v σ H Q => ∃ G : Gd, G.K = K ∧ LG G js g v σ H Q
def ttX (K : PySem.W.Frag) (t : DT) : TT := fun σ H Q => ∃ G : Gd, G.K = K ∧ LT G W0 t σ H Q
def teX (K : PySem.W.Frag) (t : DX) : TE := fun σ H Q => ∃ G : Gd, G.K = K ∧ LV G W0 t σ H Q
theorem lcD_drop {g : DG} {tt : DT} {te : DX} {Q : List D → MH → Prop} {xs acc : List D} {i : Nat} {d : D} (h : xs[i]? = some d) (q : lcD g tt te vs δ Q (xs.drop i) acc M) :
    g d (wipeD δ vs) M fun δ2 M2 => tt δ2 M2 (fun b M3 => if b = true then te δ2 M3 (fun y M4 => acc.length < sizeLine ∧ lcD g tt te vs δ Q (xs.drop (i + 1)) (acc ++ [y]) M4) NoX else lcD g tt te vs δ Q (xs.drop (i + 1)) acc M3) NoX := by
  have hl := lt_of_get h
  have e : xs.drop i = d :: xs.drop (i + 1) := by
    rw [List.drop_eq_getElem_cons hl, (List.getElem?_eq_some_iff.mp h).2]
  rw [e] at q
  exact q
theorem lc_l {it : DIt} {g : DG} {js : List Nat} {tt : DT} {te : DX} {Q : VK} (hj : ∀ j ∈ js, j ∈ vs) (h : LE G W (dLc it g tt te vs) σ H Q) : tLc (LIP G W it) (tgX G.K js g) (ttX G.K tt) (teX G.K te) vs σ H Q := by
  obtain ⟨F, δ, M, Qd, Ed, rep, ⟨no, q⟩, k, x⟩ := h
  refine ⟨F, δ, M, _, _, rep, q, fun xs J F1 M1 H1 r1 e1 o1 q1 => ?_, x⟩
  intro D hD
  have f1 := r1.fr.f_none hD
  have m1 := r1.fr.m_none hD
  have h0 := r1.fr.h0 hD
  have f0 : G.F0 D = none := by
    cases e : G.F0 D with
    | none => rfl
    | some o => rw [r1.fr.ex0 _ _ e] at f1; cases f1
  have m0 : G.M0 D = none := by
    cases e : G.M0 D with
    | none => rfl
    | some o => exact absurd m1 (r1.fr.domM D (by rw [e]; simp))
  have hno : ∀ (i : Nat) (ys : List DL.D), δ[i]? = some (some (Sl.own ys)) → σ[i]? ≠ some (some (V.ref D)) := fun i ys z w => by
    obtain ⟨a, g1, us, g2, _⟩ := r1.own i ys z
    rw [w] at g1
    cases g1
    rw [hD] at g2; cases g2
  refine ⟨fun i m H' => ∃ F' M' accV acc, Rep G F' δ M' σ H' ∧ Ex F1 F' ∧ H' D = some (.lst accV) ∧ Rs G.K F' accV acc ∧ F' D = none ∧ M' D = none ∧ lcD g tt te vs δ (fun acc M2 => Qd (.own acc) M2) (xs.drop i) acc M' ∧ m = xs.length - i,
    ⟨_, F1, M1, [], [], r1.addH hD _, Ex.refl F1, upd_same, .nil, f1, m1, q1, rfl⟩, ?_⟩
  rintro i m H' ⟨F', M', accV, acc, r', e', hd', rs', f', m', q', rfl⟩
  have stay : ∀ (j : Nat) (ys : List DL.D), δ[j]? = some (some (Sl.own ys)) → δ[j]? = δ[j]? ∧ σ[j]? = σ[j]? := fun _ _ _ => ⟨rfl, rfl⟩
  by_cases hl : i < xs.length
  · refine .inr ⟨o1.go G F' δ M' σ H' i rfl r' e' stay hl, fun H2 => ∃ F2 M2 accV2 acc2, Rep G F2 δ M2 σ H2 ∧ Ex F1 F2 ∧ H2 D = some (.lst accV2) ∧ Rs G.K F2 accV2 acc2 ∧ F2 D = none ∧ M2 D = none ∧ lcD g tt te vs δ (fun acc M2 => Qd (.own acc) M2) (xs.drop (i + 1)) acc2 M2, ?_, fun x H2 hy => ?_⟩
    · rintro H2 ⟨F2, M2, accV2, acc2, z1, z2, z3, z4, z5, z6, z7⟩
      exact ⟨xs.length - (i + 1), by omega, F2, M2, accV2, acc2, z1, z2, z3, z4, z5, z6, z7, rfl⟩
    · have rG := r'.withL hd' h0 f' m' hno
      obtain ⟨F2, d, hd, r2, e2, s2⟩ := o1.yld _ F' δ M' σ H' i x H2 (by rfl) rG e' stay hl hy
      refine ⟨G.with D (.lst accV), rfl, F2, wipeD δ vs, M', d, _, r2.wipe vs, s2, lcD_drop hd q', fun F3 δ3 σ3 r3 e3 o3 q3 => ⟨wipe_off hj o3.ls o3.s, ?_⟩⟩
      have e13 : Ex F1 F3 := e'.trans (e2.trans e3)
      have off : ∀ {F4 : Hp} {M4 : MH} {H4 : Hp}, Rep (G.with D (.lst accV)) F4 δ3 M4 σ3 H4 → Ex F3 F4 → Rep G F4 δ M4 σ H4 ∧ H4 D = some (.lst accV) ∧ F4 D = none ∧ M4 D = none := fun {F4 M4 H4} r4 e4 => by
        have z := rG.unwipe (vs := vs) r4 (e2.trans (e3.trans e4)) no (fun j hjv => by rw [o3.d j (fun w => hjv (hj j w)), wipeD_out hjv]) (fun j hjv => by rw [o3.s j (fun w => hjv (hj j w)), wipe_out hjv])
        exact z.offL h0 f0 m0
      refine ⟨G.with D (.lst accV), rfl, F3, δ3, M', _, NoX, r3, q3, fun b F4 M4 H4 r4 e4 q4 => ?_, xok0⟩
      cases b with
      | false =>
        obtain ⟨z1, z2, z3, z4⟩ := off r4 e4
        exact ⟨F4, M4, accV, acc, z1, e13.trans e4, z2, rs'.mono (e2.trans (e3.trans e4)), z3, z4, q4⟩
      | true =>
        rw [if_pos rfl] at q4 ⊢
        refine ⟨G.with D (.lst accV), rfl, F4, δ3, M4, _, NoX, r4, q4, fun y v F5 M5 H5 r5 e5 s5 ⟨hz, q5⟩ => ?_, xok0⟩
        obtain ⟨z1, z2, z3, z4⟩ := off r5 (e4.trans e5)
        have rs5 := rs'.mono (e2.trans (e3.trans (e4.trans e5)))
        exact ⟨accV, z2, by rw [rs'.length]; exact hz, F5, M5, _, _, z1.chgX z2 (fun fv z => by cases z) h0 z3 z4 hno, e13.trans (e4.trans e5), upd_same, rs5.append (.cons s5 .nil), z3, z4, q5⟩
  · refine .inl ⟨o1.stop G F' δ M' σ H' i rfl r' e' stay (by omega), ?_⟩
    rw [List.drop_eq_nil_of_le (by omega)] at q'
    exact k (.own acc) (.ref D) F' M' H' r' (e1.trans e') ⟨D, rfl, ⟨accV, hd', rs', f', m', h0⟩, hno⟩ q'
theorem pg_x {Y : Cx} {e : Expr} {g : DG} {js : List Nat} {K : PySem.W.Frag} (h : ∀ G : Gd, G.K = K → PG Y e (LG G js g)) : PG Y e (tgX K js g) := ⟨fun pins s σ H v u Q I r ⟨G, hk, z⟩ => (h G hk).run pins s σ H v u Q I r z⟩
theorem pts_x {Y : Cx} {ifs : List Expr} {t : DT} {K : PySem.W.Frag} (h : ∀ G : Gd, G.K = K → PTs Y ifs (LT G W0 t)) : PTs Y ifs (ttX K t) := ⟨fun pins s σ H Q I ⟨G, hk, z⟩ => (h G hk).run pins s σ H Q I z⟩
theorem pe_x {Y : Cx} {e : Expr} {t : DX} {K : PySem.W.Frag} (h : ∀ G : Gd, G.K = K → PE Y e (LV G W0 t)) : PE Y e (teX K t) := ⟨fun pins s σ H Q I ⟨G, hk, z⟩ => (h G hk).run pins s σ H Q I z⟩
theorem d_lc {elt tg iter : Expr} {ifs : List Expr} {scope : Scope} {own : List (Str × Nat)} {pos : Pos} {it : DIt} {g : DG} {js : List Nat} {tt : DT} {te : DX} (hc : X.calm = true) (hN : X.N.Nodup) (hi : PI X tg iter (LIP G W it)) (ok : BlkOk X.N X.env.scope scope own)
    (hj : ∀ j ∈ js, j ∈ own.map (·.2))
    (hg : ∀ G' : Gd, G'.K = G.K → ∀ (s : Shared) (H : Hp) (C : Addr) (cl : List (Str × Addr)) (fp : List Addr), PG (X.blk s H scope (compEnvC scope cl C X.env) fp) tg (LG G' js g))
    (ht : ∀ G' : Gd, G'.K = G.K → ∀ (s : Shared) (H : Hp) (C : Addr) (cl : List (Str × Addr)) (fp : List Addr), PTs (X.blk s H scope (compEnvC scope cl C X.env) fp) ifs (LT G' W0 tt))
    (he : ∀ G' : Gd, G'.K = G.K → ∀ (s : Shared) (H : Hp) (C : Addr) (cl : List (Str × Addr)) (fp : List Addr), PE (X.blk s H scope (compEnvC scope cl C X.env) fp) elt (LV G' W0 te)) (hs : ∀ x, foldedSetIterable iter X.env x = pure x := by intro _; rfl) :
    PE X (.ListComp elt [⟨tg, iter, ifs, 0⟩] scope pos) (LE G W (dLc it g tt te (own.map (·.2)))) :=
  pe_imp (pe_lc hc hN hi ok (fun s H C cl fp => pg_x fun G' hk => hg G' hk s H C cl fp) (fun s H C cl fp => pts_x fun G' hk => ht G' hk s H C cl fp) (fun s H C cl fp => pe_x fun G' hk => he G' hk s H C cl fp) hs) fun _ _ _ h => lc_l hj h
/-- y = [..] -/
theorem s_setLc {i : Nat} {y : Str} {py : Pos} {elt tg iter : Expr} {ifs : List Expr} {scope : Scope} {own : List (Str × Nat)} {pos spos : Pos} {it : DIt} {g : DG} {js : List Nat} {tt : DT} {te : DX} (hc : X.calm = true) (hN : X.N.Nodup) (hy : X.N[i]? = some y) (hyl : X.env.scope.names.lookup y = some .local)
    (hsw : swapsWith (.ListComp elt [⟨tg, iter, ifs, 0⟩] scope pos) (some (.Name y py)) spos.line X.env = pure true) (hi : PI X tg iter (LIP G W it)) (ok : BlkOk X.N X.env.scope scope own)
    (hj : ∀ j ∈ js, j ∈ own.map (·.2))
    (hg : ∀ G' : Gd, G'.K = G.K → ∀ (s : Shared) (H : Hp) (C : Addr) (cl : List (Str × Addr)) (fp : List Addr), PG (X.blk s H scope (compEnvC scope cl C X.env) fp) tg (LG G' js g))
    (ht : ∀ G' : Gd, G'.K = G.K → ∀ (s : Shared) (H : Hp) (C : Addr) (cl : List (Str × Addr)) (fp : List Addr), PTs (X.blk s H scope (compEnvC scope cl C X.env) fp) ifs (LT G' W0 tt))
    (he : ∀ G' : Gd, G'.K = G.K → ∀ (s : Shared) (H : Hp) (C : Addr) (cl : List (Str × Addr)) (fp : List Addr), PE (X.blk s H scope (compEnvC scope cl C X.env) fp) elt (LV G' W0 te)) (hs : ∀ x, foldedSetIterable iter X.env x = pure x := by intro _; rfl) :
    PS X (.Assign [.Name y py] (.ListComp elt [⟨tg, iter, ifs, 0⟩] scope pos) spos) (LS G W (sAsg (dLc it g tt te (own.map (·.2))) i)) :=
  ps_imp (ps_setLc hc hN hy hyl hsw hi ok (fun s H C cl fp => pg_x fun G' hk => hg G' hk s H C cl fp) (fun s H C cl fp => pts_x fun G' hk => ht G' hk s H C cl fp) (fun s H C cl fp => pe_x fun G' hk => he G' hk s H C cl fp) hs) fun D σ H ⟨F, δ, M, E, rep, q, ok⟩ =>
    lc_l (W := W) hj ⟨F, δ, M, _, _, rep, q, fun r v F' M' H' r' e' s' q' => ok.nx F' _ M' _ H' (r'.setAny s') e' q', ok.ex δ σ⟩
end
/-! ### a list is changed -/
section
variable {X : Cx} {G : Gd} {W : WX} {e o i : Expr} {es : List Expr} {pos apos cpos : Pos} {t ta tb : DX}
/-- xs.append(e), xs an own slot -/
def sApp (j : Nat) (t : DX) : DP := fun E δ M => t δ M (fun d M' => ∃ xs, δ[j]? = some (some (.own xs)) ∧ xs.length < sizeLine ∧ E.nx (δ.set j (some (.own (xs ++ [d])))) M') E.ex
theorem app_l {j : Nat} {t : DX} {D : Ends} {σ : L2.St} {H : Hp} {F : Hp} {δ : DS} {M : MH} {E : DEnds} {xs0 : List DL.D} (rep : Rep G F δ M σ H) (hj : δ[j]? = some (some (.own xs0))) (q : sApp j t E δ M) (ok : EndsOk G W F D E) :
    tDrop (tBM G.K "list" rAppend (tVar j) (tCons (LV G W t) tNil)) D σ H := by
  obtain ⟨a, h1, vs, h2, h3, _⟩ := rep.own j xs0 hj
  refine ⟨.ref a, h1, .inl ⟨rfl, vs, .inl (.inl h2)⟩, F, δ, M, _, _, rep, q, fun d v F' M' H' r' e' s' ⟨xs, hx, hl, q'⟩ => ?_, ok.ex δ σ⟩
  obtain ⟨b, g1, us, g2, g3, _⟩ := r'.own j xs hx
  rw [h1] at g1
  cases g1
  exact ⟨a, us, v, rfl, rfl, g2, by rw [g3.length]; exact hl, ok.nx F' _ M' σ _ (r'.chgOwn hx h1 (g3.append (.cons s' .nil))) e' q'⟩
def sAppOwn (j : Nat) (t : DX) : DP := fun E δ M => (∃ xs, δ[j]? = some (some (.own xs))) ∧ sApp j t E δ M
theorem s_app {j : Nat} (hK : X.K = G.K) (ho : PE X o (tVar j)) (he : PE X e (LV G W t)) (hbase : attributeBase o "append" X.env (eval o X.env) = eval o X.env := by rfl)
    (hfew : ((backTo cpos (starEach (e :: []) X.env)).all (fun x => !x.1) && (backToKw cpos (keywordEach [] X.env)).all (fun x => x.1.isSome)
      && decide ((e :: []).length + ([] : List Keyword).length + (if ([] : List Keyword).isEmpty then 0 else 1) < 30)) = true := by rfl)
    (hline : (apos.endLine == cpos.line) = true := by rfl) (hs : starEach (e :: []) X.env = (false, eval e X.env) :: starEach [] X.env := by rfl) (hplain : (backTo cpos (starEach [] X.env)).any (·.1) = false := by rfl)
    (hsw : swapsWith (.Call (.Attribute o "append" apos) [e] [] cpos) none pos.line X.env = pure false := by rfl) :
    PS X (.Expr (.Call (.Attribute o "append" apos) [e] [] cpos) pos) (LS G W (sAppOwn j t)) :=
  ps_imp (ps_expr (pe_bm PySem.F.plainAttrs_list PySem.F.slot_list_append PySem.F.type_list_append mt_append ho (pa_cons he pa_nil hs) hbase hfew hline hs hplain) hsw) fun D σ H ⟨F, δ, M, E, rep, ⟨⟨xs, hx⟩, q⟩, ok⟩ => by
    rw [hK]
    exact app_l rep hx q ok
/-- xs[i] = e, xs an own slot | a shared list -/
def sSet (te : DX) (j : Nat) (ti : DX) : DP := fun E δ M => te δ M (fun d M1 => ti δ M1 (fun x M2 => ∃ xs k n, δ[j]? = some (some (.own xs)) ∧ x = .int k ∧ ixN xs.length k = some n ∧ E.nx (δ.set j (some (.own (xs.set n d)))) M2) E.ex) E.ex
theorem s_set {te ti : DX} {j : Nat} {tpos : Pos} {v : Expr} (hv : PE X v (LV G W te)) (ho : PE X o (tVar j)) (hi : PE X i (LV G W ti))
    (ha : ∀ v, assign (.Subscript o i tpos) X.env v = (do
      let ov ← holding [v] (eval o X.env)
      let iv ← holding [v, ov] (eval i X.env)
      standAt tpos
      holding [v, ov, iv] (setItem ov iv v)
      release [v, ov, iv] []) := by intro _; rfl)
    (hs : swapsWithSole [.Subscript o i tpos] v pos.line X.env = pure false := by rfl) (hw : swappedStores [.Subscript o i tpos] v X.env = pure none := by rfl)
    (h1 : (assignEach [.Subscript o i tpos] X.env).map (·.2) = [assign (.Subscript o i tpos) X.env] := by rfl)
    (hown : True) : PS X (.Assign [.Subscript o i tpos] v pos) (LS G W (fun E δ M => (∃ xs, δ[j]? = some (some (.own xs))) ∧ sSet te j ti E δ M)) :=
  ps_imp (ps_asg hv (pg_sub ho hi set_list ha) hs hw h1) fun D σ H ⟨F, δ, M, E, rep, ⟨⟨xs0, hx0⟩, q⟩, ok⟩ => ⟨F, δ, M, _, _, rep, q, fun d w F1 M1 H1 r1 e1 s1 q1 => by
    obtain ⟨a, h1, vs, h2, h3, _⟩ := r1.own j xs0 hx0
    exact ⟨.ref a, h1, F1, δ, M1, _, _, r1, q1, fun x u F2 M2 H2 r2 e2 s2 ⟨xs, k, n, hx, hk, hn, q2⟩ => by
      subst hk
      obtain rfl := s2.int_inv
      obtain ⟨b, g1, us, g2, g3, _⟩ := r2.own j xs hx
      rw [h1] at g1
      cases g1
      exact ⟨a, us, k, n, rfl, rfl, g2, by rw [g3.length]; exact hn, ok.nx F2 _ M2 σ _ (r2.chgOwn hx h1 ((s1.mono e2 : R G.K F2 w d) |> fun z => g3.set z n)) (e1.trans e2) q2⟩, ok.ex δ σ⟩, ok.ex δ σ⟩
/-- xs[i] = e, xs a shared list -/
def sSetM (te to ti : DX) : DP := fun E δ M => te δ M (fun d M1 => to δ M1 (fun y M2 => ti δ M2 (fun x M3 => ∃ a xs k n, y = .ref a ∧ M3 a = some (.lst xs) ∧ x = .int k ∧ ixN xs.length k = some n ∧ E.nx δ (mu M3 a (.lst (xs.set n d)))) E.ex) E.ex) E.ex
theorem s_setM {te to ti : DX} {tpos : Pos} {v : Expr} (hv : PE X v (LV G W te)) (ho : PE X o (LV G W to)) (hi : PE X i (LV G W ti))
    (ha : ∀ v, assign (.Subscript o i tpos) X.env v = (do
      let ov ← holding [v] (eval o X.env)
      let iv ← holding [v, ov] (eval i X.env)
      standAt tpos
      holding [v, ov, iv] (setItem ov iv v)
      release [v, ov, iv] []) := by intro _; rfl)
    (hs : swapsWithSole [.Subscript o i tpos] v pos.line X.env = pure false := by rfl) (hw : swappedStores [.Subscript o i tpos] v X.env = pure none := by rfl)
    (h1 : (assignEach [.Subscript o i tpos] X.env).map (·.2) = [assign (.Subscript o i tpos) X.env] := by rfl) : PS X (.Assign [.Subscript o i tpos] v pos) (LS G W (sSetM te to ti)) :=
  ps_imp (ps_asg hv (pg_sub ho hi set_list ha) hs hw h1) fun D σ H ⟨F, δ, M, E, rep, q, ok⟩ => ⟨F, δ, M, _, _, rep, q, fun d w F1 M1 H1 r1 e1 s1 q1 =>
    ⟨F1, δ, M1, _, _, r1, q1, fun y u F2 M2 H2 r2 e2 s2 q2 => ⟨F2, δ, M2, _, _, r2, q2, fun x z F3 M3 H3 r3 e3 s3 ⟨a, xs, k, n, hy, hm, hk, hn, q3⟩ => by
      subst hk
      subst hy
      obtain rfl := s3.int_inv
      obtain rfl := s2.ref_inv
      obtain ⟨f, us, g2, g3⟩ := r3.fr.mem a _ hm
      exact ⟨a, us, k, n, rfl, rfl, g2, by rw [g3.length]; exact hn, ok.nx F3 _ _ σ _ (r3.chgM (mo' := .lst (xs.set n d)) hm (fun fv z => by rw [g2] at z; cases z) ⟨_, upd_same, g3.set (s1.mono (e2.trans e3)) n⟩) (e1.trans (e2.trans e3)) q3⟩, ok.ex δ σ⟩, ok.ex δ σ⟩, ok.ex δ σ⟩
end
end DL

set_option Elab.async false
set_option linter.all false
set_option maxRecDepth 100000
set_option maxHeartbeats 2000000
namespace L2
open PySem PySem.Spec PyProof.Rows
/-! ### B.__init__(self, ..) of an own class B over ValueError without __init__ -/
structure SeC (K : PySem.W.Frag) (B : Addr) : Prop where
  rd : PySem.W.readsIn K B (.type "type") = true
  ga : PySem.W.specialIn K (.ref B) "__getattribute__" = some (some (.builtin "type.__getattribute__"))
  at_ : PySem.W.findCls K (.ref B) (.type "type") "__init__" = some (.val (.builtin "ValueError.__init__"))
theorem pe_seinit {X : Cx} {B : Addr} {x : Str} {e : Expr} {es : List Expr} {ta : TA} {p1 p2 pos : Pos} {pl : Sem Bool} (hg : Gl X x) (hm : X.mg x = some (.ref B)) (S : SeC X.K B) (ha : PA X (e :: es) ta) (hdb : (x == ("__debug__" : Str)) = false := by decide)
    (hc : eval (.Call (.Attribute (.Name x p1) "__init__" p2) (e :: es) [] pos) X.env = (do
      let ov ← eval (.Name x p1) X.env
      standAt p2.atName
      let (f, first) ← holding [ov] (getMethod ov "__init__" pl)
      callWith pos f first (backTo pos (starEach (e :: es) X.env)) (backToKw pos (keywordEach [] X.env))) := by rfl)
    (he : starEach (e :: es) X.env = (false, eval e X.env) :: starEach es X.env := by rfl) (hpl : (backTo pos (starEach es X.env)).any (·.1) = false := by rfl) :
    PE X (.Call (.Attribute (.Name x p1) "__init__" p2) (e :: es) [] pos) (tVeI X.K ta) := by
  refine ⟨fun pins s σ H Q I h => ?_⟩
  refine PySem.W.methodCall_KW (ld_glob I hg hm ?_ hdb) hc
  refine PySem.W.method_cls I.kIn S.ga (PySem.W.cls_value I.kIn S.rd S.at_ rfl ?_)
  show wpAny _ _ (callWith pos (Value.builtin "ValueError.__init__") [] (backTo pos (starEach (e :: es) X.env)) []) _ _ _
  refine PyProof.Rows.callWith_method1 (thn (ha.run pos pins _ σ H _ (I.tok _) h) fun us s1 ⟨vs, H1, I1, r1, a, C, ws, ev, hl, T, ea, q⟩ => ?_) he hpl
  subst ev
  cases r1 with
  | @cons _ u0 _ ur ra rw' =>
    obtain rfl : u0 = Value.ref a := ra
    have hlen : ur.length ≤ sizeLine := by
      rw [← Paired.length rw', sizeLine_eq]
      omega
    exact oinit_ok T I1 ea hlen fun s' J => ⟨.non, H1, J, rfl, q⟩
/-- what an __init__ of the form B.__init__(self, ..); self.f = y promises -/
def spXI (K : PySem.W.Frag) (C : Addr) (f : Str) (P : V → Prop) : Sp := fun vs H Q _ => ∃ (a : Addr) (y : V), vs = [.ref a, y] ∧ H a = some (exo a C none) ∧ P y ∧
  ∀ dx, H dx = none → dx ≠ a → Q .non (upd (upd H dx (exd dx [(f, y)])) a (exo a C (some dx)))
/-! ### an exception that is kept -/
def xo (a : Addr) (cls : Value) (d : Option Addr) : HO := .ext fun h => ∃ (oe : Obj) (vs : Array Value), h.get? a = some oe ∧ Zc cls d oe ∧ oe.data = .fields vs
theorem xo_ok {P : Program} {w : World} {H : Hp} {h : Heap} {a : Addr} {cls : Value} {d : Option Addr} {oe : Obj} {vs : Array Value} (e : h.get? a = some oe) (z : Zc cls d oe) (dd : oe.data = .fields vs) : ObjOk P w H h a (xo a cls d) :=
  ⟨⟨oe, vs, e, z, dd⟩, ⟨_, e⟩, fun h1 h2 q k => by
    obtain ⟨o, us, q1, q2, q3⟩ := q
    exact ⟨o, us, k _ q1, q2, q3⟩⟩
theorem xo_at {P : Program} {w : World} {H : Hp} {h : Heap} {a : Addr} {cls : Value} {d : Option Addr} (hok : HOk P w H h) (he : H a = some (xo a cls d)) : ∃ (oe : Obj) (vs : Array Value), h.get? a = some oe ∧ Zc cls d oe ∧ oe.data = .fields vs := by
  have x : ObjOk P w H h a (.ext fun h => ∃ (oe : Obj) (vs : Array Value), h.get? a = some oe ∧ Zc cls d oe ∧ oe.data = .fields vs) := hok a _ he
  exact x.1
theorem Inv.adopt {X : Cx} {pins : List (Addr × Obj)} {σ : St} {H : Hp} {s : Shared} {a : Addr} {cls : Value} {d : Option Addr} {oe : Obj} {vs : Array Value} (I : Inv X pins σ H s) (e : s.heap.get? a = some oe) (z : Zc cls d oe) (dd : oe.data = .fields vs) (na : H a = none)
    (n0 : X.s_0.heap.get? a = none) (nL : a ≠ X.env.locals) (np : ∀ p ∈ X.pn ++ pins, p.1 ≠ a) : Inv X pins σ (upd H a (xo a cls d)) s where
  ok := I.ok
  os := I.os
  bare := I.bare
  base := {
    keep := I.base.keep
    slot := I.base.slot
    free := fun b o q n hx => by
      have hb : b ≠ a := fun w => by rw [w, n0] at q; cases q
      rw [upd_ne hb]; exact I.base.free b o q n hx
    there := I.base.there
    tups := fun b xs q => by rw [upd_ne (ne_of_none (I.base.tups b xs q) na)]; exact I.base.tups b xs q
    frzs := fun b o u q => by rw [upd_ne (ne_of_none (I.base.frzs b o u q) na)]; exact I.base.frzs b o u q
    tbls := fun b ps q => by
      obtain ⟨m, hm⟩ := I.base.tbls b ps q
      exact ⟨m, by rw [upd_ne (ne_of_none hm na)]; exact hm⟩ }
  loc := I.loc
  cell := I.cell
  free := by rw [upd_ne (Ne.symm nL)]; exact I.free
  freeC := fun x c h => by
    have hc : c ≠ a := fun w => by
      obtain ⟨v, o, q1, q2⟩ := I.cell x c h
      rw [w, e] at q1
      cases q1
      rw [dd] at q2
      cases q2
    rw [upd_ne hc]; exact I.freeC x c h
  pin := fun p hp => by
    obtain ⟨q1, q2, q3, q4, q5⟩ := I.pin p hp
    exact ⟨q1, by rw [upd_ne (np p hp)]; exact q2, q3, q4, q5⟩
  hok := fun b o q => by
    by_cases hb : b = a
    · subst hb
      rw [upd_same] at q
      cases q
      exact xo_ok e z dd
    · rw [upd_ne hb] at q
      exact (I.hok b o q).stay (fun _ _ _ k => k) (fun c hc => by rw [upd_ne (ne_of_none hc na)]; exact hc) fun c xs hc => by rw [upd_ne (ne_of_none hc na)]; exact hc
  len := I.len
/-! ### try: body; except x as n: suite: what the body raises is always taken, and kept behind the suite -/
def wKp (K : PySem.W.Frag) (c : Value) (i : Nat) (ts : Addr → Value → Option Addr → TS) (D : Ends) : WX := fun cls d σ H => PySem.W.exmOne K cls c = some true ∧ ∀ a, H a = none →
  ts a cls d { nx := fun τ J => J a = none → D.nx (τ.set i none) (upd J a (xo a cls d)), rt := D.rt, bk := fun τ J => D.bk (τ.set i none) J, ct := fun τ J => D.ct (τ.set i none) J } (σ.set i (some (.ref a))) H
section
variable {X : Cx} {x n : Str} {c : Value} {i : Nat} {body suite : List Stmt} {s0 : Stmt} {np pos pos' : Pos} {tb : WX → TS} {ts : Addr → Value → Option Addr → TS}
/-- where a caught exception lies: outside of all that is known -/
structure KpAt (X : Cx) (pins : List (Addr × Obj)) (a : Addr) : Prop where
  loc : a ≠ X.env.locals
  fs : a ∉ X.fs
  old : X.s_0.heap.get? a = none
  pin : ∀ p ∈ X.pn ++ pins, p.1 ≠ a
theorem kp_at {pins : List (Addr × Obj)} {σ : St} {H : Hp} {sI : Shared} {B h : Heap} {a : Addr} {Z : Obj → Prop} (hs : X.stack = X.env :: X.outer) (hf : X.env.frame = some X.env.locals) (hex : X.ex = []) (J : Inv X pins σ H sI)
    (nb : ∀ b o, sI.heap.get? b = some o → b ∉ frs X.stack → B.get? b = some o) (fl : HandSPX.FlyingZ B (X.env :: X.outer) a Z h) : KpAt X pins a := by
  obtain ⟨oe, vs, h1, _, h2⟩ := fl.there
  have off : a ∉ frs (X.env :: X.outer) := by
    intro hm
    obtain ⟨_, o', h3, h4⟩ := fl.2.2.1.mem hm
    rw [h1] at h3
    cases h3
    exact h4 _ h2
  have away : sI.heap.get? a = none := by
    cases q : sI.heap.get? a with
    | none => rfl
    | some o =>
      have z := nb a o q (by rw [hs]; exact off)
      rw [fl.2.1] at z
      cases z
  refine ⟨fun z => off ?_, fun z => off ?_, ?_, fun p hp z => ?_⟩
  · rw [z]; exact List.mem_filterMap.mpr ⟨X.env, List.mem_cons_self, hf⟩
  · obtain ⟨env, he, q⟩ := List.mem_filterMap.mp z
    exact List.mem_filterMap.mpr ⟨env, List.mem_cons_of_mem _ he, q⟩
  · cases q : X.s_0.heap.get? a with
    | none => rfl
    | some o =>
      obtain ⟨o', z⟩ := J.base.there a o q (by rw [hex]; simp)
      rw [away] at z
      cases z
  · have q := (J.pin p hp).1
    rw [z, away] at q
    cases q
/-- the suite, then its name goes -/
theorem kp_suite {pins : List (Addr × Obj)} {σ : St} {H : Hp} {s : Shared} {a : Addr} {oe : Obj} {cls : Value} {d : Option Addr} {D : Ends} (hN : X.N.Nodup) (hi : X.N[i]? = some n) (hln : X.env.kindOf n = some .local) (ok : X.Ok)
    (A : KpAt X pins a) (z : Zc cls d oe) (hd : ∃ vs, oe.data = .fields vs)
    (hsu : PSs (X.suite a ((a, oe) :: (X.pn ++ pins))) (s0 :: suite) (ts a cls d)) (I : Inv (X.suite a ((a, oe) :: (X.pn ++ pins))) [] σ H s)
    (h : ts a cls d { nx := fun τ J => J a = none → D.nx (τ.set i none) (upd J a (xo a cls d)), rt := D.rt, bk := fun τ J => D.bk (τ.set i none) J, ct := fun τ J => D.ct (τ.set i none) J } σ H) :
    wpAny (model X.prog X.w) (X.A.mark (some (.ref a))) (execs (s0 :: suite) X.env) (fun f s6 => wpAny (model X.prog X.w) X.A (do bindName X.env n .none; unbindBehindTheSuite X.env n pos') (fun _ s7 => SP X pins D f s7) X.xe s6) (fun _ _ => False) s := by
  obtain ⟨vs, hd⟩ := hd
  refine wpAny_mono (hsu.run [] s σ H _ I h) (fun f s6 q => ?_) fun _ _ z => z
  have gone : ∀ {τ : St} {J : Hp} {R : Shared → Prop}, Inv (X.suite a ((a, oe) :: (X.pn ++ pins))) [] τ J s6 → (J a = none → ∀ s7, Inv X pins (τ.set i none) J s7 → s7.heap.get? a = some oe → R s7) →
      wpAny (model X.prog X.w) X.A (do bindName X.env n .none; unbindBehindTheSuite X.env n pos') (fun _ s7 => R s7) X.xe s6 := by
    intro τ J R S k
    have here : (a, oe) ∈ (X.suite a ((a, oe) :: (X.pn ++ pins))).pn ++ [] := List.mem_append_left _ List.mem_cons_self
    exact gone_ok (X := X.suite a ((a, oe) :: (X.pn ++ pins))) S hN hi hln fun s7 S7 => k (S.pin _ here).2.1 s7 (S7.unsuite ok) (S7.pin _ here).1
  cases f with
  | next =>
    obtain ⟨τ, J, S, k⟩ := q
    exact gone S fun ja s7 I7 e7 => ⟨_, _, I7.adopt e7 z hd ja A.old A.loc A.pin, k ja⟩
  | brk =>
    obtain ⟨τ, J, S, k⟩ := q
    exact gone S fun _ s7 I7 _ => ⟨_, _, I7, k⟩
  | cont =>
    obtain ⟨τ, J, S, k⟩ := q
    exact gone S fun _ s7 I7 _ => ⟨_, _, I7, k⟩
  | ret u =>
    obtain ⟨v, τ, J, S, r, k⟩ := q
    exact gone S fun _ s7 I7 _ => ⟨_, _, _, I7, r, k⟩
theorem ps_try_kp (hs : X.stack = X.env :: X.outer) (hf : X.env.frame = some X.env.locals) (hex : X.ex = []) (hN : X.N.Nodup) (hi : X.N[i]? = some n) (hln : X.env.kindOf n = some .local) (hc : Names X x c)
    (hb : ∀ (W : WX) (pn : List (Addr × Obj)) (xe : Value → Shared → Prop), Takes (X.tr pn xe) W → PassesOwn (model X.prog X.w) X.A X.env xe → PSs (X.tr pn xe) body (tb W))
    (hsu : ∀ (a : Addr) (oe : Obj) (cls : Value) (d : Option Addr) (pn : List (Addr × Obj)), Zc cls d oe → (∃ vs, oe.data = .fields vs) → PSs (X.suite a ((a, oe) :: pn)) (s0 :: suite) (ts a cls d)) :
    PS X (.Try body [.ExceptHandler (some (.Name x np)) (some n) (s0 :: suite) pos'] [] [] pos) (fun D σ H => tb (wKp X.K c i ts D) D σ H) := by
  refine ⟨fun pins s σ H D I h => wpAny_Try_except ?_⟩
  have run := (hb (wKp X.K c i ts D) (X.pn ++ pins) (fun e t => wpAny (model X.prog X.w) X.A (noteFrame e X.env) (fun _ t2 => wpAny (model X.prog X.w) X.A (setFlight e none) (fun _ t3 =>
    wpAny (model X.prog X.w) X.A (handleBy e X.env [.ExceptHandler (some (.Name x np)) (some n) (s0 :: suite) pos']) (SP X pins D) X.xe t3) X.xe t2) X.xe t) ?tk PassesOwn.looking).run [] s σ H D (I.toTry _) h
  case tk =>
    rintro u s' ⟨a, B, sI, pins', τ, J, cls, d, rfl, J', nb, up, sky, na, os, ag, hm, hyes⟩
    have I' : Inv X pins τ J sI := J'.ofTry I.ok
    have fr : X.A.frames = some (X.env :: X.outer) := by rw [I.ok.frames, hs]
    refine Sky.land Zc.steady fr hf (show Sky B (X.env :: X.outer) a (Zc cls d) X.env.locals s'.heap by rw [← hs]; exact sky) fun h3 fl3 up3 => ?_
    have A := kp_at hs hf hex I' nb fl3
    have I3 : Inv X pins τ J { s' with heap := h3 } := I'.landed nb fl3.1 (up.trans up3) os ag
    obtain ⟨o3, v3, e3, z3, d3⟩ := fl3.there
    have S3 := I3.suite e3 d3 na A.loc A.fs
    refine wpAny_handleBy_cons (codeAny_handlers_test ?_) (by intro q; cases q)
    have look := PySem.W.exm_one (M := model X.prog X.w) I3.kIn (fun A' Q' E' t k q => wpAny_typeOf_ref (k _ _ e3) (by rw [z3.1]; exact q)) hm
    have clause : ∀ {Q : Value → Shared → Prop} {E : Value → Shared → Prop}, Q c { s' with heap := h3 } → wpAny (model X.prog X.w) (X.A.mark (some (.ref a))) (eval (.Name x np) X.env) Q E { s' with heap := h3 } := by
      intro Q E q
      obtain ⟨hg, hdbg, hmg | ⟨hmg, hv, hnn⟩⟩ := hc
      · exact ld_glob (X := X.suite a ((a, o3) :: (X.pn ++ pins))) S3 hg hmg q hdbg
      · exact ld_blt (X := X.suite a ((a, o3) :: (X.pn ++ pins))) S3 hg hmg hv q hnn hdbg
    refine clause (look.here (codeAny_handlers_suite_as (HandSPX.lands_againZ fl3 fun h4 fl4 up4 => ?_)))
    have I4 : Inv X pins τ J { s' with heap := h4 } := I'.landed nb fl4.1 ((up.trans up3).trans up4) os ag
    obtain ⟨o4, v4, e4, z4, d4⟩ := fl4.there
    refine store_ok (X := X.suite a ((a, o4) :: (X.pn ++ pins))) (v := .ref a) (I4.suite e4 d4 na A.loc A.fs) hN hi (.inl hln) rfl (fun s5 S5 => ?_) (.inr hln)
    exact wpAny_mono (kp_suite hN hi hln I.ok A z4 ⟨_, d4⟩ (hsu a o4 cls d (X.pn ++ pins) z4 ⟨_, d4⟩) S5 (hyes a na)) (fun f s6 q => q) fun _ _ z => z.elim
  refine wpAny_mono run (fun f s1 q => ?_) fun e s1 he => he
  cases f with
  | next =>
    obtain ⟨τ, J, S, k⟩ := q
    exact wpAny_execs_nil ⟨τ, J, S.ofTry I.ok, k⟩
  | brk =>
    obtain ⟨τ, J, S, k⟩ := q
    exact ⟨τ, J, S.ofTry I.ok, k⟩
  | cont =>
    obtain ⟨τ, J, S, k⟩ := q
    exact ⟨τ, J, S.ofTry I.ok, k⟩
  | ret u =>
    obtain ⟨v, τ, J, S, r, k⟩ := q
    exact ⟨v, τ, J, S.ofTry I.ok, r, k⟩
end
/-! ### what is asked of a kept exception -/
theorem xo_inst {X : Cx} {pins : List (Addr × Obj)} {σ : St} {H : Hp} {s : Shared} {a C dx : Addr} {fs : List (Str × V)} (I : Inv X pins σ H s) (h : H a = some (xo a (.ref C) (some dx))) (hd : H dx = some (.xd fs)) :
    ∃ (oe od : Obj) (mA : Str → Option Value), PySem.W.InstAt s.heap a oe C (some od) ∧ (∀ name, PySem.W.lookIn name od = some (mA name)) ∧ ∀ f, RelO (fs.lookup f) (mA f) := by
  obtain ⟨oe, vs, h1, h2, h3⟩ := xo_at I.hok h
  have hx : ObjOk X.prog X.w H s.heap dx (.xd fs) := I.hok dx _ hd
  obtain ⟨mA, hns, hr⟩ := hx
  obtain ⟨od, ho, hl⟩ := lookIn_ns hns
  exact ⟨oe, od, mA, ⟨h1, h2.1, by unfold PySem.W.notCls; rw [h3] <;> rfl, by rw [h2.2]; exact ho⟩, hl, hr⟩
/-- e.f -/
def tXk (K : PySem.W.Frag) (f : Str) (te : TE) : TE := fun σ H Q => te σ H fun x H1 => ∃ (a C dx : Addr) (fs : List (Str × V)) (v : V), x = .ref a ∧ H1 a = some (xo a (.ref C) (some dx)) ∧ H1 dx = some (.xd fs) ∧ XfC K C ∧ PySem.W.findIn K (.ref C) f = some none ∧ fs.lookup f = some v ∧ Q v H1
theorem pe_xk {X : Cx} {e : Expr} {te : TE} {pos : Pos} {f : Str} (he : PE X e te) (hb : attributeBase e f X.env (eval e X.env) = eval e X.env := by rfl) : PE X (.Attribute e f pos) (tXk X.K f te) := by
  refine ⟨fun pins s σ H Q I h => attr_of hb (thn (he.run pins s σ H _ I h) fun u s1 hh => ?_)⟩
  obtain ⟨x, H1, I1, rx, a, C, dx, fs, v, rfl, ea, ed, T, hno, hv, q⟩ := hh
  obtain rfl : u = Value.ref a := rx
  obtain ⟨oe, od, mA, J, hl, hr⟩ := xo_inst I1 ea ed
  obtain ⟨w, hw, rw'⟩ := RelO.some_of (v := v) (o := mA f) (by rw [← hv]; exact hr f)
  exact HandSPX.exc_get I1.kIn J T.ga T.gg T.exC (PySem.W.findObj_own T.hdC hno rfl (by rw [hl, hw])) (handed_of rw') ⟨v, H1, I1.tok _, rw', q⟩
/-- isinstance(e, c) -/
def rIsK (K : PySem.W.Frag) : List V → Hp → VK → Prop := fun xs H Q => ∃ (a C dx : Addr) (fs : List (Str × V)) (c : V) (cv : Value) (b : Bool), xs = [.ref a, c] ∧ ClsV c cv ∧ H a = some (xo a (.ref C) (some dx)) ∧ H dx = some (.xd fs) ∧ ExcC K C ∧ PySem.W.kitOne K (.ref C) cv = some b ∧ Q (.bl b) H
theorem call_isK {X : Cx} : CallR X (.builtin "isinstance") (rIsK X.K) := by
  intro pins s σ H xs us Q I r h
  obtain ⟨a, C, dx, fs, c, cv, b, rfl, hc, ea, ed, T, e, q⟩ := h
  obtain ⟨u1, u2, rfl, r1, r2⟩ := vals2 r
  obtain rfl : u1 = Value.ref a := r1
  obtain rfl := hc.eq r2
  obtain ⟨oe, od, mA, J, _, _⟩ := xo_inst I ea ed
  obtain ⟨cd, hcd, _⟩ := PySem.W.any_some T.hd
  have kx : PySem.W.KitX X.K (.ref a) (.ref C) (fun h => PySem.W.InstAt h a oe C (some od)) := PySem.W.kitx_exc (by rw [hcd]; rfl) T.hg T.hk T.hs T.ha T.hn T.ht T.hm
  exact PySem.W.kia_one kx I.kIn J e (fun z => nomatch z) fun tk => ⟨.bl b, H, I.tok tk, rfl, q⟩
end L2

set_option Elab.async false
set_option linter.all false
set_option maxRecDepth 100000
set_option maxHeartbeats 2000000
namespace DL
open PySem PySem.Spec PyProof.Rows L2
/-! ### a def keeps its promise over data -/
def startD (N : List Str) (ds : List D) : DS := ds.map (fun d => some (.d d)) ++ List.replicate (N.length - ds.length) none
theorem startD_get {N : List Str} {ds : List D} {i : Nat} {x : Sl} (h : (startD N ds)[i]? = some (some x)) : ∃ d, x = .d d ∧ ds[i]? = some d := by
  unfold startD at h
  by_cases hi : i < ds.length
  · rw [List.getElem?_append_left (by rw [List.length_map]; exact hi), List.getElem?_map] at h
    cases e : ds[i]? with
    | none => rw [e] at h; cases h
    | some d => rw [e] at h; cases h; exact ⟨d, rfl, rfl⟩
  · rw [List.getElem?_append_right (by rw [List.length_map]; omega)] at h
    have := List.mem_of_getElem? h
    rw [List.mem_replicate] at this
    cases this.2
theorem start_get {N : List Str} {vs : List V} {i : Nat} {v : V} (h : vs[i]? = some v) : (L2.start N vs)[i]? = some (some v) := by
  unfold L2.start
  rw [List.getElem?_append_left (by rw [List.length_map]; exact lt_of_get h), List.getElem?_map, h]
  rfl
theorem rep_start {K : PySem.W.Frag} {H F : Hp} {M : MH} {N : List Str} {vs : List V} {ds : List D} (e : Ex F H) (m : ∀ a mo, M a = some mo → F a = none ∧ MoR K F H a mo) (r : Rs K F vs ds) :
    Rep ⟨K, H, F, M⟩ F (startD N ds) M (L2.start N vs) H where
  fr := ⟨e, Ex.refl F, fun a o h _ => h, fun a h => .inl h, fun a h => .inl h, fun a h => h, fun a h => h, m⟩
  len := by unfold startD L2.start; rw [List.length_append, List.length_append, List.length_map, List.length_map, List.length_replicate, List.length_replicate, r.length]
  val := fun i x h => by
    obtain ⟨d, h1, h2⟩ := startD_get h
    cases h1
    obtain ⟨v, h3, h4⟩ := r.get h2
    exact ⟨v, start_get h3, h4⟩
  own := fun i xs h => by
    obtain ⟨d, h1, _⟩ := startD_get h
    cases h1
  inj := fun i j xs ys a h => by
    obtain ⟨d, h1, _⟩ := startD_get h
    cases h1
/-- what a def's body is to reach -/
def endsD (Q : Sl → MH → Prop) (E : Addr → List (Str × D) → MH → Prop) : DEnds :=
  ⟨fun _ M => Q (.d .non) M, Q, fun _ _ => False, fun _ _ => False, fun C fs _ M => E C fs M⟩
section
variable {P : Program} {w : World} {K : PySem.W.Frag} {mg : Str → Option Value} {base : Heap}
theorem Fun.okD {x qual : Str} {st : Stmt} {f : Addr} {fd : FuncData} {N ps : List Str} {k : Nat} {sp : SpD} (F : Fun K x qual st f fd) (S : FnScope N ps (defScope st)) (td : DP)
    (len : ∀ ds M Q E, sp ds M Q E → ds.length = ps.length)
    (hbody : ∀ (cdv : Value) (A : Around) (outer : List Env) (s : Shared) (H : Hp) (E : XK) (G : Gd), G.K = K → Room k (A.deeper (envOfC qual (defScope st) s.heap.objs.size f cdv)) →
      PSs (cxOf (L2.CX P w) P w K mg base N qual (defScope st) f cdv A outer s H E) (defBody st) (LS G (fun cls d _ H => E cls d H) td))
    (hread : ∀ ds M Q E, sp ds M Q E → td (endsD Q E) (startD N ds) M) : FnOk P w K mg base (L2.CX P w) (k + 1) f fd ps (LSp K sp) :=
  F.okX S (fun vs H Q E ⟨F, M, ds, Qd, Ed, e, m, r, h, _⟩ => r.length.trans (len ds M Qd Ed h)) fun cdv A outer s H vs Q E hr ⟨F, M, ds, Qd, Ed, e, m, r, h, k, x⟩ =>
    ⟨_, hbody cdv A outer s H E ⟨K, H, F, M⟩ rfl hr, F, _, M, _, rep_start e m r, hread ds M Qd Ed h,
      fun F' δ' M' σ' H' r' e' q' => k (.d .non) .non F' M' H' r'.fr R.non q', fun z v F' M' H' f' r' q' => k z v F' M' H' f' r' q', fun _ _ _ _ _ _ _ z => z.elim, fun _ _ _ _ _ _ _ z => z.elim,
      fun δ σ C fs F' M' H' dx fv r' hd hf h0 q' => x C fs F' M' H' dx fv r'.fr hd hf h0 q'⟩
end
/-! ### raise C(e), C an own class with a field -/
structure XcC (K : PySem.W.Frag) (mg : Str → Option Value) (x : Str) (C fI : Addr) : Prop where
  mg : mg x = some (.ref C)
  ox : OexC K C
  iC : PySem.W.findIn K (.ref C) "__init__" = some (some (.ref fI))
  tI : PySem.W.typeIn K (.ref fI) = some (.type "function")
section
variable {X : Cx} {G : Gd} {W : WX} {e : Expr} {es : List Expr} {pos p : Pos} {t : DX}
def sRaise (C : Addr) (f : Str) (Pr : D → Prop) (t : DX) : DP := fun E δ M => t δ M (fun d M' => Pr d ∧ E.ex C [(f, d)] δ M') E.ex
theorem s_raise {x f : Str} {C fI : Addr} {k : Nat} {fd : FuncData} {ps : List Str} {Pv : V → Prop} {Pr : D → Prop} (T : XcC X.K X.mg x C fI) (FI : FnOk X.prog X.w X.K X.mg X.base CX0 k fI fd ps (spXI X.K C f Pv)) (hr : Room (k + 1) X.A)
    (hb : Binds X.K fd ps []) (hP : ∀ K F v d, R K F v d → Pr d → Pv v) (hc : X.calm = true) (tk : Takes X W) (hg : Gl X x) (he : PE X e (LV G W t)) (hdb : (x == ("__debug__" : Str)) = false := by decide)
    (hs : starEach (e :: []) X.env = (false, eval e X.env) :: starEach [] X.env := by rfl) (hpl : (backTo p (starEach [] X.env)).any (·.1) = false := by rfl) {p1 : Pos} :
    PS X (.Raise (some (.Call (.Name x p1) [e] [] p)) none pos) (LS G W (sRaise C f Pr t)) :=
  ps_imp (ps_raise hc tk (pmk_oex T.ox T.iC T.tI FI hr hb .nil (fun _ _ _ _ _ _ _ z => z.elim) hg T.mg (pa_cons he pa_nil hs) hdb hs hpl)) fun D σ H ⟨F, δ, M, E, rep, q, ok⟩ =>
    ⟨F, δ, M, _, _, rep, q, fun d v F1 M1 H1 r1 e1 s1 ⟨hp, q1⟩ => by
      refine ⟨by show 1 ≤ 1000; decide, fun a ha => ⟨a, v, rfl, upd_same, hP _ _ _ _ s1 hp, fun dx hdx hne => ?_⟩⟩
      rw [upd_ne hne] at hdx
      refine ⟨rfl, dx, [(f, v)], upd_same, by rw [upd_ne hne, upd_same], hdx, ?_⟩
      have eq : upd (del (upd (upd (upd H1 a (exo a C none)) dx (exd dx [(f, v)])) a (exo a C (some dx))) a) dx (.xd [(f, v)]) = upd H1 dx (.xd [(f, v)]) := by
        funext b
        by_cases hb : b = dx
        · subst hb; rw [upd_same, upd_same]
        · rw [upd_ne hb, upd_ne hb]
          by_cases hba : b = a
          · subst hba; rw [del_same, ha]
          · rw [del_ne hba, upd_ne hba, upd_ne hb, upd_ne hba]
      rw [eq]
      exact ok.ex δ σ C [(f, d)] F1 M1 _ dx [(f, v)] (r1.addH hdx _) upd_same (.cons s1 .nil) (r1.fr.h0 hdx) q1, ok.ex δ σ⟩
/-! ### try -/
/-- a thing of H that nobody changes is known to be frozen -/
theorem Rep.intoF {F : Hp} {δ : DS} {M : MH} {σ : L2.St} {H : Hp} {a : Addr} {fv : List (Str × V)} (r : Rep G F δ M σ H) (h : H a = some (.xd fv)) (h0 : G.H0 a = none) : ∃ F', Rep G F' δ M σ H ∧ Ex F F' ∧ F' a = some (.xd fv) := by
  have ma : M a = none := by
    cases q : M a with
    | none => rfl
    | some mo =>
      have z := (r.fr.mem a mo q).2
      cases mo with
      | lst xs => obtain ⟨vs, z1, _⟩ := z; rw [h] at z1; cases z1
      | ins C fs => obtain ⟨vs, _, z1, _⟩ := z; rw [h] at z1; cases z1
      | exc C fs =>
        obtain ⟨dx, fv2, z1, _⟩ := z
        rw [h] at z1
        have z2 := Option.some.inj z1
        have z3 : HO.xd fv = HO.ext _ := z2
        cases z3
      | dk kvs => obtain ⟨vs, z1, _⟩ := z; rw [h] at z1; cases z1
  have noOwn : ∀ (i : Nat) (ys : List D), δ[i]? = some (some (Sl.own ys)) → ∀ b, σ[i]? = some (some (V.ref b)) → b ≠ a := fun i ys z b hb q => by
    obtain ⟨c, g1, us, g2, _⟩ := r.own i ys z
    rw [hb] at g1
    cases g1
    rw [q, h] at g2
    cases g2
  by_cases hf : F a = none
  · have e : Ex F (upd F a (.xd fv)) := Ex.new hf
    refine ⟨upd F a (.xd fv), ⟨⟨fun b u z => ?_, r.fr.ex0.trans e, r.fr.keep, fun b z => ?_, r.fr.newM, r.fr.dom, r.fr.domM, fun b mo z => ?_⟩, r.len, fun i x z => ?_, fun i xs z => ?_, r.inj⟩, e, upd_same⟩
    · by_cases hb : b = a
      · subst hb; rw [upd_same] at z; rw [h]; exact z
      · rw [upd_ne hb] at z; exact r.fr.ex b u z
    · by_cases hb : b = a
      · subst hb; exact .inr h0
      · rw [upd_ne hb] at z; exact r.fr.newF b z
    · have hb : b ≠ a := fun q => by rw [q, ma] at z; cases z
      obtain ⟨q1, q2⟩ := r.fr.mem b mo z
      exact ⟨by rw [upd_ne hb]; exact q1, q2.mono e rfl fun _ _ _ => rfl⟩
    · obtain ⟨v, q1, q2⟩ := r.val i x z
      exact ⟨v, q1, q2.mono e⟩
    · obtain ⟨b, q1, q2⟩ := r.own i xs z
      have hb := noOwn i xs z b q1
      obtain ⟨vs, g1, g2, g3, g4, g5⟩ := id q2
      exact ⟨b, q1, q2.mono e rfl (by rw [upd_ne hb]; exact g3) g4⟩
  · cases q : F a with
    | none => exact absurd q hf
    | some o =>
      have := r.fr.ex a o q
      rw [h] at this
      cases this
      exact ⟨F, r, Ex.refl F, q⟩
/-- the ground with what is frozen by now -/
theorem Fra.reF {F : Hp} {M : MH} {H : Hp} (r : Fra G F M H) : Fra ⟨G.K, G.H0, F, G.M0⟩ F M H :=
  ⟨r.ex, Ex.refl F, r.keep, fun _ h => .inl h, r.newM, r.dom, r.domM, r.mem⟩
theorem Fra.offF {F F' : Hp} {M M' : MH} {H H' : Hp} (r : Fra G F M H) (q : Fra ⟨G.K, G.H0, F, G.M0⟩ F' M' H') : Fra G F' M' H' ∧ Ex F F' :=
  ⟨⟨q.ex, r.ex0.trans q.ex0, q.keep, fun a h => by
    rcases q.newF a h with z | z
    · exact r.newF a z
    · exact .inr z, q.newM, q.dom, q.domM, q.mem⟩, q.ex0⟩
theorem Rep.reF {F : Hp} {δ : DS} {M : MH} {σ : L2.St} {H : Hp} (r : Rep G F δ M σ H) : Rep ⟨G.K, G.H0, F, G.M0⟩ F δ M σ H := ⟨r.fr.reF, r.len, r.val, r.own, r.inj⟩
theorem Fra.offR {F F' : Hp} {δ' : DS} {M M' : MH} {σ' : L2.St} {H H' : Hp} (r : Fra G F M H) (q : Rep ⟨G.K, G.H0, F, G.M0⟩ F' δ' M' σ' H') : Rep G F' δ' M' σ' H' ∧ Ex F F' :=
  ⟨⟨(r.offF q.fr).1, q.len, q.val, q.own, q.inj⟩, (r.offF q.fr).2⟩
theorem RetR.off {F F' : Hp} {M' : MH} {H' : Hp} {v : V} {x : Sl} (h : RetR ⟨G.K, G.H0, F, G.M0⟩ F' M' H' v x) : RetR G F' M' H' v x := by
  cases x with
  | d x => exact h
  | own xs => exact h
/-- try: body; except B as n: suite (n in slot i); whatever is raised is a B -/
def tryX (Sub : Addr → Prop) (i : Nat) (u : DP) (E : DEnds) : XP := fun C fs δ' M' => Sub C ∧ ∀ a, M' a = none →
  u (DEnds.mk (fun δ2 M2 => M2 a = none → E.nx (δ2.set i none) (mu M2 a (.exc C fs))) (fun _ _ => False) (fun _ _ => False) (fun _ _ => False) NoX) (δ'.set i (some (.d (.ref a)))) M'
def sTry (Sub : Addr → Prop) (i : Nat) (t u : DP) : DP := fun E δ M => t { E with ex := tryX Sub i u E } δ M
def tTryX (K : PySem.W.Frag) (W' : WX) (t : DP) : TS := fun D σ H => ∃ G : Gd, G.K = K ∧ LS G W' t D σ H
theorem s_try {x n : Str} {c : Value} {i : Nat} {body suite : List Stmt} {s0 : Stmt} {np pos' : Pos} {t u : DP} (hs : X.stack = X.env :: X.outer) (hf : X.env.frame = some X.env.locals) (hex : X.ex = []) (hN : X.N.Nodup) (hi : X.N[i]? = some n) (hln : X.env.kindOf n = some .local) (hc : Names X x c)
    (hb : ∀ (G' : Gd), G'.K = G.K → ∀ (W' : WX) (pn : List (Addr × Obj)) (xe : Value → Shared → Prop), Takes (X.tr pn xe) W' → PassesOwn (model X.prog X.w) X.A X.env xe → PSs (X.tr pn xe) body (LS G' W' t))
    (hsu : ∀ (a : Addr) (oe : Obj) (pn : List (Addr × Obj)), PSs (X.suite a ((a, oe) :: pn)) (s0 :: suite) (LS G W0 u)) :
    PS X (.Try body [.ExceptHandler (some (.Name x np)) (some n) (s0 :: suite) pos'] [] [] pos) (LS G W (sTry (fun C => PySem.W.exmOne X.K (.ref C) c = some true) i t u)) :=
  ps_imp (ps_try_kp (ts := fun a cls d => LS G W0 u) (tb := fun W' => tTryX G.K W' t) hs hf hex hN hi hln hc (fun W' pn xe tk po => ⟨fun pins s σ H D I ⟨G', hk, z⟩ => (hb G' hk W' pn xe tk po).run pins s σ H D I z⟩) fun a oe cls d pn _ _ => hsu a oe pn) fun D σ H ⟨F, δ, M, E, rep, q, ok⟩ =>
    ⟨⟨G.K, G.H0, F, G.M0⟩, rfl, F, δ, M, _, rep.reF, q,
      fun F' δ' M' σ' H' r' e' q' => ok.nx F' δ' M' σ' H' (rep.fr.offR r').1 e' q',
      fun z v F' M' H' f' r' q' => ok.rt z v F' M' H' (rep.fr.offF f').1 r'.off q',
      fun F' δ' M' σ' H' r' e' q' => ok.bk F' δ' M' σ' H' (rep.fr.offR r').1 e' q',
      fun F' δ' M' σ' H' r' e' q' => ok.ct F' δ' M' σ' H' (rep.fr.offR r').1 e' q',
      fun δ' σ' C fs F' M' H' dx fv r0 hd hfd h0 ⟨hsub, hq⟩ => ⟨hsub, fun a ha => by
        obtain ⟨r', e'⟩ := rep.fr.offR r0
        obtain ⟨F2, r2, e2, hfx⟩ := r'.intoF hd h0
        refine ⟨F2, _, M', _, r2.setD (R.ref a), hq a (r'.fr.m_none ha), fun F3 δ3 M3 σ3 H3 r3 e3 q3 ja => ?_, fun _ _ _ _ _ _ _ z => z.elim, fun _ _ _ _ _ _ _ z => z.elim, fun _ _ _ _ _ _ _ z => z.elim, fun _ _ => xok0⟩
        have m3 := r3.fr.m_none ja
        have r4 := (r3.setNone (i := i) (y := none)).addM (o := xo a (.ref C) (some dx)) ja (mo := .exc C fs) ⟨dx, fv, upd_same, e3 _ _ hfx, hfd.mono (e2.trans e3)⟩
        exact ok.nx F3 _ _ _ _ r4 (e'.trans (e2.trans e3)) (q3 m3)⟩⟩
/-! ### kept exceptions asked -/
def dXk (f : Str) (P : Addr → Prop) (t : DX) : DE := fun δ M Q E => t δ M (fun x M1 => ∃ a C fs d, x = .ref a ∧ M1 a = some (.exc C fs) ∧ P C ∧ fs.lookup f = some d ∧ Q (.d d) M1) E
theorem Fds.get {K : PySem.W.Frag} {F : Hp} {f : Str} : ∀ {fv : List (Str × V)} {fs : List (Str × D)} {d : D}, Fds K F fv fs → fs.lookup f = some d → ∃ v, fv.lookup f = some v ∧ R K F v d
  | _, _, _, .nil, h => by cases h
  | (g, v) :: fv, (_, d) :: fs, d', .cons r rs, h => by
    by_cases e : f = g
    · subst e
      rw [lookup_put, if_pos rfl]
      have h' : List.lookup f ((f, d) :: fs) = some d' := h
      simp [List.lookup] at h'
      subst h'
      exact ⟨v, rfl, r⟩
    · have h' : List.lookup f ((g, d) :: fs) = some d' := h
      have e' : (f == g) = false := by simpa using e
      simp [List.lookup, e'] at h'
      rw [lookup_put, if_neg e]
      exact Fds.get rs h'
/-- the class's facts for e.f -/
def XkC (K : PySem.W.Frag) (f : Str) (C : Addr) : Prop := XfC K C ∧ PySem.W.findIn K (.ref C) f = some none
theorem d_xk {f : Str} {t : DX} (hK : X.K = G.K) (he : PE X e (LO G W t)) (hb : attributeBase e f X.env (eval e X.env) = eval e X.env := by rfl) : PE X (.Attribute e f pos) (LE G W (dXk f (XkC G.K f) t)) :=
  pe_imp (pe_xk he hb) fun σ H Q ⟨F, δ, M, Qd, Ed, rep, q, k, x⟩ => ⟨F, δ, M, _, Ed, rep, q, fun y v F1 M1 H1 r1 e1 s1 ⟨a, C, fs, d, hy, hm, hP, hl, q1⟩ => by
    subst hy
    obtain rfl := (s1.val (fun _ z => by cases z)).ref_inv
    obtain ⟨dx, fv, z1, z2, z3⟩ := (r1.fr.mem a _ hm).2
    obtain ⟨u, g1, g2⟩ := z3.get hl
    rw [hK]
    exact ⟨a, C, dx, fv, u, rfl, z1, r1.fr.ex _ _ z2, hP.1, hP.2, g1, k (.d d) u F1 M1 H1 r1 e1 g2 q1⟩, x⟩
/-- isinstance(e, C) of a kept exception -/
def dIsX (P : Addr → Bool → Prop) (t : DX) : DT := fun δ M Q E => t δ M (fun x M1 => ∃ a C fs b, x = .ref a ∧ M1 a = some (.exc C fs) ∧ P C b ∧ Q b M1) E
def IsxC (K : PySem.W.Frag) (cv : Value) (C : Addr) (b : Bool) : Prop := ExcC K C ∧ PySem.W.kitOne K (.ref C) cv = some b
theorem d_isX {T : Str} {pT pI : Pos} {t : DX} {c : V} {cv : Value} {a : Expr} (hk : X.K = G.K) (hg : Gl X "isinstance") (hm : X.mg "isinstance" = none) (hT : PE X (.Name T pT) (tC c)) (hcv : ClsV c cv) (ha : PE X a (LO G W t))
    (he : starEach [a, .Name T pT] X.env = (false, eval a X.env) :: starEach [.Name T pT] X.env := by rfl) (he2 : starEach [.Name T pT] X.env = (false, eval (.Name T pT) X.env) :: starEach [] X.env := by rfl)
    (hpl : (backTo pos (starEach [.Name T pT] X.env)).any (·.1) = false := by rfl) :
    PE X (.Call (.Name "isinstance" pI) [a, .Name T pT] [] pos) (LE G W (dOfT (dIsX (IsxC G.K cv) t))) :=
  pe_imp (pe_callB call_isK hg hm (by decide +kernel) (pa_cons ha (pa_cons hT pa_nil he2) he) (by decide) (by decide) he hpl) fun σ H Q ⟨F, δ, M, Qd, Ed, rep, q, k, x⟩ => ⟨F, δ, M, _, Ed, rep, q, fun y v F1 M1 H1 r1 e1 s1 ⟨a, C, fs, b, hy, hm, hP, q1⟩ => by
    subst hy
    obtain rfl := (s1.val (fun _ z => by cases z)).ref_inv
    obtain ⟨dx, fv, z1, z2, z3⟩ := (r1.fr.mem a _ hm).2
    rw [hk]
    exact ⟨a, C, dx, fv, c, cv, b, rfl, hcv, z1, r1.fr.ex _ _ z2, hP.1, hP.2, k (.d (.bl b)) _ F1 M1 H1 r1 e1 (R.bl b) q1⟩, x⟩
end
end DL

set_option Elab.async false
set_option linter.all false
set_option maxRecDepth 100000
set_option maxHeartbeats 2000000
namespace DL
open PySem PySem.Spec PyProof.Rows L2
section
variable {X : Cx} {G : Gd} {W : WX} {e a b c : Expr} {es : List Expr} {pos p : Pos} {ta tb tc : DX}
/-! ### the rules by their names -/
def vVar (i : Nat) : DX := fun δ M Q _ => ∃ x, δ[i]? = some (some (.d x)) ∧ Q x M
def vC (d : D) : DX := fun _ M Q _ => Q d M
theorem v_var {i : Nat} (h : PE X e (tVar i)) : PE X e (LV G W (vVar i)) :=
  pe_imp h fun σ H Q ⟨F, δ, M, Qd, Ed, rep, ⟨x, hx, q⟩, k, _⟩ => by
    obtain ⟨v, h1, h2⟩ := rep.val i x hx
    exact ⟨v, h1, k x v F M H rep (Ex.refl F) h2 q⟩
theorem v_con {v : V} {d : D} (h : PE X e (tC v)) (r : ∀ K F, R K F v d) : PE X e (LV G W (vC d)) :=
  pe_imp h fun σ H Q ⟨F, δ, M, Qd, Ed, rep, q, k, x⟩ => k d v F M H rep (Ex.refl F) (r _ _) q
theorem v_int {i : Int} {j pos} : PE X (.Constant (.int i) j pos) (LV G W (vC (.int i))) := v_con pe_int fun _ _ => .int i
theorem v_bl {i : Bool} {j pos} : PE X (.Constant (.bool i) j pos) (LV G W (vC (.bl i))) := v_con pe_bl fun _ _ => .bl i
theorem v_str {i : Str} {j pos} : PE X (.Constant (.str i) j pos) (LV G W (vC (.str i))) := v_con pe_str fun _ _ => .str i
theorem v_non {j pos} : PE X (.Constant .none j pos) (LV G W (vC .non)) := v_con pe_non fun _ _ => .non
/-- a constant of the module: a text, an int -/
theorem v_glob {x : Str} {v : V} {u : Value} {d : D} (hg : Gl X x) (hm : X.mg x = some u) (r : RelV v u) (rd : ∀ K F, R K F v d) (hd : (x == ("__debug__" : Str)) = false := by decide) : PE X (.Name x pos) (LV G W (vC d)) := v_con (pe_glob hg hm r hd) rd
theorem t_eq (hK : X.K = G.K) (hu : X.A.units + 65 < cLine) (ha : PE X a (LO G W ta)) (hb : PE X b (LO G W tb)) : PT X (.Compare a [.Eq] [b] pos) (LT G W (dCmp fEq ta tb)) := t_cmp (op_eqD (by omega)) (by rw [hK]; exact cl_eq) ha hb (nomark _)
theorem t_ne (hK : X.K = G.K) (hu : X.A.units + 65 < cLine) (ha : PE X a (LO G W ta)) (hb : PE X b (LO G W tb)) : PT X (.Compare a [.NotEq] [b] pos) (LT G W (dCmp fNe ta tb)) := t_cmp (op_neD (by omega)) (by rw [hK]; exact cl_ne) ha hb (nomark _)
theorem t_lt (ha : PE X a (LO G W ta)) (hb : PE X b (LO G W tb)) : PT X (.Compare a [.Lt] [b] pos) (LT G W (dCmp fLt ta tb)) := t_cmp op_lt cl_lt ha hb (nomark _)
theorem t_le (ha : PE X a (LO G W ta)) (hb : PE X b (LO G W tb)) : PT X (.Compare a [.LtE] [b] pos) (LT G W (dCmp fLe ta tb)) := t_cmp op_le cl_le ha hb (nomark _)
theorem t_gt (ha : PE X a (LO G W ta)) (hb : PE X b (LO G W tb)) : PT X (.Compare a [.Gt] [b] pos) (LT G W (dCmp fGt ta tb)) := t_cmp op_gt cl_gt ha hb (nomark _)
theorem t_ge (ha : PE X a (LO G W ta)) (hb : PE X b (LO G W tb)) : PT X (.Compare a [.GtE] [b] pos) (LT G W (dCmp fGe ta tb)) := t_cmp op_ge cl_ge ha hb (nomark _)
theorem t_in (hK : X.K = G.K) (hu : X.A.units + 65 < cLine) (ha : PE X a (LO G W ta)) (hb : PE X b (LO G W tb)) (hm : behindInMarks .In b = false := by rfl) : PT X (.Compare a [.In] [b] pos) (LT G W (dCmp fIn ta tb)) := t_cmp (op_inU hu) (by rw [hK]; exact cl_in) ha hb hm
theorem t_notIn (hK : X.K = G.K) (hu : X.A.units + 65 < cLine) (ha : PE X a (LO G W ta)) (hb : PE X b (LO G W tb)) (hm : behindInMarks .NotIn b = false := by rfl) : PT X (.Compare a [.NotIn] [b] pos) (LT G W (dCmp fNotIn ta tb)) := t_cmp (op_notInU hu) (by rw [hK]; exact cl_notIn) ha hb hm
theorem t_is (ha : PE X a (LO G W ta)) (hb : PE X b (LO G W tb)) : PT X (.Compare a [.Is] [b] pos) (LT G W (dCmp fIs ta tb)) := t_cmp op_isN cl_is ha hb (nomark _)
theorem t_isNot (ha : PE X a (LO G W ta)) (hb : PE X b (LO G W tb)) : PT X (.Compare a [.IsNot] [b] pos) (LT G W (dCmp fIsNot ta tb)) := t_cmp op_notN cl_isNot ha hb (nomark _)
theorem d_eq (hK : X.K = G.K) (hu : X.A.units + 65 < cLine) (ha : PE X a (LO G W ta)) (hb : PE X b (LO G W tb)) : PE X (.Compare a [.Eq] [b] pos) (LE G W (dOfT (dCmp fEq ta tb))) := d_cmp (op_eqD (by omega)) (by rw [hK]; exact cl_eq) ha hb (nomark _)
theorem d_ne (hK : X.K = G.K) (hu : X.A.units + 65 < cLine) (ha : PE X a (LO G W ta)) (hb : PE X b (LO G W tb)) : PE X (.Compare a [.NotEq] [b] pos) (LE G W (dOfT (dCmp fNe ta tb))) := d_cmp (op_neD (by omega)) (by rw [hK]; exact cl_ne) ha hb (nomark _)
theorem d_lt (ha : PE X a (LO G W ta)) (hb : PE X b (LO G W tb)) : PE X (.Compare a [.Lt] [b] pos) (LE G W (dOfT (dCmp fLt ta tb))) := d_cmp op_lt cl_lt ha hb (nomark _)
theorem d_le (ha : PE X a (LO G W ta)) (hb : PE X b (LO G W tb)) : PE X (.Compare a [.LtE] [b] pos) (LE G W (dOfT (dCmp fLe ta tb))) := d_cmp op_le cl_le ha hb (nomark _)
theorem d_gt (ha : PE X a (LO G W ta)) (hb : PE X b (LO G W tb)) : PE X (.Compare a [.Gt] [b] pos) (LE G W (dOfT (dCmp fGt ta tb))) := d_cmp op_gt cl_gt ha hb (nomark _)
theorem d_ge (ha : PE X a (LO G W ta)) (hb : PE X b (LO G W tb)) : PE X (.Compare a [.GtE] [b] pos) (LE G W (dOfT (dCmp fGe ta tb))) := d_cmp op_ge cl_ge ha hb (nomark _)
theorem d_in (hK : X.K = G.K) (hu : X.A.units + 65 < cLine) (ha : PE X a (LO G W ta)) (hb : PE X b (LO G W tb)) (hm : behindInMarks .In b = false := by rfl) : PE X (.Compare a [.In] [b] pos) (LE G W (dOfT (dCmp fIn ta tb))) := d_cmp (op_inU hu) (by rw [hK]; exact cl_in) ha hb hm
theorem d_notIn (hK : X.K = G.K) (hu : X.A.units + 65 < cLine) (ha : PE X a (LO G W ta)) (hb : PE X b (LO G W tb)) (hm : behindInMarks .NotIn b = false := by rfl) : PE X (.Compare a [.NotIn] [b] pos) (LE G W (dOfT (dCmp fNotIn ta tb))) := d_cmp (op_notInU hu) (by rw [hK]; exact cl_notIn) ha hb hm
theorem d_is (ha : PE X a (LO G W ta)) (hb : PE X b (LO G W tb)) : PE X (.Compare a [.Is] [b] pos) (LE G W (dOfT (dCmp fIs ta tb))) := d_cmp op_isN cl_is ha hb (nomark _)
theorem d_isNot (ha : PE X a (LO G W ta)) (hb : PE X b (LO G W tb)) : PE X (.Compare a [.IsNot] [b] pos) (LE G W (dOfT (dCmp fIsNot ta tb))) := d_cmp op_notN cl_isNot ha hb (nomark _)
/-! built-ins -/
theorem d_len {t : DA} (hK : X.K = G.K) (hg : Gl X "len") (hm : X.mg "len" = none) (ha : PA X [a] (LAO G W t)) (he : starEach [a] X.env = (false, eval a X.env) :: starEach [] X.env := by rfl) : PE X (.Call (.Name "len" p) [a] [] pos) (LE G W (dCB fLen t)) :=
  d_callB call_len (by rw [hK]; exact cl_len) hg hm (by decide +kernel) ha (by decide) (by decide) he rfl
theorem d_min2 {t : DA} (hc : X.calm = true) (hg : Gl X "min") (hm : X.mg "min" = none) (ha : PA X [a, b] (LAO G W t)) (he : starEach [a, b] X.env = (false, eval a X.env) :: starEach [b] X.env := by rfl) (hpl : (backTo pos (starEach [b] X.env)).any (·.1) = false := by rfl) : PE X (.Call (.Name "min" p) [a, b] [] pos) (LE G W (dCB fMin2 t)) :=
  d_callB (call_min2 hc) cl_min2 hg hm (by decide +kernel) ha (by decide) (by decide) he hpl
theorem d_max2 {t : DA} (hc : X.calm = true) (hg : Gl X "max") (hm : X.mg "max" = none) (ha : PA X [a, b] (LAO G W t)) (he : starEach [a, b] X.env = (false, eval a X.env) :: starEach [b] X.env := by rfl) (hpl : (backTo pos (starEach [b] X.env)).any (·.1) = false := by rfl) : PE X (.Call (.Name "max" p) [a, b] [] pos) (LE G W (dCB fMax2 t)) :=
  d_callB (call_max2 hc) cl_max2 hg hm (by decide +kernel) ha (by decide) (by decide) he hpl
theorem d_intOf {t : DA} (hg : Gl X "int") (hm : X.mg "int" = none) (ha : PA X [a] (LAO G W t)) (he : starEach [a] X.env = (false, eval a X.env) :: starEach [] X.env := by rfl) : PE X (.Call (.Name "int" p) [a] [] pos) (LE G W (dCB fInt t)) :=
  d_callTy call_int1 cl_int1 hg hm (by decide +kernel) ha (by decide) (by decide) he rfl
theorem d_tupleOf {t : DA} (hK : X.K = G.K) (hg : Gl X "tuple") (hm : X.mg "tuple" = none) (ha : PA X [a] (LAO G W t)) (he : starEach [a] X.env = (false, eval a X.env) :: starEach [] X.env := by rfl) : PE X (.Call (.Name "tuple" p) [a] [] pos) (LE G W (dCB fTuple t)) :=
  d_callTy call_tuple_of (by rw [hK]; exact cl_tuple) hg hm (by decide +kernel) ha (by decide) (by decide) he rfl
theorem d_listOf {t : DA} (hK : X.K = G.K) (hg : Gl X "list") (hm : X.mg "list" = none) (ha : PA X [a] (LAO G W t)) (he : starEach [a] X.env = (false, eval a X.env) :: starEach [] X.env := by rfl) : PE X (.Call (.Name "list" p) [a] [] pos) (LE G W (dCB fList t)) :=
  d_callTy call_list_of (by rw [hK]; exact cl_list) hg hm (by decide +kernel) ha (by decide) (by decide) he rfl
theorem d_sum {t : DA} (hK : X.K = G.K) (hc : X.calm = true) (hg : Gl X "sum") (hm : X.mg "sum" = none) (ha : PA X [a] (LAO G W t)) (he : starEach [a] X.env = (false, eval a X.env) :: starEach [] X.env := by rfl) : PE X (.Call (.Name "sum" p) [a] [] pos) (LE G W (dCB fSum t)) :=
  d_callB (cr_sum hc) (by rw [hK]; exact cl_sum) hg hm (by decide +kernel) ha (by decide) (by decide) he rfl
theorem d_all {t : DA} (hK : X.K = G.K) (hc : X.calm = true) (hg : Gl X "all") (hm : X.mg "all" = none) (ha : PA X [a] (LAO G W t)) (he : starEach [a] X.env = (false, eval a X.env) :: starEach [] X.env := by rfl) : PE X (.Call (.Name "all" p) [a] [] pos) (LE G W (dCB fAll t)) :=
  d_callB (cr_all hc) (by rw [hK]; exact cl_all) hg hm (by decide +kernel) ha (by decide) (by decide) he rfl
/-! ### a def that may be called -/
structure Cal (P : Program) (w : World) (K : PySem.W.Frag) (mg : Str → Option Value) (base : Heap) (k : Nat) (x : Str) (ps : List Str) (sp : SpD) : Prop where
  ex : ∃ (f : Addr) (fd : FuncData), FnOk P w K mg base (L2.CX P w) k f fd ps (LSp K sp) ∧ mg x = some (.ref f) ∧ PySem.W.keepIn K (.ref f) = true ∧ Binds K fd ps []
theorem d_cal {k : Nat} {ps : List Str} {sp : SpD} {x : Str} {t : DA} (Y : Cal X.prog X.w X.K X.mg X.base k x ps sp) (hK : X.K = G.K) (hr : Room k X.A) (hg : Gl X x) (tk : Takes X W) (ha : PA X (e :: es) (LA G W t)) (hdb : (x == ("__debug__" : Str)) = false := by decide)
    (he : starEach (e :: es) X.env = (false, eval e X.env) :: starEach es X.env := by rfl) (hpl : (backTo pos (starEach es X.env)).any (·.1) = false := by rfl) :
    PE X (.Call (.Name x p) (e :: es) [] pos) (LE G W (dCall sp t)) := by
  obtain ⟨f, fd, F, hm, hk, hb⟩ := Y.ex
  exact d_call (n := 0) F hK hr hg hm hk hb tk ha hdb he hpl
theorem Cal.imp {P : Program} {w : World} {K : PySem.W.Frag} {mg : Str → Option Value} {base : Heap} {k : Nat} {x : Str} {ps : List Str} {sp sp' : SpD} (Y : Cal P w K mg base k x ps sp) (h : ∀ ds M Q E, sp' ds M Q E → sp ds M Q E) : Cal P w K mg base k x ps sp' := by
  obtain ⟨f, fd, F, r⟩ := Y.ex
  exact ⟨f, fd, F.imp fun vs H Q E ⟨F, M, ds, Qd, Ed, e, m, r, z, y⟩ => ⟨F, M, ds, Qd, Ed, e, m, r, h _ _ _ _ z, y⟩, r⟩
/-! ### while -/
def whD (c : DT) (b : DP) (E : DEnds) : Nat → DS → MH → Prop
  | 0, _, _ => False
  | n + 1, δ, M => c δ M (fun v M1 => if v = true then b { E with nx := whD c b E n, ct := whD c b E n, bk := E.nx } δ M1 else E.nx δ M1) E.ex
def sWhile (c : DT) (b : DP) : DP := fun E δ M => ∃ n, whD c b E n δ M
theorem s_while {body : List Stmt} {t : DT} {u : DP} (hp : PassesOwn (model X.prog X.w) X.A X.env X.xe) (hc : PT X c (LT G W t)) (hb : PSs X body (LS G W u)) : PS X (.While c body [] pos) (LS G W (sWhile t u)) := by
  refine ps_imp (ps_while hp hc hb) fun D σ H ⟨F, δ, M, E, rep, ⟨n, q⟩, ok⟩ => ?_
  refine ⟨fun m σ' H' => ∃ F' δ' M', Rep G F' δ' M' σ' H' ∧ Ex F F' ∧ whD t u E m δ' M', ⟨n, F, δ, M, rep, Ex.refl F, q⟩, ?_⟩
  rintro m σ' H' ⟨F', δ', M', r', e', q'⟩
  cases m with
  | zero => exact q'.elim
  | succ m =>
    refine ⟨F', δ', M', _, _, r', q', fun b F1 M1 H1 r1 e1 q1 => ?_, ok.ex δ' σ'⟩
    cases b with
    | false => exact ok.nx F1 δ' M1 σ' H1 r1 (e'.trans e1) q1
    | true =>
      rw [if_pos rfl] at q1 ⊢
      refine ⟨fun σ2 H2 => ∃ F2 δ2 M2, Rep G F2 δ2 M2 σ2 H2 ∧ Ex F F2 ∧ whD t u E m δ2 M2, fun σ2 H2 z => ⟨m, Nat.lt_succ_self m, z⟩, F1, δ', M1, _, r1, q1, ?_⟩
      exact ⟨fun F4 δ4 M4 σ4 H4 r4 e4 q4 => ⟨F4, δ4, M4, r4, e'.trans (e1.trans e4), q4⟩, ok.rt, fun F4 δ4 M4 σ4 H4 r4 e4 q4 => ok.nx F4 δ4 M4 σ4 H4 r4 (e'.trans (e1.trans e4)) q4, fun F4 δ4 M4 σ4 H4 r4 e4 q4 => ⟨F4, δ4, M4, r4, e'.trans (e1.trans e4), q4⟩, ok.ex⟩
/-- x += e, x -= e of ints -/
def sAug (i : Nat) (f : Int → Int → Int) (t : DX) : DP := fun E δ M => ∃ n, δ[i]? = some (some (.d (.int n))) ∧ t δ M (fun d M' => ∃ m, d = .int m ∧ E.nx (δ.set i (some (.d (.int (f n m))))) M') E.ex
theorem s_aug {i : Nat} {x : Str} {t : DX} {op : Operator} {f : Int → Int → Int} {pos' : Pos} (hN : X.N.Nodup) (hi : X.N[i]? = some x) (hx : Loc X.env.scope x) (he : PE X e (LV G W t)) (ho : PIp X op (ipI f)) (hf : X.fn x = true ∨ X.env.scope.names.lookup x = some .local := by first | exact .inl rfl | exact .inr rfl | assumption) :
    PS X (.AugAssign (.Name x pos') op e pos) (LS G W (sAug i f t)) :=
  ps_imp (ps_aug hN hi hx he ho hf) fun D σ H ⟨F, δ, M, E, rep, ⟨n, hn, q⟩, ok⟩ => by
    obtain ⟨v, h1, h2⟩ := rep.val i _ hn
    obtain rfl := h2.int_inv
    exact ⟨_, h1, F, δ, M, _, _, rep, q, fun d v F1 M1 H1 r1 e1 s1 ⟨m, hm, q1⟩ => by
      subst hm
      obtain rfl := s1.int_inv
      exact ⟨n, m, rfl, rfl, ok.nx F1 _ M1 _ H1 (r1.setD (R.int _)) e1 q1⟩, ok.ex δ σ⟩
end
end DL

set_option Elab.async false
set_option linter.all false
set_option maxRecDepth 100000
set_option maxHeartbeats 2000000
namespace L2
open PySem PySem.Spec PyProof.Rows
/-- a list, a tuple or a text is walked -/
def iAnyV (K : PySem.W.Frag) (te : TE) : TI := fun σ H R => te σ H fun x J =>
  (∃ a xs, x = .ref a ∧ SqL K J a xs ∧ R (Itl K a) J) ∨ (∃ a xs, x = .ref a ∧ SqT K J a xs ∧ R (Itt K a) J) ∨ ∃ s, x = .str s ∧ R (Its s) J
theorem pi_anyV {X : Cx} {tg e : Expr} {te : TE} (he : PE X e te) : PI X tg e (iAnyV X.K te) := by
  refine ⟨fun pins s σ H R I h => thn (he.run pins s σ H _ I h) fun v t hv => ?_⟩
  obtain ⟨x, J, IJ, rx, h⟩ := hv
  have one : ∀ (o : Obj) {J' : It} {tn : Nat → Heap → Prop} {E : Value → Shared → Prop}, Turn X.prog X.w X.K tg J' [t.heap.objs.size] t.heap.objs.size tn → tn 0 (t.heap.push o) → R J' J →
      PIE X pins σ tg R (.ref t.heap.objs.size) { t with heap := t.heap.push o } := fun o {J' tn E} T st q => pi_one (tk := t.toks) IJ o T st q
  rcases h with ⟨a, xs, rfl, hq, q⟩ | ⟨a, xs, rfl, hq, q⟩ | ⟨z, rfl, q⟩
  · obtain rfl : v = Value.ref a := rx
    obtain ⟨its, _, pl, _⟩ := IJ.list hq
    exact wpAny_pyIter_list pl.isList (one (E := X.xe) _ (turn_list a _) ⟨_, Heap.get?_push_size _ rfl, rfl, rfl⟩ q)
  · obtain rfl : v = Value.ref a := rx
    obtain ⟨its, _, pl, _⟩ := IJ.tuple hq
    exact wpAny_pyIter_tuple (show t.heap.IsTuple a its.toArray from pl) (one (E := X.xe) _ (turn_tuple a _) ⟨_, Heap.get?_push_size _ rfl, rfl, rfl⟩ q)
  · obtain ⟨tk, rfl⟩ := rx
    cases hw : z.cps.all (· < 128)
    · exact wpAny_pyIter_wide hw (one (E := X.xe) _ (turn_str _ z tk "str_iterator" (.inr rfl)) ⟨_, Heap.get?_push_size _ rfl, rfl, rfl⟩ q)
    · exact wpAny_pyIter_ascii hw (one (E := X.xe) _ (turn_str _ z tk "str_ascii_iterator" (.inl rfl)) ⟨_, Heap.get?_push_size _ rfl, rfl, rfl⟩ q)
end L2
namespace DL
open PySem PySem.Spec PyProof.Rows L2
section
variable {X : Cx} {G : Gd} {W : WX} {tg e a b c : Expr} {es : List Expr} {pos p : Pos} {t ta tb tc : DX}
/-- what is walked: a tuple, a list, a text -/
def itemsOf : D → Option (List D)
  | .tup xs => some xs
  | .lst xs => some xs
  | .str s => some (sgD s)
  | _ => none
def iAny (t : DX) : DIt := fun δ M Q E => t δ M (fun d M' => ∃ xs, itemsOf d = some xs ∧ Q xs M') E
theorem i_any (hk : X.K = G.K) (h : PE X e (LV G W t)) : PI X tg e (LI G W (iAny t)) :=
  pi_imp (pi_anyV h) fun σ H R ⟨F, δ, M, Qd, Ed, rep, q, k, x⟩ => ⟨F, δ, M, _, Ed, rep, q, fun d v F1 M1 H1 r1 e1 s1 ⟨xs, hd, q1⟩ => (by
    rw [hk]
    cases d with
    | tup ys =>
      cases hd
      obtain ⟨a, vs, rfl, h1, h2⟩ := s1.tup_inv
      exact .inr (.inl ⟨a, vs, rfl, ex_t r1.fr.ex h1, k _ _ F1 M1 H1 r1 e1 (ok_tup h1 h2) q1⟩)
    | lst ys =>
      cases hd
      obtain ⟨a, vs, rfl, h1, h2⟩ := s1.lst_inv
      exact .inl ⟨a, vs, rfl, .inl (.inl (r1.fr.ex _ _ h1)), k _ _ F1 M1 H1 r1 e1 (ok_lst h1 h2) q1⟩
    | str s =>
      cases hd
      obtain rfl := s1.str_inv
      exact .inr (.inr ⟨s, rfl, k _ _ F1 M1 H1 r1 e1 ok_str q1⟩)
    | non => cases hd
    | bl z => cases hd
    | int z => cases hd
    | lsk z => cases hd
    | ref z => cases hd), x⟩
/-- what a name holds, looked at, for a comprehension -/
def iPk (i : Nat) : DIt := fun δ M Q _ => ∃ s xs, δ[i]? = some (some s) ∧ itemsOf s.fz = some xs ∧ Q xs M
theorem i_pk {i : Nat} (hk : X.K = G.K) (h : PE X e (tVar i)) : PI X tg e (LIP G W (iPk i)) :=
  pi_imp (pi_anyV h) fun σ H R ⟨F, δ, M, Qd, Ed, rep, ⟨s, xs, hs, hx, q⟩, k, x⟩ => by
    show ∃ v, σ[i]? = some (some v) ∧ _
    rw [hk]
    cases s with
    | own ys =>
      cases hx
      obtain ⟨a, h1, vs, h2, h3, _⟩ := rep.own i _ hs
      exact ⟨.ref a, h1, .inl ⟨a, vs, rfl, .inl (.inl h2), k _ _ F M H rep (Ex.refl F) (ok_own hs h1) q⟩⟩
    | d y =>
      obtain ⟨v, h1, h2⟩ := rep.val i _ hs
      refine ⟨v, h1, ?_⟩
      cases y with
      | tup ys =>
        cases hx
        obtain ⟨a, vs, rfl, h3, h4⟩ := h2.tup_inv
        exact .inr (.inl ⟨a, vs, rfl, ex_t rep.fr.ex h3, k _ _ F M H rep (Ex.refl F) (ok_tup h3 h4).weak q⟩)
      | lst ys =>
        cases hx
        obtain ⟨a, vs, rfl, h3, h4⟩ := h2.lst_inv
        exact .inl ⟨a, vs, rfl, .inl (.inl (rep.fr.ex _ _ h3)), k _ _ F M H rep (Ex.refl F) (ok_lst h3 h4).weak q⟩
      | str z =>
        cases hx
        obtain rfl := h2.str_inv
        exact .inr (.inr ⟨z, rfl, k _ _ F M H rep (Ex.refl F) ok_str.weak q⟩)
      | non => cases hx
      | bl z => cases hx
      | int z => cases hx
      | ref z => cases hx
      | lsk z => cases hx
/-- a test that gives its answer as a value -/
theorem t_ofT {t : DT} (h : PE X e (LE G W (dOfT t))) (he : ∀ whole, isTrue e X.env whole = (do let v ← whole; standAt e.pos; holding [v] (truthy v)) := by intro _; rfl) : PT X e (LT G W t) :=
  pt_imp (pt_val h he) fun σ H Q ⟨F, δ, M, Qd, Ed, rep, q, k, x⟩ => ⟨F, δ, M, fun r M' => ∃ b, r = .d (.bl b) ∧ Qd b M', Ed, rep, by
    have z : dOfT t δ M (fun r M' => ∃ b, r = .d (.bl b) ∧ Qd b M') Ed ↔ t δ M (fun b M' => ∃ b', Sl.d (D.bl b) = .d (.bl b') ∧ Qd b' M') Ed := Iff.rfl
    rw [z]
    have fe : (fun (b : Bool) (M' : MH) => ∃ b', Sl.d (D.bl b) = .d (.bl b') ∧ Qd b' M') = Qd := by
      funext b M'
      exact propext ⟨fun ⟨b', h1, h2⟩ => by cases h1; exact h2, fun h => ⟨b, rfl, h⟩⟩
    rw [fe]
    exact q, fun r v F' M' H' rep' e' s' ⟨b, hb, qb⟩ => by
    subst hb
    cases s'
    exact ⟨b, rfl, k b F' M' H' rep' e' qb⟩, x⟩
/-- a, b = x, y: two written values to two names -/
def sPar (i j : Nat) (t : DA) : DP := fun E δ M => t δ M (fun ds M' => ∃ d d', ds = [d, d'] ∧ E.nx ((δ.set i (some (.d d))).set j (some (.d d'))) M') E.ex
theorem s_par {i j : Nat} {x y : Str} {t : DA} {px py pt : Pos} {kt k2 pt2} (hc : X.calm = true) (hN : X.N.Nodup) (hi : X.N[i]? = some x) (hj : X.N[j]? = some y) (hij : i ≠ j)
    (hx : X.env.scope.names.lookup x = some .local) (hy : X.env.scope.names.lookup y = some .local) (ha : PA X [a, b] (LA G W t))
    (hw : swappedStores [.Tuple [.Name x px, .Name y py] kt pt] (.Tuple [a, b] k2 pt2) X.env = pure (some [x, y]))
    (hs : swapsWithSole [.Tuple [.Name x px, .Name y py] kt pt] (.Tuple [a, b] k2 pt2) pos.line X.env = pure false := by rfl) :
    PS X (.Assign [.Tuple [.Name x px, .Name y py] kt pt] (.Tuple [a, b] k2 pt2) pos) (LS G W (sPar i j t)) :=
  ps_imp (ps_par hc hN hi hj hij hx hy ha hw hs) fun D σ H ⟨F, δ, M, E, rep, q, ok⟩ => ⟨F, δ, M, _, _, rep, q, fun ds vs F1 M1 H1 r1 e1 s1 ⟨d, d', hd, q1⟩ => by
    subst hd
    obtain ⟨v, u, rfl, s2, s3⟩ := s1.two
    exact ⟨v, u, rfl, ok.nx F1 _ M1 _ H1 ((r1.setD s2).setD s3) e1 q1⟩, ok.ex δ σ⟩
/-! ### promises by the number of arguments -/
abbrev QD := Sl → MH → Prop
abbrev ED := Addr → List (Str × D) → MH → Prop
def sp1 (f : D → MH → QD → ED → Prop) : SpD := fun ds M Q E => ∃ a, ds = [a] ∧ f a M Q E
def sp2 (f : D → D → MH → QD → ED → Prop) : SpD := fun ds M Q E => ∃ a b, ds = [a, b] ∧ f a b M Q E
def sp3 (f : D → D → D → MH → QD → ED → Prop) : SpD := fun ds M Q E => ∃ a b c, ds = [a, b, c] ∧ f a b c M Q E
def sp4 (f : D → D → D → D → MH → QD → ED → Prop) : SpD := fun ds M Q E => ∃ a b c d, ds = [a, b, c, d] ∧ f a b c d M Q E
def sp5 (f : D → D → D → D → D → MH → QD → ED → Prop) : SpD := fun ds M Q E => ∃ a b c d e, ds = [a, b, c, d, e] ∧ f a b c d e M Q E
theorem len1 {f : D → MH → QD → ED → Prop} : ∀ ds M Q E, sp1 f ds M Q E → ds.length = 1 := fun ds M Q E ⟨_, h, _⟩ => by rw [h]; rfl
theorem len2 {f : D → D → MH → QD → ED → Prop} : ∀ ds M Q E, sp2 f ds M Q E → ds.length = 2 := fun ds M Q E ⟨_, _, h, _⟩ => by rw [h]; rfl
theorem len3 {f : D → D → D → MH → QD → ED → Prop} : ∀ ds M Q E, sp3 f ds M Q E → ds.length = 3 := fun ds M Q E ⟨_, _, _, h, _⟩ => by rw [h]; rfl
theorem len4 {f : D → D → D → D → MH → QD → ED → Prop} : ∀ ds M Q E, sp4 f ds M Q E → ds.length = 4 := fun ds M Q E ⟨_, _, _, _, h, _⟩ => by rw [h]; rfl
theorem len5 {f : D → D → D → D → D → MH → QD → ED → Prop} : ∀ ds M Q E, sp5 f ds M Q E → ds.length = 5 := fun ds M Q E ⟨_, _, _, _, _, h, _⟩ => by rw [h]; rfl
/-! ### an own exception's __init__ -/
def PvI (v : V) : Prop := ∃ i : Int, v = .int i ∧ i.natAbs.log2 < 1920
def PrI (d : D) : Prop := ∃ i : Int, d = .int i ∧ i.natAbs.log2 < 1920
theorem prI : ∀ (K : PySem.W.Frag) (F : Hp) (v : V) (d : D), R K F v d → PrI d → PvI v := fun K F v d r ⟨i, h, hi⟩ => by
  subst h
  exact ⟨i, r.int_inv, hi⟩
def PrT (_ : D) : Prop := True
def PvT (_ : V) : Prop := True
theorem prT : ∀ (K : PySem.W.Frag) (F : Hp) (v : V) (d : D), R K F v d → PrT d → PvT v := fun _ _ _ _ _ _ => trivial
end
end DL

set_option Elab.async false
set_option linter.all false
set_option maxRecDepth 100000
set_option maxHeartbeats 2000000
namespace L2
open PySem PySem.Spec PyProof.Rows
/-- how many of a list's items are equal to y -/
def rCountD (K : PySem.W.Frag) : V → List V → Hp → VK → Prop := fun x xs H Q => ∃ (a : Addr) (y : V) (d : PyData) (ds : List PyData), x = V.ref a ∧ xs = [y] ∧ Dp K H (V.ref a) (.list ds) ∧ Dp K H y d ∧
  SeqAt.shaped (.list ds) = true ∧ SeqAt.shaped d = true ∧ Q (.int ((ds.countP fun z => PyData.eqv z d : Nat) : Int)) H
theorem mt_countD {X : Cx} (hu : X.A.units + 65 < cLine) : MtR X "list.count" (rCountD X.K) := by
  rintro pins s σ H x xs v us Q I rx rxs ⟨a, y, d, ds, rfl, rfl, hl, hy, sl, sd, q⟩
  cases rx
  obtain ⟨u, rfl, ru⟩ := rxs.one
  obtain ⟨bs, rd⟩ := Dp.reads I d y u hy ru
  cases hl with
  | lst hs ha =>
    obtain ⟨its, rv, ⟨⟨cls, dd, data, sls⟩, n, ho, hc, hdn, hdt⟩, hlen⟩ := I.list hs
    simp only at hc hdt
    subst hc hdt
    obtain ⟨as, hrs⟩ := Dp.readsAll I ds _ its ha rv
    have lay := SeqAt.canLay_of_shaped sl
    have hmap : its.map (SeqAt.readOf s.heap) = ds := SeqAt.readsAll_map ds its as lay hrs
    have hcp : its.countP (fun u => PyData.eqv (SeqAt.readOf s.heap u) d) = ds.countP fun z => PyData.eqv z d := by
      rw [← hmap, List.countP_map]
      rfl
    refine call_meets PySem.F.slot_list_count ⟨_, ho, rfl⟩ PySem.F.entry_list_count (PySem.F.args_list_count_2 _ _)
      (SeqAt.list_countAt a its.toArray n dd sls u (fun u => PyData.eqv (SeqAt.readOf s.heap u) d)) ⟨ho, SeqAt.items_eqAt (vs := its.toArray) hrs rd lay (SeqAt.canLay_of_shaped sd) (room_in_shaped sd hu), ?_⟩
    refine ⟨.int ((ds.countP fun z => PyData.eqv z d : Nat) : Int), H, I.tok _, ⟨s.toks, ?_⟩, q⟩
    rw [← hcp]
end L2
namespace DL
open PySem PySem.Spec PyProof.Rows L2
/-! ### methods of built-in types -/
abbrev FM := D → List D → MH → (Sl → MH → Prop) → Prop
def TyD (T : String) (x : D) (M : MH) : Prop := (T = "list" ∧ ∃ xs, seqOf M x = some xs) ∨ (T = "str" ∧ ∃ s, x = .str s)
def MtL (G : Gd) (r : V → List V → Hp → VK → Prop) (f : FM) : Prop := ∀ F δ M σ H v vs x ds Q Qv, Rep G F δ M σ H → Opn G F δ σ v x → Opns G F δ σ vs ds → f x ds M Q →
  (∀ z w F' M' H', Rep G F' δ M' σ H' → Ex F F' → SvR G F' δ M' σ H' w z → Q z M' → Qv w H') → r v vs H Qv
def dM (T : String) (f : FM) (to : DX) (ta : DA) : DE := fun δ M Q E => to δ M (fun x M1 => TyD T x M1 ∧ ta δ M1 (fun ds M2 => f x ds M2 Q) E) E
theorem tyD_v {G : Gd} {F : Hp} {δ : DS} {M : MH} {σ : L2.St} {H : Hp} {v : V} {x : D} {T : String} (rep : Rep G F δ M σ H) (o : Opn G F δ σ v x) (t : TyD T x M) : tyV G.K T v H := by
  rcases t with ⟨rfl, xs, h⟩ | ⟨rfl, s, rfl⟩
  · obtain ⟨a, vs, rfl, h1, _⟩ := seqOf_at rep o h
    exact .inl ⟨rfl, vs, h1⟩
  · obtain rfl := opn_str o
    rfl
theorem m_l {G : Gd} {W : WX} {T : String} {r : V → List V → Hp → VK → Prop} {f : FM} {to : DX} {ta : DA} (hl : MtL G r f) {σ : L2.St} {H : Hp} {Q : VK} (h : LE G W (dM T f to ta) σ H Q) : tBM G.K T r (LO G W to) (LAO G W ta) σ H Q := by
  obtain ⟨F, δ, M, Qd, Ed, rep, q, k, x⟩ := h
  exact ⟨F, δ, M, _, Ed, rep, q, fun d v F1 M1 H1 r1 e1 o1 ⟨t1, q1⟩ => ⟨tyD_v r1 o1 t1, F1, δ, M1, _, Ed, r1, q1, fun ds vs F2 M2 H2 r2 e2 o2 q2 =>
    hl F2 δ M2 σ H2 v vs d ds Qd Q r2 (o1.mono e2) o2 q2 fun z w F3 M3 H3 r3 e3 s3 q3 => k z w F3 M3 H3 r3 (e1.trans (e2.trans e3)) s3 q3, x⟩, x⟩
section
variable {X : Cx} {G : Gd} {W : WX} {o e : Expr} {es : List Expr} {name : Str} {apos cpos : Pos} {T id : String} {r : V → List V → Hp → VK → Prop} {f : FM} {to : DX} {ta : DA}
theorem d_m (hk : X.K = G.K) (pa : PlainAttrs T) (slot : Slot T name id) (hty : typeOf (.builtin id) = pure (.type "method_descriptor")) (hm : MtR X id r) (hl : MtL G r f) (ho : PE X o (LO G W to)) (ha : PA X (e :: es) (LAO G W ta))
    (hbase : attributeBase o name X.env (eval o X.env) = eval o X.env)
    (hfew : ((backTo cpos (starEach (e :: es) X.env)).all (fun x => !x.1) && (backToKw cpos (keywordEach [] X.env)).all (fun x => x.1.isSome)
      && decide ((e :: es).length + ([] : List Keyword).length + (if ([] : List Keyword).isEmpty then 0 else 1) < 30)) = true)
    (hline : (apos.endLine == cpos.line) = true) (hs : starEach (e :: es) X.env = (false, eval e X.env) :: starEach es X.env) (hplain : (backTo cpos (starEach es X.env)).any (·.1) = false) :
    PE X (.Call (.Attribute o name apos) (e :: es) [] cpos) (LE G W (dM T f to ta)) :=
  pe_imp (pe_bm pa slot hty hm ho ha hbase hfew hline hs hplain) fun _ _ _ h => by rw [hk]; exact m_l hl h
def fCnt : FM := fun x ds M Q => ∃ (xs : List D) (y : D), x = .lst xs ∧ ds = [y] ∧ x.Ok ∧ y.Ok ∧ Q (.d (.int ((xs.countP fun z => D.eq z y : Nat) : Int))) M
theorem ml_cnt : MtL G (rCountD G.K) fCnt := by
  intro F δ M σ H v vs x ds Q Qv rep o os ⟨xs, y, hx, hd, ox, oy, q⟩ k
  subst hd
  obtain ⟨u, rfl, o2⟩ := os.one
  have h1 := o.dp rep ox.1
  have h2 := o2.dp rep oy.1
  subst hx
  obtain ⟨a, ws, rfl, h3, h4⟩ := o.lst rep
  refine ⟨a, u, y.toP, D.toPs xs, rfl, rfl, h1, h2, ox.shaped, oy.shaped, ?_⟩
  refine k (.d (.int _)) _ F M H rep (Ex.refl F) ?_ q
  rw [toPs_map, List.countP_map]
  exact R.int _
def fIdx : FM := fun x ds M Q => ∃ (xs : List D) (y : D) (j : Nat) (z : D), x = .lst xs ∧ ds = [y] ∧ x.Ok ∧ y.Ok ∧ xs[j]? = some z ∧ D.eq z y = true ∧ (∀ (m : Nat) (z' : D), m < j → xs[m]? = some z' → D.eq z' y = false) ∧ Q (.d (.int (j : Nat))) M
theorem ml_idx : MtL G (rIndexD G.K) fIdx := by
  intro F δ M σ H v vs x ds Q Qv rep o os ⟨xs, y, j, z, hx, hd, ox, oy, hj, he, hn, q⟩ k
  subst hd
  obtain ⟨u, rfl, o2⟩ := os.one
  have h1 := o.dp rep ox.1
  have h2 := o2.dp rep oy.1
  subst hx
  obtain ⟨a, ws, rfl, h3, h4⟩ := o.lst rep
  refine ⟨a, u, y.toP, D.toPs xs, j, z.toP, rfl, rfl, h1, h2, ox.shaped, oy.shaped, ?_, he, fun m z' hm hz => ?_, k (.d (.int _)) _ F M H rep (Ex.refl F) (R.int _) q⟩
  · rw [toPs_map, List.getElem?_map, hj]
    rfl
  · rw [toPs_map, List.getElem?_map] at hz
    cases e : xs[m]? with
    | none => rw [e] at hz; cases hz
    | some w =>
      rw [e] at hz
      cases hz
      exact hn m w hm e
theorem d_count (hk : X.K = G.K) (hu : X.A.units + 65 < cLine) (ho : PE X o (LO G W to)) (ha : PA X [e] (LAO G W ta))
    (hbase : attributeBase o "count" X.env (eval o X.env) = eval o X.env := by rfl)
    (hfew : ((backTo cpos (starEach [e] X.env)).all (fun x => !x.1) && (backToKw cpos (keywordEach [] X.env)).all (fun x => x.1.isSome)
      && decide ([e].length + ([] : List Keyword).length + (if ([] : List Keyword).isEmpty then 0 else 1) < 30)) = true := by rfl)
    (hline : (apos.endLine == cpos.line) = true := by rfl) (hs : starEach [e] X.env = (false, eval e X.env) :: starEach [] X.env := by rfl) (hplain : (backTo cpos (starEach [] X.env)).any (·.1) = false := by rfl) :
    PE X (.Call (.Attribute o "count" apos) [e] [] cpos) (LE G W (dM "list" fCnt to ta)) :=
  d_m hk PySem.F.plainAttrs_list PySem.F.slot_list_count PySem.F.type_list_count (mt_countD hu) (by rw [hk]; exact ml_cnt) ho ha hbase hfew hline hs hplain
theorem d_index (hk : X.K = G.K) (hu : X.A.units + 65 < cLine) (ho : PE X o (LO G W to)) (ha : PA X [e] (LAO G W ta))
    (hbase : attributeBase o "index" X.env (eval o X.env) = eval o X.env := by rfl)
    (hfew : ((backTo cpos (starEach [e] X.env)).all (fun x => !x.1) && (backToKw cpos (keywordEach [] X.env)).all (fun x => x.1.isSome)
      && decide ([e].length + ([] : List Keyword).length + (if ([] : List Keyword).isEmpty then 0 else 1) < 30)) = true := by rfl)
    (hline : (apos.endLine == cpos.line) = true := by rfl) (hs : starEach [e] X.env = (false, eval e X.env) :: starEach [] X.env := by rfl) (hplain : (backTo cpos (starEach [] X.env)).any (·.1) = false := by rfl) :
    PE X (.Call (.Attribute o "index" apos) [e] [] cpos) (LE G W (dM "list" fIdx to ta)) :=
  d_m hk PySem.F.plainAttrs_list PySem.F.slot_list_index PySem.F.type_list_index (mt_indexD hu) (by rw [hk]; exact ml_idx) ho ha hbase hfew hline hs hplain
end
end DL

set_option Elab.async false
set_option linter.all false
set_option maxRecDepth 100000
set_option maxHeartbeats 2000000
namespace DL
open PySem PySem.Spec PyProof.Rows L2
theorem hu_of {k : Nat} {A : Around} (h : Room k A) : A.units + 65 < cLine := by have := h.un; omega
/-- a def as the top has made it -/
structure Df (K : PySem.W.Frag) (mg : Str → Option Value) (x qual : Str) (st : Stmt) (ps : List Str) : Prop where
  ex : ∃ (f : Addr) (fd : FuncData), Fun K x qual st f fd ∧ mg x = some (.ref f) ∧ Binds K fd ps []
section
variable {P : Program} {w : World} {K : PySem.W.Frag} {mg : Str → Option Value} {base : Heap}
theorem Df.cal {x qual : Str} {st : Stmt} {N ps : List Str} {k : Nat} {sp : SpD} (Y : Df K mg x qual st ps) (S : FnScope N ps (defScope st)) (td : DP)
    (len : ∀ ds M Q E, sp ds M Q E → ds.length = ps.length)
    (hbody : ∀ (f : Addr) (cdv : Value) (A : Around) (outer : List Env) (s : Shared) (H : Hp) (E : XK) (G : Gd), G.K = K → Room k (A.deeper (envOfC qual (defScope st) s.heap.objs.size f cdv)) →
      PSs (cxOf (L2.CX P w) P w K mg base N qual (defScope st) f cdv A outer s H E) (defBody st) (LS G (fun cls d _ H => E cls d H) td))
    (hread : ∀ ds M Q E, sp ds M Q E → td (endsD Q E) (startD N ds) M) : Cal P w K mg base (k + 1) x ps sp := by
  obtain ⟨f, fd, F, hm, hb⟩ := Y.ex
  exact ⟨f, fd, DL.Fun.okD F S td len (hbody f) hread, hm, F.kp, hb⟩
/-- a class of errors of the program's own with a field, as the top has made it -/
structure ExI (P : Program) (w : World) (K : PySem.W.Frag) (mg : Str → Option Value) (base : Heap) (k : Nat) (x : Str) (C : Addr) (f : Str) (Pv : V → Prop) : Prop where
  ex : ∃ (fI : Addr) (fd : FuncData) (ps : List Str), XcC K mg x C fI ∧ FnOk P w K mg base CX0 k fI fd ps (spXI K C f Pv) ∧ Binds K fd ps []
end
section
variable {X : Cx} {G : Gd} {W : WX} {e : Expr} {pos p p1 : Pos} {t : DX}
theorem s_rz {x f : Str} {C : Addr} {k : Nat} {Pv : V → Prop} {Pr : D → Prop} (Y : ExI X.prog X.w X.K X.mg X.base k x C f Pv) (hP : ∀ K F v d, R K F v d → Pr d → Pv v) (hr : Room (k + 1) X.A) (hc : X.calm = true) (tk : Takes X W) (hg : Gl X x) (he : PE X e (LV G W t))
    (hdb : (x == ("__debug__" : Str)) = false := by decide)
    (hs : starEach (e :: []) X.env = (false, eval e X.env) :: starEach [] X.env := by rfl) (hpl : (backTo p (starEach [] X.env)).any (·.1) = false := by rfl) :
    PS X (.Raise (some (.Call (.Name x p1) [e] [] p)) none pos) (LS G W (sRaise C f Pr t)) := by
  obtain ⟨fI, fd, ps, T, FI, hb⟩ := Y.ex
  exact s_raise (k := k) T FI hr hb hP hc tk hg he hdb hs hpl
/-- e.f of a kept exception, isinstance(e, C): what is asked of K -/
theorem xk {f : Str} {o : Expr} {t : DX} (hK : X.K = G.K) (he : PE X o (LO G W t)) (hb : attributeBase o f X.env (eval o X.env) = eval o X.env := by rfl) : PE X (.Attribute o f pos) (LE G W (dXk f (XkC X.K f) t)) :=
  pe_imp (d_xk hK he hb) fun _ _ _ h => by rw [hK] at h; exact h
theorem is_own {T : Str} {C : Addr} {pT pI : Pos} {a : Expr} {t : DX} (hk : X.K = G.K) (hg : Gl X "isinstance") (hm : X.mg "isinstance" = none) (hgT : Gl X T) (hmT : X.mg T = some (.ref C)) (ha : PE X a (LO G W t)) (hdb : (T == ("__debug__" : Str)) = false := by decide)
    (he : starEach [a, .Name T pT] X.env = (false, eval a X.env) :: starEach [.Name T pT] X.env := by rfl) (he2 : starEach [.Name T pT] X.env = (false, eval (.Name T pT) X.env) :: starEach [] X.env := by rfl)
    (hpl : (backTo pos (starEach [.Name T pT] X.env)).any (·.1) = false := by rfl) :
    PE X (.Call (.Name "isinstance" pI) [a, .Name T pT] [] pos) (LE G W (dOfT (dIsX (IsxC X.K (.ref C)) t))) :=
  pe_imp (d_isX (c := .ref C) (cv := .ref C) hk hg hm (pe_glob hgT hmT (show RelV (.ref C) (.ref C) from rfl) hdb) (.own C) ha he he2 hpl) fun _ _ _ h => by rw [hk] at h; exact h
theorem is_ve {pT pI : Pos} {a : Expr} {t : DX} (hk : X.K = G.K) (hg : Gl X "isinstance") (hm : X.mg "isinstance" = none) (hgT : Gl X "ValueError") (hmT : X.mg "ValueError" = none) (ha : PE X a (LO G W t))
    (he : starEach [a, .Name "ValueError" pT] X.env = (false, eval a X.env) :: starEach [.Name "ValueError" pT] X.env := by rfl) (he2 : starEach [.Name "ValueError" pT] X.env = (false, eval (.Name "ValueError" pT) X.env) :: starEach [] X.env := by rfl)
    (hpl : (backTo pos (starEach [.Name "ValueError" pT] X.env)).any (·.1) = false := by rfl) :
    PE X (.Call (.Name "isinstance" pI) [a, .Name "ValueError" pT] [] pos) (LE G W (dOfT (dIsX (IsxC X.K (.type "ValueError")) t))) :=
  pe_imp (d_isX (c := .ty "ValueError") (cv := .type "ValueError") hk hg hm (pe_bltn (v := .ty "ValueError") hgT hmT (by decide +kernel) rfl (by decide) (by decide)) (.ty _) ha he he2 hpl) fun _ _ _ h => by rw [hk] at h; exact h
/-- a module's constant that stands in K -/
theorem v_gk {x : Str} {a : Addr} {d : D} (hk : X.K = G.K) (hg : Gl X x) (hm : X.mg x = some (.ref a)) (rd : ∀ F, R X.K F (.ref a) d) (hd : (x == ("__debug__" : Str)) = false := by decide) : PE X (.Name x pos) (LV G W (vC d)) :=
  pe_imp (pe_glob hg hm (show RelV (.ref a) (.ref a) from rfl) hd) fun σ H Q ⟨F, δ, M, Qd, Ed, rep, q, k, xo⟩ => k d _ F M H rep (Ex.refl F) (by rw [← hk]; exact rd F) q
end
end DL

set_option Elab.async false
set_option linter.all false
set_option maxRecDepth 100000
set_option maxHeartbeats 2000000
namespace DL
open PySem PySem.Spec PyProof.Rows L2
/-! ### reading: each word of the layer run by simp, from its head on -/
section
variable {δ δ' : DS} {M M' : MH} {E : DEnds} {X : XP} {i j : Nat} {P Q : Prop}
def pk (δ : DS) (i : Nat) (k : Sl → Prop) : Prop := ∃ s, δ[i]? = some (some s) ∧ k s
def setK (δ : DS) (i : Nat) (x : Option Sl) (k : DS → Prop) : Prop := k (δ.set i x)
def frK (δ : DS) (i : Nat) (k : DS → Prop) : Prop := k (frzS i δ)
def shK (δ : DS) (M : MH) (i : Nat) (k : DS → MH → Prop) : Prop := match δ[i]? with
  | some (some (.own xs)) => ∀ a, M a = none → k (δ.set i (some (.d (.ref a)))) (mu M a (.lst xs))
  | _ => k δ M
def asD (s : Sl) (k : D → Prop) : Prop := ∃ x, s = .d x ∧ k x
def asB (s : Sl) (k : Bool → Prop) : Prop := ∃ b, s = .d (.bl b) ∧ k b
def asI (d : D) (k : Int → Prop) : Prop := ∃ i, d = .int i ∧ k i
def tif (c : Bool) (P Q : Prop) : Prop := if c = true then P else Q
def lk (M : MH) (a : Addr) (k : MO → Prop) : Prop := ∃ o, M a = some o ∧ k o
def asL (o : MO) (k : List D → Prop) : Prop := ∃ xs, o = .lst xs ∧ k xs
def ixI (xs : List D) (i : Int) (k : D → Prop) : Prop := ∃ d, atI xs i = some d ∧ k d
def setI (xs : List D) (i : Int) (d : D) (k : List D → Prop) : Prop := ∃ n, ixN xs.length i = some n ∧ k (xs.set n d)
def stM (y x d : D) (M : MH) (k : MH → Prop) : Prop := ∃ a xs i n, y = .ref a ∧ M a = some (.lst xs) ∧ x = .int i ∧ ixN xs.length i = some n ∧ k (mu M a (.lst (xs.set n d)))

@[simp ↓] theorem pk0 {s : Sl} {δ : DS} {k : Sl → Prop} : pk (some s :: δ) 0 k = k s := propext ⟨fun ⟨_, h, q⟩ => by cases h; exact q, fun h => ⟨s, rfl, h⟩⟩
@[simp ↓] theorem setK0 {y x : Option Sl} {δ : DS} {k : DS → Prop} : setK (y :: δ) 0 x k = k (x :: δ) := rfl
@[simp ↓] theorem pk1 {x0 : Option Sl} {s : Sl} {δ : DS} {k : Sl → Prop} : pk (x0 :: some s :: δ) 1 k = k s := propext ⟨fun ⟨_, h, q⟩ => by cases h; exact q, fun h => ⟨s, rfl, h⟩⟩
@[simp ↓] theorem setK1 {x0 : Option Sl} {y x : Option Sl} {δ : DS} {k : DS → Prop} : setK (x0 :: y :: δ) 1 x k = k (x0 :: x :: δ) := rfl
@[simp ↓] theorem pk2 {x0 x1 : Option Sl} {s : Sl} {δ : DS} {k : Sl → Prop} : pk (x0 :: x1 :: some s :: δ) 2 k = k s := propext ⟨fun ⟨_, h, q⟩ => by cases h; exact q, fun h => ⟨s, rfl, h⟩⟩
@[simp ↓] theorem setK2 {x0 x1 : Option Sl} {y x : Option Sl} {δ : DS} {k : DS → Prop} : setK (x0 :: x1 :: y :: δ) 2 x k = k (x0 :: x1 :: x :: δ) := rfl
@[simp ↓] theorem pk3 {x0 x1 x2 : Option Sl} {s : Sl} {δ : DS} {k : Sl → Prop} : pk (x0 :: x1 :: x2 :: some s :: δ) 3 k = k s := propext ⟨fun ⟨_, h, q⟩ => by cases h; exact q, fun h => ⟨s, rfl, h⟩⟩
@[simp ↓] theorem setK3 {x0 x1 x2 : Option Sl} {y x : Option Sl} {δ : DS} {k : DS → Prop} : setK (x0 :: x1 :: x2 :: y :: δ) 3 x k = k (x0 :: x1 :: x2 :: x :: δ) := rfl
@[simp ↓] theorem pk4 {x0 x1 x2 x3 : Option Sl} {s : Sl} {δ : DS} {k : Sl → Prop} : pk (x0 :: x1 :: x2 :: x3 :: some s :: δ) 4 k = k s := propext ⟨fun ⟨_, h, q⟩ => by cases h; exact q, fun h => ⟨s, rfl, h⟩⟩
@[simp ↓] theorem setK4 {x0 x1 x2 x3 : Option Sl} {y x : Option Sl} {δ : DS} {k : DS → Prop} : setK (x0 :: x1 :: x2 :: x3 :: y :: δ) 4 x k = k (x0 :: x1 :: x2 :: x3 :: x :: δ) := rfl
@[simp ↓] theorem pk5 {x0 x1 x2 x3 x4 : Option Sl} {s : Sl} {δ : DS} {k : Sl → Prop} : pk (x0 :: x1 :: x2 :: x3 :: x4 :: some s :: δ) 5 k = k s := propext ⟨fun ⟨_, h, q⟩ => by cases h; exact q, fun h => ⟨s, rfl, h⟩⟩
@[simp ↓] theorem setK5 {x0 x1 x2 x3 x4 : Option Sl} {y x : Option Sl} {δ : DS} {k : DS → Prop} : setK (x0 :: x1 :: x2 :: x3 :: x4 :: y :: δ) 5 x k = k (x0 :: x1 :: x2 :: x3 :: x4 :: x :: δ) := rfl
@[simp ↓] theorem pk6 {x0 x1 x2 x3 x4 x5 : Option Sl} {s : Sl} {δ : DS} {k : Sl → Prop} : pk (x0 :: x1 :: x2 :: x3 :: x4 :: x5 :: some s :: δ) 6 k = k s := propext ⟨fun ⟨_, h, q⟩ => by cases h; exact q, fun h => ⟨s, rfl, h⟩⟩
@[simp ↓] theorem setK6 {x0 x1 x2 x3 x4 x5 : Option Sl} {y x : Option Sl} {δ : DS} {k : DS → Prop} : setK (x0 :: x1 :: x2 :: x3 :: x4 :: x5 :: y :: δ) 6 x k = k (x0 :: x1 :: x2 :: x3 :: x4 :: x5 :: x :: δ) := rfl
@[simp ↓] theorem pk7 {x0 x1 x2 x3 x4 x5 x6 : Option Sl} {s : Sl} {δ : DS} {k : Sl → Prop} : pk (x0 :: x1 :: x2 :: x3 :: x4 :: x5 :: x6 :: some s :: δ) 7 k = k s := propext ⟨fun ⟨_, h, q⟩ => by cases h; exact q, fun h => ⟨s, rfl, h⟩⟩
@[simp ↓] theorem setK7 {x0 x1 x2 x3 x4 x5 x6 : Option Sl} {y x : Option Sl} {δ : DS} {k : DS → Prop} : setK (x0 :: x1 :: x2 :: x3 :: x4 :: x5 :: x6 :: y :: δ) 7 x k = k (x0 :: x1 :: x2 :: x3 :: x4 :: x5 :: x6 :: x :: δ) := rfl
@[simp ↓] theorem pk8 {x0 x1 x2 x3 x4 x5 x6 x7 : Option Sl} {s : Sl} {δ : DS} {k : Sl → Prop} : pk (x0 :: x1 :: x2 :: x3 :: x4 :: x5 :: x6 :: x7 :: some s :: δ) 8 k = k s := propext ⟨fun ⟨_, h, q⟩ => by cases h; exact q, fun h => ⟨s, rfl, h⟩⟩
@[simp ↓] theorem setK8 {x0 x1 x2 x3 x4 x5 x6 x7 : Option Sl} {y x : Option Sl} {δ : DS} {k : DS → Prop} : setK (x0 :: x1 :: x2 :: x3 :: x4 :: x5 :: x6 :: x7 :: y :: δ) 8 x k = k (x0 :: x1 :: x2 :: x3 :: x4 :: x5 :: x6 :: x7 :: x :: δ) := rfl
@[simp ↓] theorem pk9 {x0 x1 x2 x3 x4 x5 x6 x7 x8 : Option Sl} {s : Sl} {δ : DS} {k : Sl → Prop} : pk (x0 :: x1 :: x2 :: x3 :: x4 :: x5 :: x6 :: x7 :: x8 :: some s :: δ) 9 k = k s := propext ⟨fun ⟨_, h, q⟩ => by cases h; exact q, fun h => ⟨s, rfl, h⟩⟩
@[simp ↓] theorem setK9 {x0 x1 x2 x3 x4 x5 x6 x7 x8 : Option Sl} {y x : Option Sl} {δ : DS} {k : DS → Prop} : setK (x0 :: x1 :: x2 :: x3 :: x4 :: x5 :: x6 :: x7 :: x8 :: y :: δ) 9 x k = k (x0 :: x1 :: x2 :: x3 :: x4 :: x5 :: x6 :: x7 :: x8 :: x :: δ) := rfl
@[simp ↓] theorem pk10 {x0 x1 x2 x3 x4 x5 x6 x7 x8 x9 : Option Sl} {s : Sl} {δ : DS} {k : Sl → Prop} : pk (x0 :: x1 :: x2 :: x3 :: x4 :: x5 :: x6 :: x7 :: x8 :: x9 :: some s :: δ) 10 k = k s := propext ⟨fun ⟨_, h, q⟩ => by cases h; exact q, fun h => ⟨s, rfl, h⟩⟩
@[simp ↓] theorem setK10 {x0 x1 x2 x3 x4 x5 x6 x7 x8 x9 : Option Sl} {y x : Option Sl} {δ : DS} {k : DS → Prop} : setK (x0 :: x1 :: x2 :: x3 :: x4 :: x5 :: x6 :: x7 :: x8 :: x9 :: y :: δ) 10 x k = k (x0 :: x1 :: x2 :: x3 :: x4 :: x5 :: x6 :: x7 :: x8 :: x9 :: x :: δ) := rfl
@[simp ↓] theorem pk11 {x0 x1 x2 x3 x4 x5 x6 x7 x8 x9 x10 : Option Sl} {s : Sl} {δ : DS} {k : Sl → Prop} : pk (x0 :: x1 :: x2 :: x3 :: x4 :: x5 :: x6 :: x7 :: x8 :: x9 :: x10 :: some s :: δ) 11 k = k s := propext ⟨fun ⟨_, h, q⟩ => by cases h; exact q, fun h => ⟨s, rfl, h⟩⟩
@[simp ↓] theorem setK11 {x0 x1 x2 x3 x4 x5 x6 x7 x8 x9 x10 : Option Sl} {y x : Option Sl} {δ : DS} {k : DS → Prop} : setK (x0 :: x1 :: x2 :: x3 :: x4 :: x5 :: x6 :: x7 :: x8 :: x9 :: x10 :: y :: δ) 11 x k = k (x0 :: x1 :: x2 :: x3 :: x4 :: x5 :: x6 :: x7 :: x8 :: x9 :: x10 :: x :: δ) := rfl
@[simp ↓] theorem pk12 {x0 x1 x2 x3 x4 x5 x6 x7 x8 x9 x10 x11 : Option Sl} {s : Sl} {δ : DS} {k : Sl → Prop} : pk (x0 :: x1 :: x2 :: x3 :: x4 :: x5 :: x6 :: x7 :: x8 :: x9 :: x10 :: x11 :: some s :: δ) 12 k = k s := propext ⟨fun ⟨_, h, q⟩ => by cases h; exact q, fun h => ⟨s, rfl, h⟩⟩
@[simp ↓] theorem setK12 {x0 x1 x2 x3 x4 x5 x6 x7 x8 x9 x10 x11 : Option Sl} {y x : Option Sl} {δ : DS} {k : DS → Prop} : setK (x0 :: x1 :: x2 :: x3 :: x4 :: x5 :: x6 :: x7 :: x8 :: x9 :: x10 :: x11 :: y :: δ) 12 x k = k (x0 :: x1 :: x2 :: x3 :: x4 :: x5 :: x6 :: x7 :: x8 :: x9 :: x10 :: x11 :: x :: δ) := rfl
@[simp ↓] theorem pk13 {x0 x1 x2 x3 x4 x5 x6 x7 x8 x9 x10 x11 x12 : Option Sl} {s : Sl} {δ : DS} {k : Sl → Prop} : pk (x0 :: x1 :: x2 :: x3 :: x4 :: x5 :: x6 :: x7 :: x8 :: x9 :: x10 :: x11 :: x12 :: some s :: δ) 13 k = k s := propext ⟨fun ⟨_, h, q⟩ => by cases h; exact q, fun h => ⟨s, rfl, h⟩⟩
@[simp ↓] theorem setK13 {x0 x1 x2 x3 x4 x5 x6 x7 x8 x9 x10 x11 x12 : Option Sl} {y x : Option Sl} {δ : DS} {k : DS → Prop} : setK (x0 :: x1 :: x2 :: x3 :: x4 :: x5 :: x6 :: x7 :: x8 :: x9 :: x10 :: x11 :: x12 :: y :: δ) 13 x k = k (x0 :: x1 :: x2 :: x3 :: x4 :: x5 :: x6 :: x7 :: x8 :: x9 :: x10 :: x11 :: x12 :: x :: δ) := rfl
@[simp ↓] theorem pk14 {x0 x1 x2 x3 x4 x5 x6 x7 x8 x9 x10 x11 x12 x13 : Option Sl} {s : Sl} {δ : DS} {k : Sl → Prop} : pk (x0 :: x1 :: x2 :: x3 :: x4 :: x5 :: x6 :: x7 :: x8 :: x9 :: x10 :: x11 :: x12 :: x13 :: some s :: δ) 14 k = k s := propext ⟨fun ⟨_, h, q⟩ => by cases h; exact q, fun h => ⟨s, rfl, h⟩⟩
@[simp ↓] theorem setK14 {x0 x1 x2 x3 x4 x5 x6 x7 x8 x9 x10 x11 x12 x13 : Option Sl} {y x : Option Sl} {δ : DS} {k : DS → Prop} : setK (x0 :: x1 :: x2 :: x3 :: x4 :: x5 :: x6 :: x7 :: x8 :: x9 :: x10 :: x11 :: x12 :: x13 :: y :: δ) 14 x k = k (x0 :: x1 :: x2 :: x3 :: x4 :: x5 :: x6 :: x7 :: x8 :: x9 :: x10 :: x11 :: x12 :: x13 :: x :: δ) := rfl
@[simp ↓] theorem pk15 {x0 x1 x2 x3 x4 x5 x6 x7 x8 x9 x10 x11 x12 x13 x14 : Option Sl} {s : Sl} {δ : DS} {k : Sl → Prop} : pk (x0 :: x1 :: x2 :: x3 :: x4 :: x5 :: x6 :: x7 :: x8 :: x9 :: x10 :: x11 :: x12 :: x13 :: x14 :: some s :: δ) 15 k = k s := propext ⟨fun ⟨_, h, q⟩ => by cases h; exact q, fun h => ⟨s, rfl, h⟩⟩
@[simp ↓] theorem setK15 {x0 x1 x2 x3 x4 x5 x6 x7 x8 x9 x10 x11 x12 x13 x14 : Option Sl} {y x : Option Sl} {δ : DS} {k : DS → Prop} : setK (x0 :: x1 :: x2 :: x3 :: x4 :: x5 :: x6 :: x7 :: x8 :: x9 :: x10 :: x11 :: x12 :: x13 :: x14 :: y :: δ) 15 x k = k (x0 :: x1 :: x2 :: x3 :: x4 :: x5 :: x6 :: x7 :: x8 :: x9 :: x10 :: x11 :: x12 :: x13 :: x14 :: x :: δ) := rfl
@[simp ↓] theorem pk16 {x0 x1 x2 x3 x4 x5 x6 x7 x8 x9 x10 x11 x12 x13 x14 x15 : Option Sl} {s : Sl} {δ : DS} {k : Sl → Prop} : pk (x0 :: x1 :: x2 :: x3 :: x4 :: x5 :: x6 :: x7 :: x8 :: x9 :: x10 :: x11 :: x12 :: x13 :: x14 :: x15 :: some s :: δ) 16 k = k s := propext ⟨fun ⟨_, h, q⟩ => by cases h; exact q, fun h => ⟨s, rfl, h⟩⟩
@[simp ↓] theorem setK16 {x0 x1 x2 x3 x4 x5 x6 x7 x8 x9 x10 x11 x12 x13 x14 x15 : Option Sl} {y x : Option Sl} {δ : DS} {k : DS → Prop} : setK (x0 :: x1 :: x2 :: x3 :: x4 :: x5 :: x6 :: x7 :: x8 :: x9 :: x10 :: x11 :: x12 :: x13 :: x14 :: x15 :: y :: δ) 16 x k = k (x0 :: x1 :: x2 :: x3 :: x4 :: x5 :: x6 :: x7 :: x8 :: x9 :: x10 :: x11 :: x12 :: x13 :: x14 :: x15 :: x :: δ) := rfl
@[simp ↓] theorem pk17 {x0 x1 x2 x3 x4 x5 x6 x7 x8 x9 x10 x11 x12 x13 x14 x15 x16 : Option Sl} {s : Sl} {δ : DS} {k : Sl → Prop} : pk (x0 :: x1 :: x2 :: x3 :: x4 :: x5 :: x6 :: x7 :: x8 :: x9 :: x10 :: x11 :: x12 :: x13 :: x14 :: x15 :: x16 :: some s :: δ) 17 k = k s := propext ⟨fun ⟨_, h, q⟩ => by cases h; exact q, fun h => ⟨s, rfl, h⟩⟩
@[simp ↓] theorem setK17 {x0 x1 x2 x3 x4 x5 x6 x7 x8 x9 x10 x11 x12 x13 x14 x15 x16 : Option Sl} {y x : Option Sl} {δ : DS} {k : DS → Prop} : setK (x0 :: x1 :: x2 :: x3 :: x4 :: x5 :: x6 :: x7 :: x8 :: x9 :: x10 :: x11 :: x12 :: x13 :: x14 :: x15 :: x16 :: y :: δ) 17 x k = k (x0 :: x1 :: x2 :: x3 :: x4 :: x5 :: x6 :: x7 :: x8 :: x9 :: x10 :: x11 :: x12 :: x13 :: x14 :: x15 :: x16 :: x :: δ) := rfl
@[simp ↓] theorem pk18 {x0 x1 x2 x3 x4 x5 x6 x7 x8 x9 x10 x11 x12 x13 x14 x15 x16 x17 : Option Sl} {s : Sl} {δ : DS} {k : Sl → Prop} : pk (x0 :: x1 :: x2 :: x3 :: x4 :: x5 :: x6 :: x7 :: x8 :: x9 :: x10 :: x11 :: x12 :: x13 :: x14 :: x15 :: x16 :: x17 :: some s :: δ) 18 k = k s := propext ⟨fun ⟨_, h, q⟩ => by cases h; exact q, fun h => ⟨s, rfl, h⟩⟩
@[simp ↓] theorem setK18 {x0 x1 x2 x3 x4 x5 x6 x7 x8 x9 x10 x11 x12 x13 x14 x15 x16 x17 : Option Sl} {y x : Option Sl} {δ : DS} {k : DS → Prop} : setK (x0 :: x1 :: x2 :: x3 :: x4 :: x5 :: x6 :: x7 :: x8 :: x9 :: x10 :: x11 :: x12 :: x13 :: x14 :: x15 :: x16 :: x17 :: y :: δ) 18 x k = k (x0 :: x1 :: x2 :: x3 :: x4 :: x5 :: x6 :: x7 :: x8 :: x9 :: x10 :: x11 :: x12 :: x13 :: x14 :: x15 :: x16 :: x17 :: x :: δ) := rfl
@[simp ↓] theorem pk19 {x0 x1 x2 x3 x4 x5 x6 x7 x8 x9 x10 x11 x12 x13 x14 x15 x16 x17 x18 : Option Sl} {s : Sl} {δ : DS} {k : Sl → Prop} : pk (x0 :: x1 :: x2 :: x3 :: x4 :: x5 :: x6 :: x7 :: x8 :: x9 :: x10 :: x11 :: x12 :: x13 :: x14 :: x15 :: x16 :: x17 :: x18 :: some s :: δ) 19 k = k s := propext ⟨fun ⟨_, h, q⟩ => by cases h; exact q, fun h => ⟨s, rfl, h⟩⟩
@[simp ↓] theorem setK19 {x0 x1 x2 x3 x4 x5 x6 x7 x8 x9 x10 x11 x12 x13 x14 x15 x16 x17 x18 : Option Sl} {y x : Option Sl} {δ : DS} {k : DS → Prop} : setK (x0 :: x1 :: x2 :: x3 :: x4 :: x5 :: x6 :: x7 :: x8 :: x9 :: x10 :: x11 :: x12 :: x13 :: x14 :: x15 :: x16 :: x17 :: x18 :: y :: δ) 19 x k = k (x0 :: x1 :: x2 :: x3 :: x4 :: x5 :: x6 :: x7 :: x8 :: x9 :: x10 :: x11 :: x12 :: x13 :: x14 :: x15 :: x16 :: x17 :: x18 :: x :: δ) := rfl
@[simp ↓] theorem pk20 {x0 x1 x2 x3 x4 x5 x6 x7 x8 x9 x10 x11 x12 x13 x14 x15 x16 x17 x18 x19 : Option Sl} {s : Sl} {δ : DS} {k : Sl → Prop} : pk (x0 :: x1 :: x2 :: x3 :: x4 :: x5 :: x6 :: x7 :: x8 :: x9 :: x10 :: x11 :: x12 :: x13 :: x14 :: x15 :: x16 :: x17 :: x18 :: x19 :: some s :: δ) 20 k = k s := propext ⟨fun ⟨_, h, q⟩ => by cases h; exact q, fun h => ⟨s, rfl, h⟩⟩
@[simp ↓] theorem setK20 {x0 x1 x2 x3 x4 x5 x6 x7 x8 x9 x10 x11 x12 x13 x14 x15 x16 x17 x18 x19 : Option Sl} {y x : Option Sl} {δ : DS} {k : DS → Prop} : setK (x0 :: x1 :: x2 :: x3 :: x4 :: x5 :: x6 :: x7 :: x8 :: x9 :: x10 :: x11 :: x12 :: x13 :: x14 :: x15 :: x16 :: x17 :: x18 :: x19 :: y :: δ) 20 x k = k (x0 :: x1 :: x2 :: x3 :: x4 :: x5 :: x6 :: x7 :: x8 :: x9 :: x10 :: x11 :: x12 :: x13 :: x14 :: x15 :: x16 :: x17 :: x18 :: x19 :: x :: δ) := rfl
@[simp ↓] theorem pk21 {x0 x1 x2 x3 x4 x5 x6 x7 x8 x9 x10 x11 x12 x13 x14 x15 x16 x17 x18 x19 x20 : Option Sl} {s : Sl} {δ : DS} {k : Sl → Prop} : pk (x0 :: x1 :: x2 :: x3 :: x4 :: x5 :: x6 :: x7 :: x8 :: x9 :: x10 :: x11 :: x12 :: x13 :: x14 :: x15 :: x16 :: x17 :: x18 :: x19 :: x20 :: some s :: δ) 21 k = k s := propext ⟨fun ⟨_, h, q⟩ => by cases h; exact q, fun h => ⟨s, rfl, h⟩⟩
@[simp ↓] theorem setK21 {x0 x1 x2 x3 x4 x5 x6 x7 x8 x9 x10 x11 x12 x13 x14 x15 x16 x17 x18 x19 x20 : Option Sl} {y x : Option Sl} {δ : DS} {k : DS → Prop} : setK (x0 :: x1 :: x2 :: x3 :: x4 :: x5 :: x6 :: x7 :: x8 :: x9 :: x10 :: x11 :: x12 :: x13 :: x14 :: x15 :: x16 :: x17 :: x18 :: x19 :: x20 :: y :: δ) 21 x k = k (x0 :: x1 :: x2 :: x3 :: x4 :: x5 :: x6 :: x7 :: x8 :: x9 :: x10 :: x11 :: x12 :: x13 :: x14 :: x15 :: x16 :: x17 :: x18 :: x19 :: x20 :: x :: δ) := rfl
@[simp ↓] theorem pk22 {x0 x1 x2 x3 x4 x5 x6 x7 x8 x9 x10 x11 x12 x13 x14 x15 x16 x17 x18 x19 x20 x21 : Option Sl} {s : Sl} {δ : DS} {k : Sl → Prop} : pk (x0 :: x1 :: x2 :: x3 :: x4 :: x5 :: x6 :: x7 :: x8 :: x9 :: x10 :: x11 :: x12 :: x13 :: x14 :: x15 :: x16 :: x17 :: x18 :: x19 :: x20 :: x21 :: some s :: δ) 22 k = k s := propext ⟨fun ⟨_, h, q⟩ => by cases h; exact q, fun h => ⟨s, rfl, h⟩⟩
@[simp ↓] theorem setK22 {x0 x1 x2 x3 x4 x5 x6 x7 x8 x9 x10 x11 x12 x13 x14 x15 x16 x17 x18 x19 x20 x21 : Option Sl} {y x : Option Sl} {δ : DS} {k : DS → Prop} : setK (x0 :: x1 :: x2 :: x3 :: x4 :: x5 :: x6 :: x7 :: x8 :: x9 :: x10 :: x11 :: x12 :: x13 :: x14 :: x15 :: x16 :: x17 :: x18 :: x19 :: x20 :: x21 :: y :: δ) 22 x k = k (x0 :: x1 :: x2 :: x3 :: x4 :: x5 :: x6 :: x7 :: x8 :: x9 :: x10 :: x11 :: x12 :: x13 :: x14 :: x15 :: x16 :: x17 :: x18 :: x19 :: x20 :: x21 :: x :: δ) := rfl
@[simp ↓] theorem pk23 {x0 x1 x2 x3 x4 x5 x6 x7 x8 x9 x10 x11 x12 x13 x14 x15 x16 x17 x18 x19 x20 x21 x22 : Option Sl} {s : Sl} {δ : DS} {k : Sl → Prop} : pk (x0 :: x1 :: x2 :: x3 :: x4 :: x5 :: x6 :: x7 :: x8 :: x9 :: x10 :: x11 :: x12 :: x13 :: x14 :: x15 :: x16 :: x17 :: x18 :: x19 :: x20 :: x21 :: x22 :: some s :: δ) 23 k = k s := propext ⟨fun ⟨_, h, q⟩ => by cases h; exact q, fun h => ⟨s, rfl, h⟩⟩
@[simp ↓] theorem setK23 {x0 x1 x2 x3 x4 x5 x6 x7 x8 x9 x10 x11 x12 x13 x14 x15 x16 x17 x18 x19 x20 x21 x22 : Option Sl} {y x : Option Sl} {δ : DS} {k : DS → Prop} : setK (x0 :: x1 :: x2 :: x3 :: x4 :: x5 :: x6 :: x7 :: x8 :: x9 :: x10 :: x11 :: x12 :: x13 :: x14 :: x15 :: x16 :: x17 :: x18 :: x19 :: x20 :: x21 :: x22 :: y :: δ) 23 x k = k (x0 :: x1 :: x2 :: x3 :: x4 :: x5 :: x6 :: x7 :: x8 :: x9 :: x10 :: x11 :: x12 :: x13 :: x14 :: x15 :: x16 :: x17 :: x18 :: x19 :: x20 :: x21 :: x22 :: x :: δ) := rfl
@[simp ↓] theorem frKo0 {xs : List D} {δ : DS} {k : DS → Prop} : frK (some (.own xs) :: δ) 0 k = k (some (.d (.lst xs)) :: δ) := rfl
@[simp ↓] theorem frKd0 {x : D} {δ : DS} {k : DS → Prop} : frK (some (.d x) :: δ) 0 k = k (some (.d x) :: δ) := rfl
@[simp ↓] theorem frKn0 {δ : DS} {k : DS → Prop} : frK (none :: δ) 0 k = k (none :: δ) := rfl
@[simp ↓] theorem shKo0 {xs : List D} {δ : DS} {M : MH} {k : DS → MH → Prop} : shK (some (.own xs) :: δ) M 0 k = ∀ a, M a = none → k (some (.d (.ref a)) :: δ) (mu M a (.lst xs)) := rfl
@[simp ↓] theorem shKd0 {x : D} {δ : DS} {M : MH} {k : DS → MH → Prop} : shK (some (.d x) :: δ) M 0 k = k (some (.d x) :: δ) M := rfl
@[simp ↓] theorem frKo1 {x0 : Option Sl} {xs : List D} {δ : DS} {k : DS → Prop} : frK (x0 :: some (.own xs) :: δ) 1 k = k (x0 :: some (.d (.lst xs)) :: δ) := rfl
@[simp ↓] theorem frKd1 {x0 : Option Sl} {x : D} {δ : DS} {k : DS → Prop} : frK (x0 :: some (.d x) :: δ) 1 k = k (x0 :: some (.d x) :: δ) := rfl
@[simp ↓] theorem frKn1 {x0 : Option Sl} {δ : DS} {k : DS → Prop} : frK (x0 :: none :: δ) 1 k = k (x0 :: none :: δ) := rfl
@[simp ↓] theorem shKo1 {x0 : Option Sl} {xs : List D} {δ : DS} {M : MH} {k : DS → MH → Prop} : shK (x0 :: some (.own xs) :: δ) M 1 k = ∀ a, M a = none → k (x0 :: some (.d (.ref a)) :: δ) (mu M a (.lst xs)) := rfl
@[simp ↓] theorem shKd1 {x0 : Option Sl} {x : D} {δ : DS} {M : MH} {k : DS → MH → Prop} : shK (x0 :: some (.d x) :: δ) M 1 k = k (x0 :: some (.d x) :: δ) M := rfl
@[simp ↓] theorem frKo2 {x0 x1 : Option Sl} {xs : List D} {δ : DS} {k : DS → Prop} : frK (x0 :: x1 :: some (.own xs) :: δ) 2 k = k (x0 :: x1 :: some (.d (.lst xs)) :: δ) := rfl
@[simp ↓] theorem frKd2 {x0 x1 : Option Sl} {x : D} {δ : DS} {k : DS → Prop} : frK (x0 :: x1 :: some (.d x) :: δ) 2 k = k (x0 :: x1 :: some (.d x) :: δ) := rfl
@[simp ↓] theorem frKn2 {x0 x1 : Option Sl} {δ : DS} {k : DS → Prop} : frK (x0 :: x1 :: none :: δ) 2 k = k (x0 :: x1 :: none :: δ) := rfl
@[simp ↓] theorem shKo2 {x0 x1 : Option Sl} {xs : List D} {δ : DS} {M : MH} {k : DS → MH → Prop} : shK (x0 :: x1 :: some (.own xs) :: δ) M 2 k = ∀ a, M a = none → k (x0 :: x1 :: some (.d (.ref a)) :: δ) (mu M a (.lst xs)) := rfl
@[simp ↓] theorem shKd2 {x0 x1 : Option Sl} {x : D} {δ : DS} {M : MH} {k : DS → MH → Prop} : shK (x0 :: x1 :: some (.d x) :: δ) M 2 k = k (x0 :: x1 :: some (.d x) :: δ) M := rfl
@[simp ↓] theorem frKo3 {x0 x1 x2 : Option Sl} {xs : List D} {δ : DS} {k : DS → Prop} : frK (x0 :: x1 :: x2 :: some (.own xs) :: δ) 3 k = k (x0 :: x1 :: x2 :: some (.d (.lst xs)) :: δ) := rfl
@[simp ↓] theorem frKd3 {x0 x1 x2 : Option Sl} {x : D} {δ : DS} {k : DS → Prop} : frK (x0 :: x1 :: x2 :: some (.d x) :: δ) 3 k = k (x0 :: x1 :: x2 :: some (.d x) :: δ) := rfl
@[simp ↓] theorem frKn3 {x0 x1 x2 : Option Sl} {δ : DS} {k : DS → Prop} : frK (x0 :: x1 :: x2 :: none :: δ) 3 k = k (x0 :: x1 :: x2 :: none :: δ) := rfl
@[simp ↓] theorem shKo3 {x0 x1 x2 : Option Sl} {xs : List D} {δ : DS} {M : MH} {k : DS → MH → Prop} : shK (x0 :: x1 :: x2 :: some (.own xs) :: δ) M 3 k = ∀ a, M a = none → k (x0 :: x1 :: x2 :: some (.d (.ref a)) :: δ) (mu M a (.lst xs)) := rfl
@[simp ↓] theorem shKd3 {x0 x1 x2 : Option Sl} {x : D} {δ : DS} {M : MH} {k : DS → MH → Prop} : shK (x0 :: x1 :: x2 :: some (.d x) :: δ) M 3 k = k (x0 :: x1 :: x2 :: some (.d x) :: δ) M := rfl
@[simp ↓] theorem frKo4 {x0 x1 x2 x3 : Option Sl} {xs : List D} {δ : DS} {k : DS → Prop} : frK (x0 :: x1 :: x2 :: x3 :: some (.own xs) :: δ) 4 k = k (x0 :: x1 :: x2 :: x3 :: some (.d (.lst xs)) :: δ) := rfl
@[simp ↓] theorem frKd4 {x0 x1 x2 x3 : Option Sl} {x : D} {δ : DS} {k : DS → Prop} : frK (x0 :: x1 :: x2 :: x3 :: some (.d x) :: δ) 4 k = k (x0 :: x1 :: x2 :: x3 :: some (.d x) :: δ) := rfl
@[simp ↓] theorem frKn4 {x0 x1 x2 x3 : Option Sl} {δ : DS} {k : DS → Prop} : frK (x0 :: x1 :: x2 :: x3 :: none :: δ) 4 k = k (x0 :: x1 :: x2 :: x3 :: none :: δ) := rfl
@[simp ↓] theorem shKo4 {x0 x1 x2 x3 : Option Sl} {xs : List D} {δ : DS} {M : MH} {k : DS → MH → Prop} : shK (x0 :: x1 :: x2 :: x3 :: some (.own xs) :: δ) M 4 k = ∀ a, M a = none → k (x0 :: x1 :: x2 :: x3 :: some (.d (.ref a)) :: δ) (mu M a (.lst xs)) := rfl
@[simp ↓] theorem shKd4 {x0 x1 x2 x3 : Option Sl} {x : D} {δ : DS} {M : MH} {k : DS → MH → Prop} : shK (x0 :: x1 :: x2 :: x3 :: some (.d x) :: δ) M 4 k = k (x0 :: x1 :: x2 :: x3 :: some (.d x) :: δ) M := rfl
@[simp ↓] theorem frKo5 {x0 x1 x2 x3 x4 : Option Sl} {xs : List D} {δ : DS} {k : DS → Prop} : frK (x0 :: x1 :: x2 :: x3 :: x4 :: some (.own xs) :: δ) 5 k = k (x0 :: x1 :: x2 :: x3 :: x4 :: some (.d (.lst xs)) :: δ) := rfl
@[simp ↓] theorem frKd5 {x0 x1 x2 x3 x4 : Option Sl} {x : D} {δ : DS} {k : DS → Prop} : frK (x0 :: x1 :: x2 :: x3 :: x4 :: some (.d x) :: δ) 5 k = k (x0 :: x1 :: x2 :: x3 :: x4 :: some (.d x) :: δ) := rfl
@[simp ↓] theorem frKn5 {x0 x1 x2 x3 x4 : Option Sl} {δ : DS} {k : DS → Prop} : frK (x0 :: x1 :: x2 :: x3 :: x4 :: none :: δ) 5 k = k (x0 :: x1 :: x2 :: x3 :: x4 :: none :: δ) := rfl
@[simp ↓] theorem shKo5 {x0 x1 x2 x3 x4 : Option Sl} {xs : List D} {δ : DS} {M : MH} {k : DS → MH → Prop} : shK (x0 :: x1 :: x2 :: x3 :: x4 :: some (.own xs) :: δ) M 5 k = ∀ a, M a = none → k (x0 :: x1 :: x2 :: x3 :: x4 :: some (.d (.ref a)) :: δ) (mu M a (.lst xs)) := rfl
@[simp ↓] theorem shKd5 {x0 x1 x2 x3 x4 : Option Sl} {x : D} {δ : DS} {M : MH} {k : DS → MH → Prop} : shK (x0 :: x1 :: x2 :: x3 :: x4 :: some (.d x) :: δ) M 5 k = k (x0 :: x1 :: x2 :: x3 :: x4 :: some (.d x) :: δ) M := rfl
@[simp ↓] theorem frKo6 {x0 x1 x2 x3 x4 x5 : Option Sl} {xs : List D} {δ : DS} {k : DS → Prop} : frK (x0 :: x1 :: x2 :: x3 :: x4 :: x5 :: some (.own xs) :: δ) 6 k = k (x0 :: x1 :: x2 :: x3 :: x4 :: x5 :: some (.d (.lst xs)) :: δ) := rfl
@[simp ↓] theorem frKd6 {x0 x1 x2 x3 x4 x5 : Option Sl} {x : D} {δ : DS} {k : DS → Prop} : frK (x0 :: x1 :: x2 :: x3 :: x4 :: x5 :: some (.d x) :: δ) 6 k = k (x0 :: x1 :: x2 :: x3 :: x4 :: x5 :: some (.d x) :: δ) := rfl
@[simp ↓] theorem frKn6 {x0 x1 x2 x3 x4 x5 : Option Sl} {δ : DS} {k : DS → Prop} : frK (x0 :: x1 :: x2 :: x3 :: x4 :: x5 :: none :: δ) 6 k = k (x0 :: x1 :: x2 :: x3 :: x4 :: x5 :: none :: δ) := rfl
@[simp ↓] theorem shKo6 {x0 x1 x2 x3 x4 x5 : Option Sl} {xs : List D} {δ : DS} {M : MH} {k : DS → MH → Prop} : shK (x0 :: x1 :: x2 :: x3 :: x4 :: x5 :: some (.own xs) :: δ) M 6 k = ∀ a, M a = none → k (x0 :: x1 :: x2 :: x3 :: x4 :: x5 :: some (.d (.ref a)) :: δ) (mu M a (.lst xs)) := rfl
@[simp ↓] theorem shKd6 {x0 x1 x2 x3 x4 x5 : Option Sl} {x : D} {δ : DS} {M : MH} {k : DS → MH → Prop} : shK (x0 :: x1 :: x2 :: x3 :: x4 :: x5 :: some (.d x) :: δ) M 6 k = k (x0 :: x1 :: x2 :: x3 :: x4 :: x5 :: some (.d x) :: δ) M := rfl
@[simp ↓] theorem frKo7 {x0 x1 x2 x3 x4 x5 x6 : Option Sl} {xs : List D} {δ : DS} {k : DS → Prop} : frK (x0 :: x1 :: x2 :: x3 :: x4 :: x5 :: x6 :: some (.own xs) :: δ) 7 k = k (x0 :: x1 :: x2 :: x3 :: x4 :: x5 :: x6 :: some (.d (.lst xs)) :: δ) := rfl
@[simp ↓] theorem frKd7 {x0 x1 x2 x3 x4 x5 x6 : Option Sl} {x : D} {δ : DS} {k : DS → Prop} : frK (x0 :: x1 :: x2 :: x3 :: x4 :: x5 :: x6 :: some (.d x) :: δ) 7 k = k (x0 :: x1 :: x2 :: x3 :: x4 :: x5 :: x6 :: some (.d x) :: δ) := rfl
@[simp ↓] theorem frKn7 {x0 x1 x2 x3 x4 x5 x6 : Option Sl} {δ : DS} {k : DS → Prop} : frK (x0 :: x1 :: x2 :: x3 :: x4 :: x5 :: x6 :: none :: δ) 7 k = k (x0 :: x1 :: x2 :: x3 :: x4 :: x5 :: x6 :: none :: δ) := rfl
@[simp ↓] theorem shKo7 {x0 x1 x2 x3 x4 x5 x6 : Option Sl} {xs : List D} {δ : DS} {M : MH} {k : DS → MH → Prop} : shK (x0 :: x1 :: x2 :: x3 :: x4 :: x5 :: x6 :: some (.own xs) :: δ) M 7 k = ∀ a, M a = none → k (x0 :: x1 :: x2 :: x3 :: x4 :: x5 :: x6 :: some (.d (.ref a)) :: δ) (mu M a (.lst xs)) := rfl
@[simp ↓] theorem shKd7 {x0 x1 x2 x3 x4 x5 x6 : Option Sl} {x : D} {δ : DS} {M : MH} {k : DS → MH → Prop} : shK (x0 :: x1 :: x2 :: x3 :: x4 :: x5 :: x6 :: some (.d x) :: δ) M 7 k = k (x0 :: x1 :: x2 :: x3 :: x4 :: x5 :: x6 :: some (.d x) :: δ) M := rfl
@[simp ↓] theorem frKo8 {x0 x1 x2 x3 x4 x5 x6 x7 : Option Sl} {xs : List D} {δ : DS} {k : DS → Prop} : frK (x0 :: x1 :: x2 :: x3 :: x4 :: x5 :: x6 :: x7 :: some (.own xs) :: δ) 8 k = k (x0 :: x1 :: x2 :: x3 :: x4 :: x5 :: x6 :: x7 :: some (.d (.lst xs)) :: δ) := rfl
@[simp ↓] theorem frKd8 {x0 x1 x2 x3 x4 x5 x6 x7 : Option Sl} {x : D} {δ : DS} {k : DS → Prop} : frK (x0 :: x1 :: x2 :: x3 :: x4 :: x5 :: x6 :: x7 :: some (.d x) :: δ) 8 k = k (x0 :: x1 :: x2 :: x3 :: x4 :: x5 :: x6 :: x7 :: some (.d x) :: δ) := rfl
@[simp ↓] theorem frKn8 {x0 x1 x2 x3 x4 x5 x6 x7 : Option Sl} {δ : DS} {k : DS → Prop} : frK (x0 :: x1 :: x2 :: x3 :: x4 :: x5 :: x6 :: x7 :: none :: δ) 8 k = k (x0 :: x1 :: x2 :: x3 :: x4 :: x5 :: x6 :: x7 :: none :: δ) := rfl
@[simp ↓] theorem shKo8 {x0 x1 x2 x3 x4 x5 x6 x7 : Option Sl} {xs : List D} {δ : DS} {M : MH} {k : DS → MH → Prop} : shK (x0 :: x1 :: x2 :: x3 :: x4 :: x5 :: x6 :: x7 :: some (.own xs) :: δ) M 8 k = ∀ a, M a = none → k (x0 :: x1 :: x2 :: x3 :: x4 :: x5 :: x6 :: x7 :: some (.d (.ref a)) :: δ) (mu M a (.lst xs)) := rfl
@[simp ↓] theorem shKd8 {x0 x1 x2 x3 x4 x5 x6 x7 : Option Sl} {x : D} {δ : DS} {M : MH} {k : DS → MH → Prop} : shK (x0 :: x1 :: x2 :: x3 :: x4 :: x5 :: x6 :: x7 :: some (.d x) :: δ) M 8 k = k (x0 :: x1 :: x2 :: x3 :: x4 :: x5 :: x6 :: x7 :: some (.d x) :: δ) M := rfl
@[simp ↓] theorem frKo9 {x0 x1 x2 x3 x4 x5 x6 x7 x8 : Option Sl} {xs : List D} {δ : DS} {k : DS → Prop} : frK (x0 :: x1 :: x2 :: x3 :: x4 :: x5 :: x6 :: x7 :: x8 :: some (.own xs) :: δ) 9 k = k (x0 :: x1 :: x2 :: x3 :: x4 :: x5 :: x6 :: x7 :: x8 :: some (.d (.lst xs)) :: δ) := rfl
@[simp ↓] theorem frKd9 {x0 x1 x2 x3 x4 x5 x6 x7 x8 : Option Sl} {x : D} {δ : DS} {k : DS → Prop} : frK (x0 :: x1 :: x2 :: x3 :: x4 :: x5 :: x6 :: x7 :: x8 :: some (.d x) :: δ) 9 k = k (x0 :: x1 :: x2 :: x3 :: x4 :: x5 :: x6 :: x7 :: x8 :: some (.d x) :: δ) := rfl
@[simp ↓] theorem frKn9 {x0 x1 x2 x3 x4 x5 x6 x7 x8 : Option Sl} {δ : DS} {k : DS → Prop} : frK (x0 :: x1 :: x2 :: x3 :: x4 :: x5 :: x6 :: x7 :: x8 :: none :: δ) 9 k = k (x0 :: x1 :: x2 :: x3 :: x4 :: x5 :: x6 :: x7 :: x8 :: none :: δ) := rfl
@[simp ↓] theorem shKo9 {x0 x1 x2 x3 x4 x5 x6 x7 x8 : Option Sl} {xs : List D} {δ : DS} {M : MH} {k : DS → MH → Prop} : shK (x0 :: x1 :: x2 :: x3 :: x4 :: x5 :: x6 :: x7 :: x8 :: some (.own xs) :: δ) M 9 k = ∀ a, M a = none → k (x0 :: x1 :: x2 :: x3 :: x4 :: x5 :: x6 :: x7 :: x8 :: some (.d (.ref a)) :: δ) (mu M a (.lst xs)) := rfl
@[simp ↓] theorem shKd9 {x0 x1 x2 x3 x4 x5 x6 x7 x8 : Option Sl} {x : D} {δ : DS} {M : MH} {k : DS → MH → Prop} : shK (x0 :: x1 :: x2 :: x3 :: x4 :: x5 :: x6 :: x7 :: x8 :: some (.d x) :: δ) M 9 k = k (x0 :: x1 :: x2 :: x3 :: x4 :: x5 :: x6 :: x7 :: x8 :: some (.d x) :: δ) M := rfl
@[simp ↓] theorem frKo10 {x0 x1 x2 x3 x4 x5 x6 x7 x8 x9 : Option Sl} {xs : List D} {δ : DS} {k : DS → Prop} : frK (x0 :: x1 :: x2 :: x3 :: x4 :: x5 :: x6 :: x7 :: x8 :: x9 :: some (.own xs) :: δ) 10 k = k (x0 :: x1 :: x2 :: x3 :: x4 :: x5 :: x6 :: x7 :: x8 :: x9 :: some (.d (.lst xs)) :: δ) := rfl
@[simp ↓] theorem frKd10 {x0 x1 x2 x3 x4 x5 x6 x7 x8 x9 : Option Sl} {x : D} {δ : DS} {k : DS → Prop} : frK (x0 :: x1 :: x2 :: x3 :: x4 :: x5 :: x6 :: x7 :: x8 :: x9 :: some (.d x) :: δ) 10 k = k (x0 :: x1 :: x2 :: x3 :: x4 :: x5 :: x6 :: x7 :: x8 :: x9 :: some (.d x) :: δ) := rfl
@[simp ↓] theorem frKn10 {x0 x1 x2 x3 x4 x5 x6 x7 x8 x9 : Option Sl} {δ : DS} {k : DS → Prop} : frK (x0 :: x1 :: x2 :: x3 :: x4 :: x5 :: x6 :: x7 :: x8 :: x9 :: none :: δ) 10 k = k (x0 :: x1 :: x2 :: x3 :: x4 :: x5 :: x6 :: x7 :: x8 :: x9 :: none :: δ) := rfl
@[simp ↓] theorem shKo10 {x0 x1 x2 x3 x4 x5 x6 x7 x8 x9 : Option Sl} {xs : List D} {δ : DS} {M : MH} {k : DS → MH → Prop} : shK (x0 :: x1 :: x2 :: x3 :: x4 :: x5 :: x6 :: x7 :: x8 :: x9 :: some (.own xs) :: δ) M 10 k = ∀ a, M a = none → k (x0 :: x1 :: x2 :: x3 :: x4 :: x5 :: x6 :: x7 :: x8 :: x9 :: some (.d (.ref a)) :: δ) (mu M a (.lst xs)) := rfl
@[simp ↓] theorem shKd10 {x0 x1 x2 x3 x4 x5 x6 x7 x8 x9 : Option Sl} {x : D} {δ : DS} {M : MH} {k : DS → MH → Prop} : shK (x0 :: x1 :: x2 :: x3 :: x4 :: x5 :: x6 :: x7 :: x8 :: x9 :: some (.d x) :: δ) M 10 k = k (x0 :: x1 :: x2 :: x3 :: x4 :: x5 :: x6 :: x7 :: x8 :: x9 :: some (.d x) :: δ) M := rfl
@[simp ↓] theorem frKo11 {x0 x1 x2 x3 x4 x5 x6 x7 x8 x9 x10 : Option Sl} {xs : List D} {δ : DS} {k : DS → Prop} : frK (x0 :: x1 :: x2 :: x3 :: x4 :: x5 :: x6 :: x7 :: x8 :: x9 :: x10 :: some (.own xs) :: δ) 11 k = k (x0 :: x1 :: x2 :: x3 :: x4 :: x5 :: x6 :: x7 :: x8 :: x9 :: x10 :: some (.d (.lst xs)) :: δ) := rfl
@[simp ↓] theorem frKd11 {x0 x1 x2 x3 x4 x5 x6 x7 x8 x9 x10 : Option Sl} {x : D} {δ : DS} {k : DS → Prop} : frK (x0 :: x1 :: x2 :: x3 :: x4 :: x5 :: x6 :: x7 :: x8 :: x9 :: x10 :: some (.d x) :: δ) 11 k = k (x0 :: x1 :: x2 :: x3 :: x4 :: x5 :: x6 :: x7 :: x8 :: x9 :: x10 :: some (.d x) :: δ) := rfl
@[simp ↓] theorem frKn11 {x0 x1 x2 x3 x4 x5 x6 x7 x8 x9 x10 : Option Sl} {δ : DS} {k : DS → Prop} : frK (x0 :: x1 :: x2 :: x3 :: x4 :: x5 :: x6 :: x7 :: x8 :: x9 :: x10 :: none :: δ) 11 k = k (x0 :: x1 :: x2 :: x3 :: x4 :: x5 :: x6 :: x7 :: x8 :: x9 :: x10 :: none :: δ) := rfl
@[simp ↓] theorem shKo11 {x0 x1 x2 x3 x4 x5 x6 x7 x8 x9 x10 : Option Sl} {xs : List D} {δ : DS} {M : MH} {k : DS → MH → Prop} : shK (x0 :: x1 :: x2 :: x3 :: x4 :: x5 :: x6 :: x7 :: x8 :: x9 :: x10 :: some (.own xs) :: δ) M 11 k = ∀ a, M a = none → k (x0 :: x1 :: x2 :: x3 :: x4 :: x5 :: x6 :: x7 :: x8 :: x9 :: x10 :: some (.d (.ref a)) :: δ) (mu M a (.lst xs)) := rfl
@[simp ↓] theorem shKd11 {x0 x1 x2 x3 x4 x5 x6 x7 x8 x9 x10 : Option Sl} {x : D} {δ : DS} {M : MH} {k : DS → MH → Prop} : shK (x0 :: x1 :: x2 :: x3 :: x4 :: x5 :: x6 :: x7 :: x8 :: x9 :: x10 :: some (.d x) :: δ) M 11 k = k (x0 :: x1 :: x2 :: x3 :: x4 :: x5 :: x6 :: x7 :: x8 :: x9 :: x10 :: some (.d x) :: δ) M := rfl
@[simp ↓] theorem frKo12 {x0 x1 x2 x3 x4 x5 x6 x7 x8 x9 x10 x11 : Option Sl} {xs : List D} {δ : DS} {k : DS → Prop} : frK (x0 :: x1 :: x2 :: x3 :: x4 :: x5 :: x6 :: x7 :: x8 :: x9 :: x10 :: x11 :: some (.own xs) :: δ) 12 k = k (x0 :: x1 :: x2 :: x3 :: x4 :: x5 :: x6 :: x7 :: x8 :: x9 :: x10 :: x11 :: some (.d (.lst xs)) :: δ) := rfl
@[simp ↓] theorem frKd12 {x0 x1 x2 x3 x4 x5 x6 x7 x8 x9 x10 x11 : Option Sl} {x : D} {δ : DS} {k : DS → Prop} : frK (x0 :: x1 :: x2 :: x3 :: x4 :: x5 :: x6 :: x7 :: x8 :: x9 :: x10 :: x11 :: some (.d x) :: δ) 12 k = k (x0 :: x1 :: x2 :: x3 :: x4 :: x5 :: x6 :: x7 :: x8 :: x9 :: x10 :: x11 :: some (.d x) :: δ) := rfl
@[simp ↓] theorem frKn12 {x0 x1 x2 x3 x4 x5 x6 x7 x8 x9 x10 x11 : Option Sl} {δ : DS} {k : DS → Prop} : frK (x0 :: x1 :: x2 :: x3 :: x4 :: x5 :: x6 :: x7 :: x8 :: x9 :: x10 :: x11 :: none :: δ) 12 k = k (x0 :: x1 :: x2 :: x3 :: x4 :: x5 :: x6 :: x7 :: x8 :: x9 :: x10 :: x11 :: none :: δ) := rfl
@[simp ↓] theorem shKo12 {x0 x1 x2 x3 x4 x5 x6 x7 x8 x9 x10 x11 : Option Sl} {xs : List D} {δ : DS} {M : MH} {k : DS → MH → Prop} : shK (x0 :: x1 :: x2 :: x3 :: x4 :: x5 :: x6 :: x7 :: x8 :: x9 :: x10 :: x11 :: some (.own xs) :: δ) M 12 k = ∀ a, M a = none → k (x0 :: x1 :: x2 :: x3 :: x4 :: x5 :: x6 :: x7 :: x8 :: x9 :: x10 :: x11 :: some (.d (.ref a)) :: δ) (mu M a (.lst xs)) := rfl
@[simp ↓] theorem shKd12 {x0 x1 x2 x3 x4 x5 x6 x7 x8 x9 x10 x11 : Option Sl} {x : D} {δ : DS} {M : MH} {k : DS → MH → Prop} : shK (x0 :: x1 :: x2 :: x3 :: x4 :: x5 :: x6 :: x7 :: x8 :: x9 :: x10 :: x11 :: some (.d x) :: δ) M 12 k = k (x0 :: x1 :: x2 :: x3 :: x4 :: x5 :: x6 :: x7 :: x8 :: x9 :: x10 :: x11 :: some (.d x) :: δ) M := rfl
@[simp ↓] theorem frKo13 {x0 x1 x2 x3 x4 x5 x6 x7 x8 x9 x10 x11 x12 : Option Sl} {xs : List D} {δ : DS} {k : DS → Prop} : frK (x0 :: x1 :: x2 :: x3 :: x4 :: x5 :: x6 :: x7 :: x8 :: x9 :: x10 :: x11 :: x12 :: some (.own xs) :: δ) 13 k = k (x0 :: x1 :: x2 :: x3 :: x4 :: x5 :: x6 :: x7 :: x8 :: x9 :: x10 :: x11 :: x12 :: some (.d (.lst xs)) :: δ) := rfl
@[simp ↓] theorem frKd13 {x0 x1 x2 x3 x4 x5 x6 x7 x8 x9 x10 x11 x12 : Option Sl} {x : D} {δ : DS} {k : DS → Prop} : frK (x0 :: x1 :: x2 :: x3 :: x4 :: x5 :: x6 :: x7 :: x8 :: x9 :: x10 :: x11 :: x12 :: some (.d x) :: δ) 13 k = k (x0 :: x1 :: x2 :: x3 :: x4 :: x5 :: x6 :: x7 :: x8 :: x9 :: x10 :: x11 :: x12 :: some (.d x) :: δ) := rfl
@[simp ↓] theorem frKn13 {x0 x1 x2 x3 x4 x5 x6 x7 x8 x9 x10 x11 x12 : Option Sl} {δ : DS} {k : DS → Prop} : frK (x0 :: x1 :: x2 :: x3 :: x4 :: x5 :: x6 :: x7 :: x8 :: x9 :: x10 :: x11 :: x12 :: none :: δ) 13 k = k (x0 :: x1 :: x2 :: x3 :: x4 :: x5 :: x6 :: x7 :: x8 :: x9 :: x10 :: x11 :: x12 :: none :: δ) := rfl
@[simp ↓] theorem shKo13 {x0 x1 x2 x3 x4 x5 x6 x7 x8 x9 x10 x11 x12 : Option Sl} {xs : List D} {δ : DS} {M : MH} {k : DS → MH → Prop} : shK (x0 :: x1 :: x2 :: x3 :: x4 :: x5 :: x6 :: x7 :: x8 :: x9 :: x10 :: x11 :: x12 :: some (.own xs) :: δ) M 13 k = ∀ a, M a = none → k (x0 :: x1 :: x2 :: x3 :: x4 :: x5 :: x6 :: x7 :: x8 :: x9 :: x10 :: x11 :: x12 :: some (.d (.ref a)) :: δ) (mu M a (.lst xs)) := rfl
@[simp ↓] theorem shKd13 {x0 x1 x2 x3 x4 x5 x6 x7 x8 x9 x10 x11 x12 : Option Sl} {x : D} {δ : DS} {M : MH} {k : DS → MH → Prop} : shK (x0 :: x1 :: x2 :: x3 :: x4 :: x5 :: x6 :: x7 :: x8 :: x9 :: x10 :: x11 :: x12 :: some (.d x) :: δ) M 13 k = k (x0 :: x1 :: x2 :: x3 :: x4 :: x5 :: x6 :: x7 :: x8 :: x9 :: x10 :: x11 :: x12 :: some (.d x) :: δ) M := rfl
@[simp ↓] theorem frKo14 {x0 x1 x2 x3 x4 x5 x6 x7 x8 x9 x10 x11 x12 x13 : Option Sl} {xs : List D} {δ : DS} {k : DS → Prop} : frK (x0 :: x1 :: x2 :: x3 :: x4 :: x5 :: x6 :: x7 :: x8 :: x9 :: x10 :: x11 :: x12 :: x13 :: some (.own xs) :: δ) 14 k = k (x0 :: x1 :: x2 :: x3 :: x4 :: x5 :: x6 :: x7 :: x8 :: x9 :: x10 :: x11 :: x12 :: x13 :: some (.d (.lst xs)) :: δ) := rfl
@[simp ↓] theorem frKd14 {x0 x1 x2 x3 x4 x5 x6 x7 x8 x9 x10 x11 x12 x13 : Option Sl} {x : D} {δ : DS} {k : DS → Prop} : frK (x0 :: x1 :: x2 :: x3 :: x4 :: x5 :: x6 :: x7 :: x8 :: x9 :: x10 :: x11 :: x12 :: x13 :: some (.d x) :: δ) 14 k = k (x0 :: x1 :: x2 :: x3 :: x4 :: x5 :: x6 :: x7 :: x8 :: x9 :: x10 :: x11 :: x12 :: x13 :: some (.d x) :: δ) := rfl
@[simp ↓] theorem frKn14 {x0 x1 x2 x3 x4 x5 x6 x7 x8 x9 x10 x11 x12 x13 : Option Sl} {δ : DS} {k : DS → Prop} : frK (x0 :: x1 :: x2 :: x3 :: x4 :: x5 :: x6 :: x7 :: x8 :: x9 :: x10 :: x11 :: x12 :: x13 :: none :: δ) 14 k = k (x0 :: x1 :: x2 :: x3 :: x4 :: x5 :: x6 :: x7 :: x8 :: x9 :: x10 :: x11 :: x12 :: x13 :: none :: δ) := rfl
@[simp ↓] theorem shKo14 {x0 x1 x2 x3 x4 x5 x6 x7 x8 x9 x10 x11 x12 x13 : Option Sl} {xs : List D} {δ : DS} {M : MH} {k : DS → MH → Prop} : shK (x0 :: x1 :: x2 :: x3 :: x4 :: x5 :: x6 :: x7 :: x8 :: x9 :: x10 :: x11 :: x12 :: x13 :: some (.own xs) :: δ) M 14 k = ∀ a, M a = none → k (x0 :: x1 :: x2 :: x3 :: x4 :: x5 :: x6 :: x7 :: x8 :: x9 :: x10 :: x11 :: x12 :: x13 :: some (.d (.ref a)) :: δ) (mu M a (.lst xs)) := rfl
@[simp ↓] theorem shKd14 {x0 x1 x2 x3 x4 x5 x6 x7 x8 x9 x10 x11 x12 x13 : Option Sl} {x : D} {δ : DS} {M : MH} {k : DS → MH → Prop} : shK (x0 :: x1 :: x2 :: x3 :: x4 :: x5 :: x6 :: x7 :: x8 :: x9 :: x10 :: x11 :: x12 :: x13 :: some (.d x) :: δ) M 14 k = k (x0 :: x1 :: x2 :: x3 :: x4 :: x5 :: x6 :: x7 :: x8 :: x9 :: x10 :: x11 :: x12 :: x13 :: some (.d x) :: δ) M := rfl
@[simp ↓] theorem frKo15 {x0 x1 x2 x3 x4 x5 x6 x7 x8 x9 x10 x11 x12 x13 x14 : Option Sl} {xs : List D} {δ : DS} {k : DS → Prop} : frK (x0 :: x1 :: x2 :: x3 :: x4 :: x5 :: x6 :: x7 :: x8 :: x9 :: x10 :: x11 :: x12 :: x13 :: x14 :: some (.own xs) :: δ) 15 k = k (x0 :: x1 :: x2 :: x3 :: x4 :: x5 :: x6 :: x7 :: x8 :: x9 :: x10 :: x11 :: x12 :: x13 :: x14 :: some (.d (.lst xs)) :: δ) := rfl
@[simp ↓] theorem frKd15 {x0 x1 x2 x3 x4 x5 x6 x7 x8 x9 x10 x11 x12 x13 x14 : Option Sl} {x : D} {δ : DS} {k : DS → Prop} : frK (x0 :: x1 :: x2 :: x3 :: x4 :: x5 :: x6 :: x7 :: x8 :: x9 :: x10 :: x11 :: x12 :: x13 :: x14 :: some (.d x) :: δ) 15 k = k (x0 :: x1 :: x2 :: x3 :: x4 :: x5 :: x6 :: x7 :: x8 :: x9 :: x10 :: x11 :: x12 :: x13 :: x14 :: some (.d x) :: δ) := rfl
@[simp ↓] theorem frKn15 {x0 x1 x2 x3 x4 x5 x6 x7 x8 x9 x10 x11 x12 x13 x14 : Option Sl} {δ : DS} {k : DS → Prop} : frK (x0 :: x1 :: x2 :: x3 :: x4 :: x5 :: x6 :: x7 :: x8 :: x9 :: x10 :: x11 :: x12 :: x13 :: x14 :: none :: δ) 15 k = k (x0 :: x1 :: x2 :: x3 :: x4 :: x5 :: x6 :: x7 :: x8 :: x9 :: x10 :: x11 :: x12 :: x13 :: x14 :: none :: δ) := rfl
@[simp ↓] theorem shKo15 {x0 x1 x2 x3 x4 x5 x6 x7 x8 x9 x10 x11 x12 x13 x14 : Option Sl} {xs : List D} {δ : DS} {M : MH} {k : DS → MH → Prop} : shK (x0 :: x1 :: x2 :: x3 :: x4 :: x5 :: x6 :: x7 :: x8 :: x9 :: x10 :: x11 :: x12 :: x13 :: x14 :: some (.own xs) :: δ) M 15 k = ∀ a, M a = none → k (x0 :: x1 :: x2 :: x3 :: x4 :: x5 :: x6 :: x7 :: x8 :: x9 :: x10 :: x11 :: x12 :: x13 :: x14 :: some (.d (.ref a)) :: δ) (mu M a (.lst xs)) := rfl
@[simp ↓] theorem shKd15 {x0 x1 x2 x3 x4 x5 x6 x7 x8 x9 x10 x11 x12 x13 x14 : Option Sl} {x : D} {δ : DS} {M : MH} {k : DS → MH → Prop} : shK (x0 :: x1 :: x2 :: x3 :: x4 :: x5 :: x6 :: x7 :: x8 :: x9 :: x10 :: x11 :: x12 :: x13 :: x14 :: some (.d x) :: δ) M 15 k = k (x0 :: x1 :: x2 :: x3 :: x4 :: x5 :: x6 :: x7 :: x8 :: x9 :: x10 :: x11 :: x12 :: x13 :: x14 :: some (.d x) :: δ) M := rfl
@[simp ↓] theorem frKo16 {x0 x1 x2 x3 x4 x5 x6 x7 x8 x9 x10 x11 x12 x13 x14 x15 : Option Sl} {xs : List D} {δ : DS} {k : DS → Prop} : frK (x0 :: x1 :: x2 :: x3 :: x4 :: x5 :: x6 :: x7 :: x8 :: x9 :: x10 :: x11 :: x12 :: x13 :: x14 :: x15 :: some (.own xs) :: δ) 16 k = k (x0 :: x1 :: x2 :: x3 :: x4 :: x5 :: x6 :: x7 :: x8 :: x9 :: x10 :: x11 :: x12 :: x13 :: x14 :: x15 :: some (.d (.lst xs)) :: δ) := rfl
@[simp ↓] theorem frKd16 {x0 x1 x2 x3 x4 x5 x6 x7 x8 x9 x10 x11 x12 x13 x14 x15 : Option Sl} {x : D} {δ : DS} {k : DS → Prop} : frK (x0 :: x1 :: x2 :: x3 :: x4 :: x5 :: x6 :: x7 :: x8 :: x9 :: x10 :: x11 :: x12 :: x13 :: x14 :: x15 :: some (.d x) :: δ) 16 k = k (x0 :: x1 :: x2 :: x3 :: x4 :: x5 :: x6 :: x7 :: x8 :: x9 :: x10 :: x11 :: x12 :: x13 :: x14 :: x15 :: some (.d x) :: δ) := rfl
@[simp ↓] theorem frKn16 {x0 x1 x2 x3 x4 x5 x6 x7 x8 x9 x10 x11 x12 x13 x14 x15 : Option Sl} {δ : DS} {k : DS → Prop} : frK (x0 :: x1 :: x2 :: x3 :: x4 :: x5 :: x6 :: x7 :: x8 :: x9 :: x10 :: x11 :: x12 :: x13 :: x14 :: x15 :: none :: δ) 16 k = k (x0 :: x1 :: x2 :: x3 :: x4 :: x5 :: x6 :: x7 :: x8 :: x9 :: x10 :: x11 :: x12 :: x13 :: x14 :: x15 :: none :: δ) := rfl
@[simp ↓] theorem shKo16 {x0 x1 x2 x3 x4 x5 x6 x7 x8 x9 x10 x11 x12 x13 x14 x15 : Option Sl} {xs : List D} {δ : DS} {M : MH} {k : DS → MH → Prop} : shK (x0 :: x1 :: x2 :: x3 :: x4 :: x5 :: x6 :: x7 :: x8 :: x9 :: x10 :: x11 :: x12 :: x13 :: x14 :: x15 :: some (.own xs) :: δ) M 16 k = ∀ a, M a = none → k (x0 :: x1 :: x2 :: x3 :: x4 :: x5 :: x6 :: x7 :: x8 :: x9 :: x10 :: x11 :: x12 :: x13 :: x14 :: x15 :: some (.d (.ref a)) :: δ) (mu M a (.lst xs)) := rfl
@[simp ↓] theorem shKd16 {x0 x1 x2 x3 x4 x5 x6 x7 x8 x9 x10 x11 x12 x13 x14 x15 : Option Sl} {x : D} {δ : DS} {M : MH} {k : DS → MH → Prop} : shK (x0 :: x1 :: x2 :: x3 :: x4 :: x5 :: x6 :: x7 :: x8 :: x9 :: x10 :: x11 :: x12 :: x13 :: x14 :: x15 :: some (.d x) :: δ) M 16 k = k (x0 :: x1 :: x2 :: x3 :: x4 :: x5 :: x6 :: x7 :: x8 :: x9 :: x10 :: x11 :: x12 :: x13 :: x14 :: x15 :: some (.d x) :: δ) M := rfl
@[simp ↓] theorem frKo17 {x0 x1 x2 x3 x4 x5 x6 x7 x8 x9 x10 x11 x12 x13 x14 x15 x16 : Option Sl} {xs : List D} {δ : DS} {k : DS → Prop} : frK (x0 :: x1 :: x2 :: x3 :: x4 :: x5 :: x6 :: x7 :: x8 :: x9 :: x10 :: x11 :: x12 :: x13 :: x14 :: x15 :: x16 :: some (.own xs) :: δ) 17 k = k (x0 :: x1 :: x2 :: x3 :: x4 :: x5 :: x6 :: x7 :: x8 :: x9 :: x10 :: x11 :: x12 :: x13 :: x14 :: x15 :: x16 :: some (.d (.lst xs)) :: δ) := rfl
@[simp ↓] theorem frKd17 {x0 x1 x2 x3 x4 x5 x6 x7 x8 x9 x10 x11 x12 x13 x14 x15 x16 : Option Sl} {x : D} {δ : DS} {k : DS → Prop} : frK (x0 :: x1 :: x2 :: x3 :: x4 :: x5 :: x6 :: x7 :: x8 :: x9 :: x10 :: x11 :: x12 :: x13 :: x14 :: x15 :: x16 :: some (.d x) :: δ) 17 k = k (x0 :: x1 :: x2 :: x3 :: x4 :: x5 :: x6 :: x7 :: x8 :: x9 :: x10 :: x11 :: x12 :: x13 :: x14 :: x15 :: x16 :: some (.d x) :: δ) := rfl
@[simp ↓] theorem frKn17 {x0 x1 x2 x3 x4 x5 x6 x7 x8 x9 x10 x11 x12 x13 x14 x15 x16 : Option Sl} {δ : DS} {k : DS → Prop} : frK (x0 :: x1 :: x2 :: x3 :: x4 :: x5 :: x6 :: x7 :: x8 :: x9 :: x10 :: x11 :: x12 :: x13 :: x14 :: x15 :: x16 :: none :: δ) 17 k = k (x0 :: x1 :: x2 :: x3 :: x4 :: x5 :: x6 :: x7 :: x8 :: x9 :: x10 :: x11 :: x12 :: x13 :: x14 :: x15 :: x16 :: none :: δ) := rfl
@[simp ↓] theorem shKo17 {x0 x1 x2 x3 x4 x5 x6 x7 x8 x9 x10 x11 x12 x13 x14 x15 x16 : Option Sl} {xs : List D} {δ : DS} {M : MH} {k : DS → MH → Prop} : shK (x0 :: x1 :: x2 :: x3 :: x4 :: x5 :: x6 :: x7 :: x8 :: x9 :: x10 :: x11 :: x12 :: x13 :: x14 :: x15 :: x16 :: some (.own xs) :: δ) M 17 k = ∀ a, M a = none → k (x0 :: x1 :: x2 :: x3 :: x4 :: x5 :: x6 :: x7 :: x8 :: x9 :: x10 :: x11 :: x12 :: x13 :: x14 :: x15 :: x16 :: some (.d (.ref a)) :: δ) (mu M a (.lst xs)) := rfl
@[simp ↓] theorem shKd17 {x0 x1 x2 x3 x4 x5 x6 x7 x8 x9 x10 x11 x12 x13 x14 x15 x16 : Option Sl} {x : D} {δ : DS} {M : MH} {k : DS → MH → Prop} : shK (x0 :: x1 :: x2 :: x3 :: x4 :: x5 :: x6 :: x7 :: x8 :: x9 :: x10 :: x11 :: x12 :: x13 :: x14 :: x15 :: x16 :: some (.d x) :: δ) M 17 k = k (x0 :: x1 :: x2 :: x3 :: x4 :: x5 :: x6 :: x7 :: x8 :: x9 :: x10 :: x11 :: x12 :: x13 :: x14 :: x15 :: x16 :: some (.d x) :: δ) M := rfl
@[simp ↓] theorem frKo18 {x0 x1 x2 x3 x4 x5 x6 x7 x8 x9 x10 x11 x12 x13 x14 x15 x16 x17 : Option Sl} {xs : List D} {δ : DS} {k : DS → Prop} : frK (x0 :: x1 :: x2 :: x3 :: x4 :: x5 :: x6 :: x7 :: x8 :: x9 :: x10 :: x11 :: x12 :: x13 :: x14 :: x15 :: x16 :: x17 :: some (.own xs) :: δ) 18 k = k (x0 :: x1 :: x2 :: x3 :: x4 :: x5 :: x6 :: x7 :: x8 :: x9 :: x10 :: x11 :: x12 :: x13 :: x14 :: x15 :: x16 :: x17 :: some (.d (.lst xs)) :: δ) := rfl
@[simp ↓] theorem frKd18 {x0 x1 x2 x3 x4 x5 x6 x7 x8 x9 x10 x11 x12 x13 x14 x15 x16 x17 : Option Sl} {x : D} {δ : DS} {k : DS → Prop} : frK (x0 :: x1 :: x2 :: x3 :: x4 :: x5 :: x6 :: x7 :: x8 :: x9 :: x10 :: x11 :: x12 :: x13 :: x14 :: x15 :: x16 :: x17 :: some (.d x) :: δ) 18 k = k (x0 :: x1 :: x2 :: x3 :: x4 :: x5 :: x6 :: x7 :: x8 :: x9 :: x10 :: x11 :: x12 :: x13 :: x14 :: x15 :: x16 :: x17 :: some (.d x) :: δ) := rfl
@[simp ↓] theorem frKn18 {x0 x1 x2 x3 x4 x5 x6 x7 x8 x9 x10 x11 x12 x13 x14 x15 x16 x17 : Option Sl} {δ : DS} {k : DS → Prop} : frK (x0 :: x1 :: x2 :: x3 :: x4 :: x5 :: x6 :: x7 :: x8 :: x9 :: x10 :: x11 :: x12 :: x13 :: x14 :: x15 :: x16 :: x17 :: none :: δ) 18 k = k (x0 :: x1 :: x2 :: x3 :: x4 :: x5 :: x6 :: x7 :: x8 :: x9 :: x10 :: x11 :: x12 :: x13 :: x14 :: x15 :: x16 :: x17 :: none :: δ) := rfl
@[simp ↓] theorem shKo18 {x0 x1 x2 x3 x4 x5 x6 x7 x8 x9 x10 x11 x12 x13 x14 x15 x16 x17 : Option Sl} {xs : List D} {δ : DS} {M : MH} {k : DS → MH → Prop} : shK (x0 :: x1 :: x2 :: x3 :: x4 :: x5 :: x6 :: x7 :: x8 :: x9 :: x10 :: x11 :: x12 :: x13 :: x14 :: x15 :: x16 :: x17 :: some (.own xs) :: δ) M 18 k = ∀ a, M a = none → k (x0 :: x1 :: x2 :: x3 :: x4 :: x5 :: x6 :: x7 :: x8 :: x9 :: x10 :: x11 :: x12 :: x13 :: x14 :: x15 :: x16 :: x17 :: some (.d (.ref a)) :: δ) (mu M a (.lst xs)) := rfl
@[simp ↓] theorem shKd18 {x0 x1 x2 x3 x4 x5 x6 x7 x8 x9 x10 x11 x12 x13 x14 x15 x16 x17 : Option Sl} {x : D} {δ : DS} {M : MH} {k : DS → MH → Prop} : shK (x0 :: x1 :: x2 :: x3 :: x4 :: x5 :: x6 :: x7 :: x8 :: x9 :: x10 :: x11 :: x12 :: x13 :: x14 :: x15 :: x16 :: x17 :: some (.d x) :: δ) M 18 k = k (x0 :: x1 :: x2 :: x3 :: x4 :: x5 :: x6 :: x7 :: x8 :: x9 :: x10 :: x11 :: x12 :: x13 :: x14 :: x15 :: x16 :: x17 :: some (.d x) :: δ) M := rfl
@[simp ↓] theorem frKo19 {x0 x1 x2 x3 x4 x5 x6 x7 x8 x9 x10 x11 x12 x13 x14 x15 x16 x17 x18 : Option Sl} {xs : List D} {δ : DS} {k : DS → Prop} : frK (x0 :: x1 :: x2 :: x3 :: x4 :: x5 :: x6 :: x7 :: x8 :: x9 :: x10 :: x11 :: x12 :: x13 :: x14 :: x15 :: x16 :: x17 :: x18 :: some (.own xs) :: δ) 19 k = k (x0 :: x1 :: x2 :: x3 :: x4 :: x5 :: x6 :: x7 :: x8 :: x9 :: x10 :: x11 :: x12 :: x13 :: x14 :: x15 :: x16 :: x17 :: x18 :: some (.d (.lst xs)) :: δ) := rfl
@[simp ↓] theorem frKd19 {x0 x1 x2 x3 x4 x5 x6 x7 x8 x9 x10 x11 x12 x13 x14 x15 x16 x17 x18 : Option Sl} {x : D} {δ : DS} {k : DS → Prop} : frK (x0 :: x1 :: x2 :: x3 :: x4 :: x5 :: x6 :: x7 :: x8 :: x9 :: x10 :: x11 :: x12 :: x13 :: x14 :: x15 :: x16 :: x17 :: x18 :: some (.d x) :: δ) 19 k = k (x0 :: x1 :: x2 :: x3 :: x4 :: x5 :: x6 :: x7 :: x8 :: x9 :: x10 :: x11 :: x12 :: x13 :: x14 :: x15 :: x16 :: x17 :: x18 :: some (.d x) :: δ) := rfl
@[simp ↓] theorem frKn19 {x0 x1 x2 x3 x4 x5 x6 x7 x8 x9 x10 x11 x12 x13 x14 x15 x16 x17 x18 : Option Sl} {δ : DS} {k : DS → Prop} : frK (x0 :: x1 :: x2 :: x3 :: x4 :: x5 :: x6 :: x7 :: x8 :: x9 :: x10 :: x11 :: x12 :: x13 :: x14 :: x15 :: x16 :: x17 :: x18 :: none :: δ) 19 k = k (x0 :: x1 :: x2 :: x3 :: x4 :: x5 :: x6 :: x7 :: x8 :: x9 :: x10 :: x11 :: x12 :: x13 :: x14 :: x15 :: x16 :: x17 :: x18 :: none :: δ) := rfl
@[simp ↓] theorem shKo19 {x0 x1 x2 x3 x4 x5 x6 x7 x8 x9 x10 x11 x12 x13 x14 x15 x16 x17 x18 : Option Sl} {xs : List D} {δ : DS} {M : MH} {k : DS → MH → Prop} : shK (x0 :: x1 :: x2 :: x3 :: x4 :: x5 :: x6 :: x7 :: x8 :: x9 :: x10 :: x11 :: x12 :: x13 :: x14 :: x15 :: x16 :: x17 :: x18 :: some (.own xs) :: δ) M 19 k = ∀ a, M a = none → k (x0 :: x1 :: x2 :: x3 :: x4 :: x5 :: x6 :: x7 :: x8 :: x9 :: x10 :: x11 :: x12 :: x13 :: x14 :: x15 :: x16 :: x17 :: x18 :: some (.d (.ref a)) :: δ) (mu M a (.lst xs)) := rfl
@[simp ↓] theorem shKd19 {x0 x1 x2 x3 x4 x5 x6 x7 x8 x9 x10 x11 x12 x13 x14 x15 x16 x17 x18 : Option Sl} {x : D} {δ : DS} {M : MH} {k : DS → MH → Prop} : shK (x0 :: x1 :: x2 :: x3 :: x4 :: x5 :: x6 :: x7 :: x8 :: x9 :: x10 :: x11 :: x12 :: x13 :: x14 :: x15 :: x16 :: x17 :: x18 :: some (.d x) :: δ) M 19 k = k (x0 :: x1 :: x2 :: x3 :: x4 :: x5 :: x6 :: x7 :: x8 :: x9 :: x10 :: x11 :: x12 :: x13 :: x14 :: x15 :: x16 :: x17 :: x18 :: some (.d x) :: δ) M := rfl
@[simp ↓] theorem frKo20 {x0 x1 x2 x3 x4 x5 x6 x7 x8 x9 x10 x11 x12 x13 x14 x15 x16 x17 x18 x19 : Option Sl} {xs : List D} {δ : DS} {k : DS → Prop} : frK (x0 :: x1 :: x2 :: x3 :: x4 :: x5 :: x6 :: x7 :: x8 :: x9 :: x10 :: x11 :: x12 :: x13 :: x14 :: x15 :: x16 :: x17 :: x18 :: x19 :: some (.own xs) :: δ) 20 k = k (x0 :: x1 :: x2 :: x3 :: x4 :: x5 :: x6 :: x7 :: x8 :: x9 :: x10 :: x11 :: x12 :: x13 :: x14 :: x15 :: x16 :: x17 :: x18 :: x19 :: some (.d (.lst xs)) :: δ) := rfl
@[simp ↓] theorem frKd20 {x0 x1 x2 x3 x4 x5 x6 x7 x8 x9 x10 x11 x12 x13 x14 x15 x16 x17 x18 x19 : Option Sl} {x : D} {δ : DS} {k : DS → Prop} : frK (x0 :: x1 :: x2 :: x3 :: x4 :: x5 :: x6 :: x7 :: x8 :: x9 :: x10 :: x11 :: x12 :: x13 :: x14 :: x15 :: x16 :: x17 :: x18 :: x19 :: some (.d x) :: δ) 20 k = k (x0 :: x1 :: x2 :: x3 :: x4 :: x5 :: x6 :: x7 :: x8 :: x9 :: x10 :: x11 :: x12 :: x13 :: x14 :: x15 :: x16 :: x17 :: x18 :: x19 :: some (.d x) :: δ) := rfl
@[simp ↓] theorem frKn20 {x0 x1 x2 x3 x4 x5 x6 x7 x8 x9 x10 x11 x12 x13 x14 x15 x16 x17 x18 x19 : Option Sl} {δ : DS} {k : DS → Prop} : frK (x0 :: x1 :: x2 :: x3 :: x4 :: x5 :: x6 :: x7 :: x8 :: x9 :: x10 :: x11 :: x12 :: x13 :: x14 :: x15 :: x16 :: x17 :: x18 :: x19 :: none :: δ) 20 k = k (x0 :: x1 :: x2 :: x3 :: x4 :: x5 :: x6 :: x7 :: x8 :: x9 :: x10 :: x11 :: x12 :: x13 :: x14 :: x15 :: x16 :: x17 :: x18 :: x19 :: none :: δ) := rfl
@[simp ↓] theorem shKo20 {x0 x1 x2 x3 x4 x5 x6 x7 x8 x9 x10 x11 x12 x13 x14 x15 x16 x17 x18 x19 : Option Sl} {xs : List D} {δ : DS} {M : MH} {k : DS → MH → Prop} : shK (x0 :: x1 :: x2 :: x3 :: x4 :: x5 :: x6 :: x7 :: x8 :: x9 :: x10 :: x11 :: x12 :: x13 :: x14 :: x15 :: x16 :: x17 :: x18 :: x19 :: some (.own xs) :: δ) M 20 k = ∀ a, M a = none → k (x0 :: x1 :: x2 :: x3 :: x4 :: x5 :: x6 :: x7 :: x8 :: x9 :: x10 :: x11 :: x12 :: x13 :: x14 :: x15 :: x16 :: x17 :: x18 :: x19 :: some (.d (.ref a)) :: δ) (mu M a (.lst xs)) := rfl
@[simp ↓] theorem shKd20 {x0 x1 x2 x3 x4 x5 x6 x7 x8 x9 x10 x11 x12 x13 x14 x15 x16 x17 x18 x19 : Option Sl} {x : D} {δ : DS} {M : MH} {k : DS → MH → Prop} : shK (x0 :: x1 :: x2 :: x3 :: x4 :: x5 :: x6 :: x7 :: x8 :: x9 :: x10 :: x11 :: x12 :: x13 :: x14 :: x15 :: x16 :: x17 :: x18 :: x19 :: some (.d x) :: δ) M 20 k = k (x0 :: x1 :: x2 :: x3 :: x4 :: x5 :: x6 :: x7 :: x8 :: x9 :: x10 :: x11 :: x12 :: x13 :: x14 :: x15 :: x16 :: x17 :: x18 :: x19 :: some (.d x) :: δ) M := rfl
@[simp ↓] theorem frKo21 {x0 x1 x2 x3 x4 x5 x6 x7 x8 x9 x10 x11 x12 x13 x14 x15 x16 x17 x18 x19 x20 : Option Sl} {xs : List D} {δ : DS} {k : DS → Prop} : frK (x0 :: x1 :: x2 :: x3 :: x4 :: x5 :: x6 :: x7 :: x8 :: x9 :: x10 :: x11 :: x12 :: x13 :: x14 :: x15 :: x16 :: x17 :: x18 :: x19 :: x20 :: some (.own xs) :: δ) 21 k = k (x0 :: x1 :: x2 :: x3 :: x4 :: x5 :: x6 :: x7 :: x8 :: x9 :: x10 :: x11 :: x12 :: x13 :: x14 :: x15 :: x16 :: x17 :: x18 :: x19 :: x20 :: some (.d (.lst xs)) :: δ) := rfl
@[simp ↓] theorem frKd21 {x0 x1 x2 x3 x4 x5 x6 x7 x8 x9 x10 x11 x12 x13 x14 x15 x16 x17 x18 x19 x20 : Option Sl} {x : D} {δ : DS} {k : DS → Prop} : frK (x0 :: x1 :: x2 :: x3 :: x4 :: x5 :: x6 :: x7 :: x8 :: x9 :: x10 :: x11 :: x12 :: x13 :: x14 :: x15 :: x16 :: x17 :: x18 :: x19 :: x20 :: some (.d x) :: δ) 21 k = k (x0 :: x1 :: x2 :: x3 :: x4 :: x5 :: x6 :: x7 :: x8 :: x9 :: x10 :: x11 :: x12 :: x13 :: x14 :: x15 :: x16 :: x17 :: x18 :: x19 :: x20 :: some (.d x) :: δ) := rfl
@[simp ↓] theorem frKn21 {x0 x1 x2 x3 x4 x5 x6 x7 x8 x9 x10 x11 x12 x13 x14 x15 x16 x17 x18 x19 x20 : Option Sl} {δ : DS} {k : DS → Prop} : frK (x0 :: x1 :: x2 :: x3 :: x4 :: x5 :: x6 :: x7 :: x8 :: x9 :: x10 :: x11 :: x12 :: x13 :: x14 :: x15 :: x16 :: x17 :: x18 :: x19 :: x20 :: none :: δ) 21 k = k (x0 :: x1 :: x2 :: x3 :: x4 :: x5 :: x6 :: x7 :: x8 :: x9 :: x10 :: x11 :: x12 :: x13 :: x14 :: x15 :: x16 :: x17 :: x18 :: x19 :: x20 :: none :: δ) := rfl
@[simp ↓] theorem shKo21 {x0 x1 x2 x3 x4 x5 x6 x7 x8 x9 x10 x11 x12 x13 x14 x15 x16 x17 x18 x19 x20 : Option Sl} {xs : List D} {δ : DS} {M : MH} {k : DS → MH → Prop} : shK (x0 :: x1 :: x2 :: x3 :: x4 :: x5 :: x6 :: x7 :: x8 :: x9 :: x10 :: x11 :: x12 :: x13 :: x14 :: x15 :: x16 :: x17 :: x18 :: x19 :: x20 :: some (.own xs) :: δ) M 21 k = ∀ a, M a = none → k (x0 :: x1 :: x2 :: x3 :: x4 :: x5 :: x6 :: x7 :: x8 :: x9 :: x10 :: x11 :: x12 :: x13 :: x14 :: x15 :: x16 :: x17 :: x18 :: x19 :: x20 :: some (.d (.ref a)) :: δ) (mu M a (.lst xs)) := rfl
@[simp ↓] theorem shKd21 {x0 x1 x2 x3 x4 x5 x6 x7 x8 x9 x10 x11 x12 x13 x14 x15 x16 x17 x18 x19 x20 : Option Sl} {x : D} {δ : DS} {M : MH} {k : DS → MH → Prop} : shK (x0 :: x1 :: x2 :: x3 :: x4 :: x5 :: x6 :: x7 :: x8 :: x9 :: x10 :: x11 :: x12 :: x13 :: x14 :: x15 :: x16 :: x17 :: x18 :: x19 :: x20 :: some (.d x) :: δ) M 21 k = k (x0 :: x1 :: x2 :: x3 :: x4 :: x5 :: x6 :: x7 :: x8 :: x9 :: x10 :: x11 :: x12 :: x13 :: x14 :: x15 :: x16 :: x17 :: x18 :: x19 :: x20 :: some (.d x) :: δ) M := rfl
@[simp ↓] theorem frKo22 {x0 x1 x2 x3 x4 x5 x6 x7 x8 x9 x10 x11 x12 x13 x14 x15 x16 x17 x18 x19 x20 x21 : Option Sl} {xs : List D} {δ : DS} {k : DS → Prop} : frK (x0 :: x1 :: x2 :: x3 :: x4 :: x5 :: x6 :: x7 :: x8 :: x9 :: x10 :: x11 :: x12 :: x13 :: x14 :: x15 :: x16 :: x17 :: x18 :: x19 :: x20 :: x21 :: some (.own xs) :: δ) 22 k = k (x0 :: x1 :: x2 :: x3 :: x4 :: x5 :: x6 :: x7 :: x8 :: x9 :: x10 :: x11 :: x12 :: x13 :: x14 :: x15 :: x16 :: x17 :: x18 :: x19 :: x20 :: x21 :: some (.d (.lst xs)) :: δ) := rfl
@[simp ↓] theorem frKd22 {x0 x1 x2 x3 x4 x5 x6 x7 x8 x9 x10 x11 x12 x13 x14 x15 x16 x17 x18 x19 x20 x21 : Option Sl} {x : D} {δ : DS} {k : DS → Prop} : frK (x0 :: x1 :: x2 :: x3 :: x4 :: x5 :: x6 :: x7 :: x8 :: x9 :: x10 :: x11 :: x12 :: x13 :: x14 :: x15 :: x16 :: x17 :: x18 :: x19 :: x20 :: x21 :: some (.d x) :: δ) 22 k = k (x0 :: x1 :: x2 :: x3 :: x4 :: x5 :: x6 :: x7 :: x8 :: x9 :: x10 :: x11 :: x12 :: x13 :: x14 :: x15 :: x16 :: x17 :: x18 :: x19 :: x20 :: x21 :: some (.d x) :: δ) := rfl
@[simp ↓] theorem frKn22 {x0 x1 x2 x3 x4 x5 x6 x7 x8 x9 x10 x11 x12 x13 x14 x15 x16 x17 x18 x19 x20 x21 : Option Sl} {δ : DS} {k : DS → Prop} : frK (x0 :: x1 :: x2 :: x3 :: x4 :: x5 :: x6 :: x7 :: x8 :: x9 :: x10 :: x11 :: x12 :: x13 :: x14 :: x15 :: x16 :: x17 :: x18 :: x19 :: x20 :: x21 :: none :: δ) 22 k = k (x0 :: x1 :: x2 :: x3 :: x4 :: x5 :: x6 :: x7 :: x8 :: x9 :: x10 :: x11 :: x12 :: x13 :: x14 :: x15 :: x16 :: x17 :: x18 :: x19 :: x20 :: x21 :: none :: δ) := rfl
@[simp ↓] theorem shKo22 {x0 x1 x2 x3 x4 x5 x6 x7 x8 x9 x10 x11 x12 x13 x14 x15 x16 x17 x18 x19 x20 x21 : Option Sl} {xs : List D} {δ : DS} {M : MH} {k : DS → MH → Prop} : shK (x0 :: x1 :: x2 :: x3 :: x4 :: x5 :: x6 :: x7 :: x8 :: x9 :: x10 :: x11 :: x12 :: x13 :: x14 :: x15 :: x16 :: x17 :: x18 :: x19 :: x20 :: x21 :: some (.own xs) :: δ) M 22 k = ∀ a, M a = none → k (x0 :: x1 :: x2 :: x3 :: x4 :: x5 :: x6 :: x7 :: x8 :: x9 :: x10 :: x11 :: x12 :: x13 :: x14 :: x15 :: x16 :: x17 :: x18 :: x19 :: x20 :: x21 :: some (.d (.ref a)) :: δ) (mu M a (.lst xs)) := rfl
@[simp ↓] theorem shKd22 {x0 x1 x2 x3 x4 x5 x6 x7 x8 x9 x10 x11 x12 x13 x14 x15 x16 x17 x18 x19 x20 x21 : Option Sl} {x : D} {δ : DS} {M : MH} {k : DS → MH → Prop} : shK (x0 :: x1 :: x2 :: x3 :: x4 :: x5 :: x6 :: x7 :: x8 :: x9 :: x10 :: x11 :: x12 :: x13 :: x14 :: x15 :: x16 :: x17 :: x18 :: x19 :: x20 :: x21 :: some (.d x) :: δ) M 22 k = k (x0 :: x1 :: x2 :: x3 :: x4 :: x5 :: x6 :: x7 :: x8 :: x9 :: x10 :: x11 :: x12 :: x13 :: x14 :: x15 :: x16 :: x17 :: x18 :: x19 :: x20 :: x21 :: some (.d x) :: δ) M := rfl
@[simp ↓] theorem frKo23 {x0 x1 x2 x3 x4 x5 x6 x7 x8 x9 x10 x11 x12 x13 x14 x15 x16 x17 x18 x19 x20 x21 x22 : Option Sl} {xs : List D} {δ : DS} {k : DS → Prop} : frK (x0 :: x1 :: x2 :: x3 :: x4 :: x5 :: x6 :: x7 :: x8 :: x9 :: x10 :: x11 :: x12 :: x13 :: x14 :: x15 :: x16 :: x17 :: x18 :: x19 :: x20 :: x21 :: x22 :: some (.own xs) :: δ) 23 k = k (x0 :: x1 :: x2 :: x3 :: x4 :: x5 :: x6 :: x7 :: x8 :: x9 :: x10 :: x11 :: x12 :: x13 :: x14 :: x15 :: x16 :: x17 :: x18 :: x19 :: x20 :: x21 :: x22 :: some (.d (.lst xs)) :: δ) := rfl
@[simp ↓] theorem frKd23 {x0 x1 x2 x3 x4 x5 x6 x7 x8 x9 x10 x11 x12 x13 x14 x15 x16 x17 x18 x19 x20 x21 x22 : Option Sl} {x : D} {δ : DS} {k : DS → Prop} : frK (x0 :: x1 :: x2 :: x3 :: x4 :: x5 :: x6 :: x7 :: x8 :: x9 :: x10 :: x11 :: x12 :: x13 :: x14 :: x15 :: x16 :: x17 :: x18 :: x19 :: x20 :: x21 :: x22 :: some (.d x) :: δ) 23 k = k (x0 :: x1 :: x2 :: x3 :: x4 :: x5 :: x6 :: x7 :: x8 :: x9 :: x10 :: x11 :: x12 :: x13 :: x14 :: x15 :: x16 :: x17 :: x18 :: x19 :: x20 :: x21 :: x22 :: some (.d x) :: δ) := rfl
@[simp ↓] theorem frKn23 {x0 x1 x2 x3 x4 x5 x6 x7 x8 x9 x10 x11 x12 x13 x14 x15 x16 x17 x18 x19 x20 x21 x22 : Option Sl} {δ : DS} {k : DS → Prop} : frK (x0 :: x1 :: x2 :: x3 :: x4 :: x5 :: x6 :: x7 :: x8 :: x9 :: x10 :: x11 :: x12 :: x13 :: x14 :: x15 :: x16 :: x17 :: x18 :: x19 :: x20 :: x21 :: x22 :: none :: δ) 23 k = k (x0 :: x1 :: x2 :: x3 :: x4 :: x5 :: x6 :: x7 :: x8 :: x9 :: x10 :: x11 :: x12 :: x13 :: x14 :: x15 :: x16 :: x17 :: x18 :: x19 :: x20 :: x21 :: x22 :: none :: δ) := rfl
@[simp ↓] theorem shKo23 {x0 x1 x2 x3 x4 x5 x6 x7 x8 x9 x10 x11 x12 x13 x14 x15 x16 x17 x18 x19 x20 x21 x22 : Option Sl} {xs : List D} {δ : DS} {M : MH} {k : DS → MH → Prop} : shK (x0 :: x1 :: x2 :: x3 :: x4 :: x5 :: x6 :: x7 :: x8 :: x9 :: x10 :: x11 :: x12 :: x13 :: x14 :: x15 :: x16 :: x17 :: x18 :: x19 :: x20 :: x21 :: x22 :: some (.own xs) :: δ) M 23 k = ∀ a, M a = none → k (x0 :: x1 :: x2 :: x3 :: x4 :: x5 :: x6 :: x7 :: x8 :: x9 :: x10 :: x11 :: x12 :: x13 :: x14 :: x15 :: x16 :: x17 :: x18 :: x19 :: x20 :: x21 :: x22 :: some (.d (.ref a)) :: δ) (mu M a (.lst xs)) := rfl
@[simp ↓] theorem shKd23 {x0 x1 x2 x3 x4 x5 x6 x7 x8 x9 x10 x11 x12 x13 x14 x15 x16 x17 x18 x19 x20 x21 x22 : Option Sl} {x : D} {δ : DS} {M : MH} {k : DS → MH → Prop} : shK (x0 :: x1 :: x2 :: x3 :: x4 :: x5 :: x6 :: x7 :: x8 :: x9 :: x10 :: x11 :: x12 :: x13 :: x14 :: x15 :: x16 :: x17 :: x18 :: x19 :: x20 :: x21 :: x22 :: some (.d x) :: δ) M 23 k = k (x0 :: x1 :: x2 :: x3 :: x4 :: x5 :: x6 :: x7 :: x8 :: x9 :: x10 :: x11 :: x12 :: x13 :: x14 :: x15 :: x16 :: x17 :: x18 :: x19 :: x20 :: x21 :: x22 :: some (.d x) :: δ) M := rfl
@[simp ↓] theorem ixI0 {s : D} {r : List D} {k : D → Prop} : ixI (s :: r) 0 k = k s := propext ⟨fun ⟨_, h, q⟩ => by
  have e : atI (s :: r) (0 : Int) = some s := by simp only [atI, ixN, List.length_cons]; rw [if_pos (by decide), if_pos (by omega)]; rfl
  rw [e] at h; cases h; exact q, fun h => ⟨s, by simp only [atI, ixN, List.length_cons]; rw [if_pos (by decide), if_pos (by omega)]; rfl, h⟩⟩
@[simp ↓] theorem setI0 {y d : D} {r : List D} {k : List D → Prop} : setI (y :: r) 0 d k = k (d :: r) := by
  have e : ixN (y :: r).length (0 : Int) = some 0 := by simp only [ixN, List.length_cons]; rw [if_pos (by decide), if_pos (by omega)]; rfl
  unfold setI
  exact propext ⟨fun ⟨n, h, q⟩ => by rw [e] at h; cases h; exact q, fun h => ⟨0, e, h⟩⟩
@[simp ↓] theorem ixI1 {x0 : D} {s : D} {r : List D} {k : D → Prop} : ixI (x0 :: s :: r) 1 k = k s := propext ⟨fun ⟨_, h, q⟩ => by
  have e : atI (x0 :: s :: r) (1 : Int) = some s := by simp only [atI, ixN, List.length_cons]; rw [if_pos (by decide), if_pos (by omega)]; rfl
  rw [e] at h; cases h; exact q, fun h => ⟨s, by simp only [atI, ixN, List.length_cons]; rw [if_pos (by decide), if_pos (by omega)]; rfl, h⟩⟩
@[simp ↓] theorem setI1 {x0 : D} {y d : D} {r : List D} {k : List D → Prop} : setI (x0 :: y :: r) 1 d k = k (x0 :: d :: r) := by
  have e : ixN (x0 :: y :: r).length (1 : Int) = some 1 := by simp only [ixN, List.length_cons]; rw [if_pos (by decide), if_pos (by omega)]; rfl
  unfold setI
  exact propext ⟨fun ⟨n, h, q⟩ => by rw [e] at h; cases h; exact q, fun h => ⟨1, e, h⟩⟩
@[simp ↓] theorem ixI2 {x0 x1 : D} {s : D} {r : List D} {k : D → Prop} : ixI (x0 :: x1 :: s :: r) 2 k = k s := propext ⟨fun ⟨_, h, q⟩ => by
  have e : atI (x0 :: x1 :: s :: r) (2 : Int) = some s := by simp only [atI, ixN, List.length_cons]; rw [if_pos (by decide), if_pos (by omega)]; rfl
  rw [e] at h; cases h; exact q, fun h => ⟨s, by simp only [atI, ixN, List.length_cons]; rw [if_pos (by decide), if_pos (by omega)]; rfl, h⟩⟩
@[simp ↓] theorem setI2 {x0 x1 : D} {y d : D} {r : List D} {k : List D → Prop} : setI (x0 :: x1 :: y :: r) 2 d k = k (x0 :: x1 :: d :: r) := by
  have e : ixN (x0 :: x1 :: y :: r).length (2 : Int) = some 2 := by simp only [ixN, List.length_cons]; rw [if_pos (by decide), if_pos (by omega)]; rfl
  unfold setI
  exact propext ⟨fun ⟨n, h, q⟩ => by rw [e] at h; cases h; exact q, fun h => ⟨2, e, h⟩⟩
@[simp ↓] theorem ixI3 {x0 x1 x2 : D} {s : D} {r : List D} {k : D → Prop} : ixI (x0 :: x1 :: x2 :: s :: r) 3 k = k s := propext ⟨fun ⟨_, h, q⟩ => by
  have e : atI (x0 :: x1 :: x2 :: s :: r) (3 : Int) = some s := by simp only [atI, ixN, List.length_cons]; rw [if_pos (by decide), if_pos (by omega)]; rfl
  rw [e] at h; cases h; exact q, fun h => ⟨s, by simp only [atI, ixN, List.length_cons]; rw [if_pos (by decide), if_pos (by omega)]; rfl, h⟩⟩
@[simp ↓] theorem setI3 {x0 x1 x2 : D} {y d : D} {r : List D} {k : List D → Prop} : setI (x0 :: x1 :: x2 :: y :: r) 3 d k = k (x0 :: x1 :: x2 :: d :: r) := by
  have e : ixN (x0 :: x1 :: x2 :: y :: r).length (3 : Int) = some 3 := by simp only [ixN, List.length_cons]; rw [if_pos (by decide), if_pos (by omega)]; rfl
  unfold setI
  exact propext ⟨fun ⟨n, h, q⟩ => by rw [e] at h; cases h; exact q, fun h => ⟨3, e, h⟩⟩
@[simp ↓] theorem ixI4 {x0 x1 x2 x3 : D} {s : D} {r : List D} {k : D → Prop} : ixI (x0 :: x1 :: x2 :: x3 :: s :: r) 4 k = k s := propext ⟨fun ⟨_, h, q⟩ => by
  have e : atI (x0 :: x1 :: x2 :: x3 :: s :: r) (4 : Int) = some s := by simp only [atI, ixN, List.length_cons]; rw [if_pos (by decide), if_pos (by omega)]; rfl
  rw [e] at h; cases h; exact q, fun h => ⟨s, by simp only [atI, ixN, List.length_cons]; rw [if_pos (by decide), if_pos (by omega)]; rfl, h⟩⟩
@[simp ↓] theorem setI4 {x0 x1 x2 x3 : D} {y d : D} {r : List D} {k : List D → Prop} : setI (x0 :: x1 :: x2 :: x3 :: y :: r) 4 d k = k (x0 :: x1 :: x2 :: x3 :: d :: r) := by
  have e : ixN (x0 :: x1 :: x2 :: x3 :: y :: r).length (4 : Int) = some 4 := by simp only [ixN, List.length_cons]; rw [if_pos (by decide), if_pos (by omega)]; rfl
  unfold setI
  exact propext ⟨fun ⟨n, h, q⟩ => by rw [e] at h; cases h; exact q, fun h => ⟨4, e, h⟩⟩
@[simp ↓] theorem ixI5 {x0 x1 x2 x3 x4 : D} {s : D} {r : List D} {k : D → Prop} : ixI (x0 :: x1 :: x2 :: x3 :: x4 :: s :: r) 5 k = k s := propext ⟨fun ⟨_, h, q⟩ => by
  have e : atI (x0 :: x1 :: x2 :: x3 :: x4 :: s :: r) (5 : Int) = some s := by simp only [atI, ixN, List.length_cons]; rw [if_pos (by decide), if_pos (by omega)]; rfl
  rw [e] at h; cases h; exact q, fun h => ⟨s, by simp only [atI, ixN, List.length_cons]; rw [if_pos (by decide), if_pos (by omega)]; rfl, h⟩⟩
@[simp ↓] theorem setI5 {x0 x1 x2 x3 x4 : D} {y d : D} {r : List D} {k : List D → Prop} : setI (x0 :: x1 :: x2 :: x3 :: x4 :: y :: r) 5 d k = k (x0 :: x1 :: x2 :: x3 :: x4 :: d :: r) := by
  have e : ixN (x0 :: x1 :: x2 :: x3 :: x4 :: y :: r).length (5 : Int) = some 5 := by simp only [ixN, List.length_cons]; rw [if_pos (by decide), if_pos (by omega)]; rfl
  unfold setI
  exact propext ⟨fun ⟨n, h, q⟩ => by rw [e] at h; cases h; exact q, fun h => ⟨5, e, h⟩⟩
@[simp ↓] theorem ixI6 {x0 x1 x2 x3 x4 x5 : D} {s : D} {r : List D} {k : D → Prop} : ixI (x0 :: x1 :: x2 :: x3 :: x4 :: x5 :: s :: r) 6 k = k s := propext ⟨fun ⟨_, h, q⟩ => by
  have e : atI (x0 :: x1 :: x2 :: x3 :: x4 :: x5 :: s :: r) (6 : Int) = some s := by simp only [atI, ixN, List.length_cons]; rw [if_pos (by decide), if_pos (by omega)]; rfl
  rw [e] at h; cases h; exact q, fun h => ⟨s, by simp only [atI, ixN, List.length_cons]; rw [if_pos (by decide), if_pos (by omega)]; rfl, h⟩⟩
@[simp ↓] theorem setI6 {x0 x1 x2 x3 x4 x5 : D} {y d : D} {r : List D} {k : List D → Prop} : setI (x0 :: x1 :: x2 :: x3 :: x4 :: x5 :: y :: r) 6 d k = k (x0 :: x1 :: x2 :: x3 :: x4 :: x5 :: d :: r) := by
  have e : ixN (x0 :: x1 :: x2 :: x3 :: x4 :: x5 :: y :: r).length (6 : Int) = some 6 := by simp only [ixN, List.length_cons]; rw [if_pos (by decide), if_pos (by omega)]; rfl
  unfold setI
  exact propext ⟨fun ⟨n, h, q⟩ => by rw [e] at h; cases h; exact q, fun h => ⟨6, e, h⟩⟩
@[simp ↓] theorem ixI7 {x0 x1 x2 x3 x4 x5 x6 : D} {s : D} {r : List D} {k : D → Prop} : ixI (x0 :: x1 :: x2 :: x3 :: x4 :: x5 :: x6 :: s :: r) 7 k = k s := propext ⟨fun ⟨_, h, q⟩ => by
  have e : atI (x0 :: x1 :: x2 :: x3 :: x4 :: x5 :: x6 :: s :: r) (7 : Int) = some s := by simp only [atI, ixN, List.length_cons]; rw [if_pos (by decide), if_pos (by omega)]; rfl
  rw [e] at h; cases h; exact q, fun h => ⟨s, by simp only [atI, ixN, List.length_cons]; rw [if_pos (by decide), if_pos (by omega)]; rfl, h⟩⟩
@[simp ↓] theorem setI7 {x0 x1 x2 x3 x4 x5 x6 : D} {y d : D} {r : List D} {k : List D → Prop} : setI (x0 :: x1 :: x2 :: x3 :: x4 :: x5 :: x6 :: y :: r) 7 d k = k (x0 :: x1 :: x2 :: x3 :: x4 :: x5 :: x6 :: d :: r) := by
  have e : ixN (x0 :: x1 :: x2 :: x3 :: x4 :: x5 :: x6 :: y :: r).length (7 : Int) = some 7 := by simp only [ixN, List.length_cons]; rw [if_pos (by decide), if_pos (by omega)]; rfl
  unfold setI
  exact propext ⟨fun ⟨n, h, q⟩ => by rw [e] at h; cases h; exact q, fun h => ⟨7, e, h⟩⟩

@[simp ↓] theorem asD_d {x : D} {k : D → Prop} : asD (.d x) k = k x := propext ⟨fun ⟨_, h, q⟩ => by cases h; exact q, fun h => ⟨x, rfl, h⟩⟩
@[simp ↓] theorem asB_d {x : Bool} {k : Bool → Prop} : asB (.d (.bl x)) k = k x := propext ⟨fun ⟨_, h, q⟩ => by cases h; exact q, fun h => ⟨x, rfl, h⟩⟩
@[simp ↓] theorem asI_d {x : Int} {k : Int → Prop} : asI (.int x) k = k x := propext ⟨fun ⟨_, h, q⟩ => by cases h; exact q, fun h => ⟨x, rfl, h⟩⟩
@[simp ↓] theorem asL_l {x : List D} {k : List D → Prop} : asL (.lst x) k = k x := propext ⟨fun ⟨_, h, q⟩ => by cases h; exact q, fun h => ⟨x, rfl, h⟩⟩
@[simp ↓] theorem tif_t : tif true P Q = P := if_pos rfl
@[simp ↓] theorem tif_f : tif false P Q = Q := if_neg (by decide)
@[simp ↓] theorem tif_not {b : Bool} : tif (!b) P Q = tif b Q P := by cases b <;> rfl
@[simp ↓] theorem tif_dec {p : Prop} [Decidable p] : tif (decide p) P Q = if p then P else Q := by unfold tif; by_cases h : p <;> simp [h]
@[simp ↓] theorem lk_mu {a : Addr} {o : MO} {k : MO → Prop} : lk (mu M a o) a k = k o := propext ⟨fun ⟨_, h, q⟩ => by rw [mu_same] at h; cases h; exact q, fun h => ⟨o, mu_same, h⟩⟩
theorem lk_ne {a b : Addr} {o : MO} {k : MO → Prop} (h : b ≠ a) : lk (mu M a o) b k = lk M b k := by unfold lk; rw [mu_ne h]
theorem lk_at {a : Addr} {o : MO} (h : M a = some o) (k : MO → Prop) : lk M a k = k o := propext ⟨fun ⟨_, h', q⟩ => by rw [h] at h'; cases h'; exact q, fun q => ⟨o, h, q⟩⟩
theorem ixI_at {xs : List D} {i : Int} {d : D} {k : D → Prop} (h0 : 0 ≤ i) (h : xs[i.toNat]? = some d) : ixI xs i k = k d := by
  have hl : i.toNat < xs.length := lt_of_get h
  have e : atI xs i = some d := by
    unfold atI ixN
    rw [if_pos h0, if_pos (by omega)]
    exact h
  exact propext ⟨fun ⟨_, h', q⟩ => by rw [e] at h'; cases h'; exact q, fun q => ⟨d, e, q⟩⟩
theorem ixI_mem {xs : List D} {i : Int} {k : D → Prop} (h0 : 0 ≤ i) (h1 : i < xs.length) (h : ∀ d ∈ xs, k d) : ixI xs i k := by
  have hl : i.toNat < xs.length := by omega
  rw [ixI_at h0 (List.getElem?_eq_getElem hl)]
  exact h _ (List.getElem_mem hl)
@[simp ↓] theorem mu_mu' {a : Addr} {o u : MO} : mu (mu M a o) a u = mu M a u := mu_mu
theorem ixI_int {cs : List Int} {i : Int} {k : D → Prop} (h0 : 0 ≤ i) (h1 : i < cs.length) : ixI (cs.map D.int) i k = k (.int (cs.getD i.toNat 0)) := by
  refine ixI_at h0 ?_
  have h : i.toNat < cs.length := by omega
  rw [List.getElem?_map, List.getElem?_eq_getElem h, List.getD_eq_getElem?_getD, List.getElem?_eq_getElem h]
  rfl
/-! the words -/
@[simp ↓] theorem e_sSeq {t u : DP} : sSeq t u E δ M = t { E with nx := fun δ' M' => u E δ' M' } δ M := rfl
@[simp ↓] theorem e_sNext : sNext E δ M = E.nx δ M := rfl
@[simp ↓] theorem e_sBreak : sBreak E δ M = E.bk δ M := rfl
@[simp ↓] theorem e_sCont : sCont E δ M = E.ct δ M := rfl
@[simp ↓] theorem e_sDrop {t : DE} : sDrop t E δ M = t δ M (fun _ M' => E.nx δ M') E.ex := rfl
@[simp ↓] theorem e_sRet {t : DE} : sRet t E δ M = t δ M (fun r M' => E.rt r M') E.ex := rfl
@[simp ↓] theorem e_sRetV : sRetV i E δ M = pk δ i (fun s => E.rt s M) := rfl
@[simp ↓] theorem e_sRetN : sRetN E δ M = E.rt (.d .non) M := rfl
@[simp ↓] theorem e_sIf {c : DT} {t u : DP} : sIf c t u E δ M = c δ M (fun b M' => tif b (t E δ M') (u E δ M')) E.ex := rfl
@[simp ↓] theorem e_sAsg {t : DE} : sAsg t i E δ M = t δ M (fun r M' => setK δ i (some r) (fun δ' => E.nx δ' M')) E.ex := rfl
@[simp ↓] theorem e_sFrz {t : DP} : sFrz i t E δ M = frK δ i (fun δ' => t E δ' M) := rfl
@[simp ↓] theorem e_sShare {t : DP} : sShare i t E δ M = shK δ M i (fun δ' M' => t E δ' M') := rfl
@[simp ↓] theorem e_sForget {t : DP} : sForget i t E δ M = setK δ i none (fun δ' => t E δ' M) := rfl
@[simp ↓] theorem e_sAsgT {t : DX} {g : DG} : sAsgT t g E δ M = t δ M (fun d M' => g d δ M' E.nx) E.ex := rfl
def twoD (ds : List D) (k : D → D → Prop) : Prop := ∃ d d', ds = [d, d'] ∧ k d d'
@[simp ↓] theorem twoD_2 {d d' : D} {k : D → D → Prop} : twoD [d, d'] k = k d d' := propext ⟨fun ⟨_, _, h, q⟩ => by cases h; exact q, fun q => ⟨d, d', rfl, q⟩⟩
@[simp ↓] theorem e_sPar {t : DA} : sPar i j t E δ M = t δ M (fun ds M' => twoD ds fun d d' => setK δ i (some (.d d)) fun δ1 => setK δ1 j (some (.d d')) fun δ2 => E.nx δ2 M') E.ex := rfl
def asO (s : Sl) (k : List D → Prop) : Prop := ∃ xs, s = .own xs ∧ k xs
@[simp ↓] theorem asO_o {xs : List D} {k : List D → Prop} : asO (.own xs) k = k xs := propext ⟨fun ⟨_, h, q⟩ => by cases h; exact q, fun q => ⟨xs, rfl, q⟩⟩
@[simp ↓] theorem e_sApp {t : DX} : sAppOwn j t E δ M = pk δ j (fun s => asO s fun xs => t δ M (fun d M' => xs.length < sizeLine ∧ setK δ j (some (.own (xs ++ [d]))) fun δ' => E.nx δ' M') E.ex) := by
  refine propext ⟨fun ⟨⟨xs, h⟩, q⟩ => ⟨_, h, xs, rfl, ?_⟩, fun ⟨_, h, xs, e, q⟩ => ⟨⟨xs, by rw [h, e]⟩, ?_⟩⟩
  · have z : (fun (d : D) (M' : MH) => ∃ ys, δ[j]? = some (some (Sl.own ys)) ∧ ys.length < sizeLine ∧ E.nx (δ.set j (some (.own (ys ++ [d])))) M') = fun d M' => xs.length < sizeLine ∧ setK δ j (some (.own (xs ++ [d]))) fun δ' => E.nx δ' M' := by
      funext d M'
      exact propext ⟨fun ⟨ys, g, q⟩ => by rw [h] at g; cases g; exact q, fun q => ⟨xs, h, q⟩⟩
    show t δ M _ _
    rw [← z]
    exact q
  · subst e
    have z : (fun (d : D) (M' : MH) => ∃ ys, δ[j]? = some (some (Sl.own ys)) ∧ ys.length < sizeLine ∧ E.nx (δ.set j (some (.own (ys ++ [d])))) M') = fun d M' => xs.length < sizeLine ∧ setK δ j (some (.own (xs ++ [d]))) fun δ' => E.nx δ' M' := by
      funext d M'
      exact propext ⟨fun ⟨ys, g, q⟩ => by rw [h] at g; cases g; exact q, fun q => ⟨xs, h, q⟩⟩
    have q' : t δ M _ _ := q
    rw [← z] at q'
    exact q'
@[simp ↓] theorem e_gN {d : D} {k : DS → MH → Prop} : gN i d δ M k = setK δ i (some (.d d)) (fun δ' => k δ' M) := rfl
def tupN (n : Nat) (d : D) (k : List D → Prop) : Prop := ∃ xs, (d = .tup xs ∨ d = .lst xs) ∧ xs.length = n ∧ k xs
@[simp ↓] theorem e_gTupD {n : Nat} {t : DGs} {d : D} {k : DS → MH → Prop} : gTupD n t d δ M k = tupN n d (fun xs => t xs δ M k) := rfl
@[simp ↓] theorem tupN_t {xs : List D} {n : Nat} {k : List D → Prop} : tupN n (.tup xs) k = (xs.length = n ∧ k xs) := propext ⟨fun ⟨ys, h, q⟩ => by rcases h with h | h <;> cases h; exact q, fun h => ⟨xs, .inl rfl, h⟩⟩
@[simp ↓] theorem tupN_l {xs : List D} {n : Nat} {k : List D → Prop} : tupN n (.lst xs) k = (xs.length = n ∧ k xs) := propext ⟨fun ⟨ys, h, q⟩ => by rcases h with h | h <;> cases h; exact q, fun h => ⟨xs, .inr rfl, h⟩⟩
@[simp ↓] theorem e_gCons {t : DG} {u : DGs} {d : D} {r : List D} {k : DS → MH → Prop} : gConsD t u (d :: r) δ M k = t d δ M (fun δ' M' => u r δ' M' k) := propext ⟨fun ⟨_, _, h, q⟩ => by cases h; exact q, fun h => ⟨d, r, rfl, h⟩⟩
@[simp ↓] theorem e_gNil {k : DS → MH → Prop} : gNilD [] δ M k = k δ M := propext ⟨fun h => h.2, fun h => ⟨rfl, h⟩⟩
@[simp ↓] theorem e_sSetM {te to ti : DX} : sSetM te to ti E δ M = te δ M (fun d M1 => to δ M1 (fun y M2 => ti δ M2 (fun x M3 => stM y x d M3 (fun M4 => E.nx δ M4)) E.ex) E.ex) E.ex := rfl
@[simp ↓] theorem stM_r {a : Addr} {n : Int} {d : D} {k : MH → Prop} : stM (.ref a) (.int n) d M k = lk M a (fun o => asL o (fun xs => setI xs n d (fun xs' => k (mu M a (.lst xs'))))) := propext
  ⟨fun ⟨b, xs, i, m, h1, h2, h3, h4, q⟩ => by cases h1; cases h3; exact ⟨_, h2, xs, rfl, m, h4, q⟩, fun ⟨o, h2, xs, h3, m, h4, q⟩ => ⟨a, xs, n, m, rfl, by rw [h2, h3], rfl, h4, q⟩⟩
@[simp ↓] theorem e_sRaise {C : Addr} {f : Str} {Pr : D → Prop} {t : DX} : sRaise C f Pr t E δ M = t δ M (fun d M' => Pr d ∧ E.ex C [(f, d)] δ M') E.ex := rfl
@[simp ↓] theorem prI_i {n : Int} : PrI (.int n) = (n.natAbs.log2 < 1920) := propext ⟨fun ⟨_, h, q⟩ => by cases h; exact q, fun h => ⟨n, rfl, h⟩⟩
@[simp ↓] theorem prT_i {d : D} : PrT d = True := rfl
@[simp ↓] theorem e_endNx {A : Sl → MH → Prop} {B : Addr → List (Str × D) → MH → Prop} : (endsD A B).nx δ M = A (.d .non) M := rfl
@[simp ↓] theorem e_endRt {A : Sl → MH → Prop} {B : Addr → List (Str × D) → MH → Prop} {s : Sl} : (endsD A B).rt s M = A s M := rfl
@[simp ↓] theorem e_endEx {A : Sl → MH → Prop} {B : Addr → List (Str × D) → MH → Prop} {C : Addr} {fs : List (Str × D)} : (endsD A B).ex C fs δ M = B C fs M := rfl
section
variable {A : Sl → MH → Prop} {B : D → MH → Prop} {T : Bool → MH → Prop} {L : List D → MH → Prop} {O : Option Int → MH → Prop} {d x y : D} {t u v : DX} {td ud vd : DE} {tt tu : DT} {ta : DA}
@[simp ↓] theorem e_dC : dC d δ M A X = A (.d d) M := rfl
@[simp ↓] theorem e_vC : vC d δ M B X = B d M := rfl
@[simp ↓] theorem e_dVar : dVar i δ M A X = pk δ i (fun s => asD s (fun x => A (.d x) M)) := propext ⟨fun ⟨x, h, q⟩ => ⟨_, h, x, rfl, q⟩, fun ⟨_, h, x, e, q⟩ => ⟨x, by rw [h, e], q⟩⟩
@[simp ↓] theorem e_vVar : vVar i δ M B X = pk δ i (fun s => asD s (fun x => B x M)) := propext ⟨fun ⟨x, h, q⟩ => ⟨_, h, x, rfl, q⟩, fun ⟨_, h, x, e, q⟩ => ⟨x, by rw [h, e], q⟩⟩
@[simp ↓] theorem e_oPeek : oPeek i δ M B X = pk δ i (fun s => B s.fz M) := rfl
@[simp ↓] theorem e_fzd : Sl.fz (.d d) = d := rfl
@[simp ↓] theorem e_fzo {xs : List D} : Sl.fz (.own xs) = .lst xs := rfl
@[simp ↓] theorem e_dFz : dFz td δ M B X = td δ M (fun r M' => B r.fz M') X := rfl
@[simp ↓] theorem e_dV : dV t δ M A X = t δ M (fun d M' => A (.d d) M') X := rfl
@[simp ↓] theorem e_aNil : aNil δ M L X = L [] M := rfl
@[simp ↓] theorem e_aCons : aCons t ta δ M L X = t δ M (fun d M1 => ta δ M1 (fun ds M2 => L (d :: ds) M2) X) X := rfl
@[simp ↓] theorem e_dTup : dTup ta δ M A X = ta δ M (fun ds M' => ds.length ≤ sizeLine ∧ A (.d (.tup ds)) M') X := rfl
@[simp ↓] theorem e_dLst : dLst ta δ M A X = ta δ M (fun ds M' => ds.length ≤ sizeLine ∧ A (.own ds) M') X := rfl
@[simp ↓] theorem e_dBin {f : F2} : dBin f t u δ M A X = t δ M (fun x M1 => u δ M1 (fun y M2 => f x y M2 A) X) X := rfl
@[simp ↓] theorem e_dNeg : dNeg t δ M A X = t δ M (fun x M' => asI x (fun i => A (.d (.int (-i))) M')) X := rfl
@[simp ↓] theorem e_dCmp {f : FB} : dCmp f t u δ M T X = t δ M (fun x M1 => u δ M1 (fun y M2 => f x y M2 fun b => T b M2) X) X := rfl
@[simp ↓] theorem e_dChain {f f' : FB} : dChain f f' t u v δ M T X = t δ M (fun x M1 => u δ M1 (fun y M2 => f x y M2 fun b => tif b (v δ M2 (fun z M3 => f' y z M3 fun b' => T b' M3) X) (T false M2)) X) X := rfl
@[simp ↓] theorem e_dOfT : dOfT tt δ M A X = tt δ M (fun b M' => A (.d (.bl b)) M') X := rfl
@[simp ↓] theorem e_dB : dB td δ M T X = td δ M (fun r M' => asB r (fun b => T b M')) X := rfl
@[simp ↓] theorem e_tdAnd : tdAnd tt tu δ M T X = tt δ M (fun c M1 => tif c (tu δ M1 T X) (T false M1)) X := rfl
@[simp ↓] theorem e_tdOr : tdOr tt tu δ M T X = tt δ M (fun c M1 => tif c (T true M1) (tu δ M1 T X)) X := rfl
@[simp ↓] theorem e_tdNot : tdNot tt δ M T X = tt δ M (fun c M1 => T (!c) M1) X := rfl
@[simp ↓] theorem e_dAnd : dAnd td ud δ M A X = td δ M (fun r M1 => asB r (fun c => tif c (ud δ M1 A X) (A (.d (.bl false)) M1))) X := rfl
@[simp ↓] theorem e_dOr : dOr td ud δ M A X = td δ M (fun r M1 => asB r (fun c => tif c (A (.d (.bl true)) M1) (ud δ M1 A X))) X := rfl
@[simp ↓] theorem e_dNot : dNot td δ M A X = td δ M (fun r M1 => asB r (fun c => A (.d (.bl (!c))) M1)) X := rfl
@[simp ↓] theorem e_dIf : dIf tt td ud δ M A X = tt δ M (fun c M1 => tif c (td δ M1 A X) (ud δ M1 A X)) X := rfl
@[simp ↓] theorem e_dCall {sp : SpD} : dCall sp ta δ M A X = ta δ M (fun ds M1 => sp ds M1 A (fun C fs M2 => X C fs δ M2)) X := rfl
@[simp ↓] theorem e_dCB {f : FC} : dCB f ta δ M A X = ta δ M (fun ds M1 => f ds M1 A) X := rfl
@[simp ↓] theorem e_dM {ty : String} {f : FM} : dM ty f t ta δ M A X = t δ M (fun x M1 => TyD ty x M1 ∧ ta δ M1 (fun ds M2 => f x ds M2 A) X) X := rfl
@[simp ↓] theorem e_dIsi {ty : Ty} : dIsi ty t δ M T X = t δ M (fun x M1 => fIsi ty x M1 fun b => T b M1) X := rfl
@[simp ↓] theorem e_tdYes : tdYes δ M T X = T true M := rfl
@[simp ↓] theorem e_pNone : pNone δ M O X = O none M := rfl
@[simp ↓] theorem e_pSome : pSome td δ M O X = td δ M (fun r M' => asD r (fun d => asI d (fun i => O (some i) M'))) X := by
  unfold pSome
  congr 1
  funext r M'
  exact propext ⟨fun ⟨i, h, q⟩ => ⟨_, h, i, rfl, q⟩, fun ⟨_, h, i, e, q⟩ => ⟨i, by rw [h, e], q⟩⟩
@[simp ↓] theorem e_dSl {f : FS} {tl th : DO} : dSl f t tl th δ M A X = t δ M (fun x M1 => tl δ M1 (fun l M2 => th δ M2 (fun u M3 => f x l u M3 A) X) X) X := rfl
/-! operators -/
theorem fI_i {g : Int → Int → Int} {C : Int → Int → Prop} {a b : Int} : fI g C (.int a) (.int b) M A = (C a b ∧ A (.d (.int (g a b))) M) := propext ⟨fun ⟨_, _, h1, h2, q⟩ => by cases h1; cases h2; exact q, fun q => ⟨a, b, rfl, rfl, q⟩⟩
variable {a b : Int} {r s : List D} {k : Bool → Prop} {p : Addr}
@[simp ↓] theorem e_add_i : fAdd (.int a) (.int b) M A = A (.d (.int (a + b))) M := rfl
@[simp ↓] theorem e_add_s {c e : Str} : fAdd (.str c) (.str e) M A = (c.length + e.length ≤ sizeLine ∧ A (.d (.str (c ++ e))) M) := rfl
@[simp ↓] theorem e_add_t : fAdd (.tup r) (.tup s) M A = (r.length + s.length ≤ sizeLine ∧ A (.d (.tup (r ++ s))) M) := rfl
@[simp ↓] theorem e_add_l : fAdd (.lst r) (.lst s) M A = (r.length + s.length ≤ sizeLine ∧ A (.own (r ++ s)) M) := rfl
@[simp ↓] theorem e_mul_i : fMul (.int a) (.int b) M A = ((CMul a b ∨ CMulW a b) ∧ A (.d (.int (a * b))) M) := rfl
@[simp ↓] theorem e_mul_l : fMul (.lst r) (.int a) M A = (-(2 ^ 63) ≤ a ∧ a < 2 ^ 63 ∧ r.length * a.toNat ≤ sizeLine ∧ A (.own (List.replicate a.toNat r).flatten) M) := rfl
@[simp ↓] theorem e_mul_t : fMul (.tup r) (.int a) M A = (r ≠ [] ∧ 2 ≤ a ∧ a ≤ 1000 ∧ r.length ≤ 1000 ∧ A (.d (.tup (List.replicate a.toNat r).flatten)) M) := rfl
@[simp ↓] theorem e_div_i : fDiv (.int a) (.int b) M A = ((0 < b ∧ (b < 1073741824 ∨ b.natAbs.log2 < 9000)) ∧ A (.d (.int (a / b))) M) := fI_i
@[simp ↓] theorem e_mod_i : fMod (.int a) (.int b) M A = (0 < b ∧ A (.d (.int (a % b))) M) := fI_i
@[simp ↓] theorem e_sub_i : fSub (.int a) (.int b) M A = A (.d (.int (a - b))) M := by unfold fSub; rw [fI_i]; exact propext ⟨fun h => h.2, fun h => ⟨trivial, h⟩⟩
@[simp ↓] theorem e_pow_i : fPow (.int a) (.int b) M A = (CPow a b ∧ A (.d (.int (a ^ b.toNat))) M) := fI_i
theorem fCI_i {g : Int → Int → Bool} : fCI g (.int a) (.int b) M k = k (g a b) := propext ⟨fun ⟨_, _, h1, h2, q⟩ => by cases h1; cases h2; exact q, fun q => ⟨a, b, rfl, rfl, q⟩⟩
@[simp ↓] theorem e_lt_i : fLt (.int a) (.int b) M k = k (decide (a < b)) := fCI_i
@[simp ↓] theorem e_le_i : fLe (.int a) (.int b) M k = k (decide (a ≤ b)) := fCI_i
@[simp ↓] theorem e_gt_i : fGt (.int a) (.int b) M k = k (decide (b < a)) := fCI_i
@[simp ↓] theorem e_ge_i : fGe (.int a) (.int b) M k = k (decide (b ≤ a)) := fCI_i
theorem ok_int : D.Ok (.int a) := ⟨by simp [D.nr], by simp [D.dp]⟩
theorem ok_bl {c : Bool} : D.Ok (.bl c) := ⟨by simp [D.nr], by simp [D.dp]⟩
theorem eq_bb {c e : Bool} : D.eq (.bl c) (.bl e) = (c == e) := by
  simp only [D.eq, D.toP, PyData.eqv]
theorem ok_non : D.Ok .non := ⟨by simp [D.nr], by simp [D.dp]⟩
theorem eq_ii : D.eq (.int a) (.int b) = decide (a = b) := by
  simp only [D.eq, D.toP, PyData.eqv]
  by_cases h : a = b <;> simp [h]
@[simp ↓] theorem e_eq_i : fEq (.int a) (.int b) M k = k (decide (a = b)) := by unfold fEq; rw [eq_ii]; exact propext ⟨fun h => h.2.2, fun h => ⟨ok_int, ok_int, h⟩⟩
@[simp ↓] theorem e_ne_i : fNe (.int a) (.int b) M k = k (!decide (a = b)) := by unfold fNe; rw [eq_ii]; exact propext ⟨fun h => h.2.2, fun h => ⟨ok_int, ok_int, h⟩⟩
@[simp ↓] theorem e_is : fIs x .non M k = k (isNon x) := propext ⟨fun h => h.2, fun h => ⟨rfl, h⟩⟩
@[simp ↓] theorem e_isNot : fIsNot x .non M k = k (!isNon x) := propext ⟨fun h => h.2, fun h => ⟨rfl, h⟩⟩
@[simp ↓] theorem e_in_t : fIn x (.tup r) M k = ((flatD x = true ∧ r.all flatD = true) ∧ k (r.any fun z => D.eq z x)) := propext ⟨fun ⟨h1, h2, h3⟩ => ⟨⟨h1, h2⟩, h3⟩, fun ⟨⟨h1, h2⟩, h3⟩ => ⟨h1, h2, h3⟩⟩
@[simp ↓] theorem e_notIn_t : fNotIn x (.tup r) M k = ((flatD x = true ∧ r.all flatD = true) ∧ k (!r.any fun z => D.eq z x)) := propext ⟨fun ⟨h1, h2, h3⟩ => ⟨⟨h1, h2⟩, h3⟩, fun ⟨⟨h1, h2⟩, h3⟩ => ⟨h1, h2, h3⟩⟩
@[simp ↓] theorem e_in_l : fIn x (.lst r) M k = ((flatD x = true ∧ r.all flatD = true ∨ x.Ok ∧ D.Ok (.lst r)) ∧ k (r.any fun z => D.eq z x)) := rfl
@[simp ↓] theorem e_notIn_l : fNotIn x (.lst r) M k = ((flatD x = true ∧ r.all flatD = true ∨ x.Ok ∧ D.Ok (.lst r)) ∧ k (!r.any fun z => D.eq z x)) := rfl
@[simp] theorem f_non : flatD .non = true := rfl
@[simp] theorem f_bl {c : Bool} : flatD (.bl c) = true := rfl
@[simp] theorem f_int : flatD (.int a) = true := rfl
@[simp] theorem f_str {c : Str} : flatD (.str c) = true := rfl
@[simp] theorem le_sl {n : Nat} (h : n ≤ 16777216) : (n ≤ sizeLine) = True := by rw [sizeLine_eq]; exact eq_true h
@[simp ↓] theorem n_non : isNon .non = true := rfl
@[simp ↓] theorem n_bl {c : Bool} : isNon (.bl c) = false := rfl
@[simp ↓] theorem n_int : isNon (.int a) = false := rfl
@[simp ↓] theorem n_str {c : Str} : isNon (.str c) = false := rfl
@[simp ↓] theorem n_tup : isNon (.tup r) = false := rfl
@[simp ↓] theorem n_lst : isNon (.lst r) = false := rfl
@[simp ↓] theorem n_ref : isNon (.ref p) = false := rfl
/-! subscripts, lengths -/
@[simp ↓] theorem e_ix_t : fIx (.tup r) (.int a) M A = ixI r a (fun d => A (.d d) M) := propext ⟨fun ⟨_, h, q⟩ => by cases h; exact q, fun q => ⟨a, rfl, q⟩⟩
@[simp ↓] theorem e_ix_l : fIx (.lst r) (.int a) M A = ixI r a (fun d => A (.d d) M) := propext ⟨fun ⟨_, h, q⟩ => by cases h; obtain ⟨xs, d, h1, h2, q⟩ := q; cases h1; exact ⟨d, h2, q⟩, fun ⟨d, h, q⟩ => ⟨a, rfl, r, d, rfl, h, q⟩⟩
theorem seq_ref {xs : List D} : seqOf M (.ref p) = some xs ↔ M p = some (.lst xs) := by
  show (match M p with | some (.lst xs) => some xs | _ => none) = some xs ↔ _
  cases h : M p with
  | none => simp
  | some o => cases o <;> simp
@[simp ↓] theorem e_ix_r : fIx (.ref p) (.int a) M A = lk M p (fun o => asL o (fun xs => ixI xs a (fun d => A (.d d) M))) := propext
  ⟨fun ⟨_, h, q⟩ => by cases h; obtain ⟨xs, d, h1, h2, q⟩ := q; exact ⟨_, seq_ref.mp h1, xs, rfl, d, h2, q⟩, fun ⟨o, h, xs, e, d, h2, q⟩ => ⟨a, rfl, xs, d, seq_ref.mpr (by rw [h, e]), h2, q⟩⟩
@[simp ↓] theorem e_len_t : fLen [.tup r] M A = A (.d (.int r.length)) M := propext ⟨fun ⟨_, h, q⟩ => by cases h; exact q, fun q => ⟨_, rfl, q⟩⟩
@[simp ↓] theorem e_len_l : fLen [.lst r] M A = A (.d (.int r.length)) M := propext ⟨fun ⟨_, h, q⟩ => by cases h; obtain ⟨xs, h1, q⟩ := q; cases h1; exact q, fun q => ⟨_, rfl, r, rfl, q⟩⟩
@[simp ↓] theorem e_len_k : fLen [.lsk r] M A = A (.d (.int r.length)) M := propext ⟨fun ⟨_, h, q⟩ => by cases h; obtain ⟨xs, h1, q⟩ := q; cases h1; exact q, fun q => ⟨_, rfl, r, rfl, q⟩⟩
@[simp ↓] theorem e_len_s {c : Str} : fLen [.str c] M A = (c.length ≤ sizeLine ∧ A (.d (.int c.length)) M) := propext ⟨fun ⟨_, h, q⟩ => by cases h; exact q, fun q => ⟨_, rfl, q⟩⟩
@[simp ↓] theorem e_len_r : fLen [.ref p] M A = lk M p (fun o => asL o (fun xs => A (.d (.int xs.length)) M)) := propext
  ⟨fun ⟨_, h, q⟩ => by cases h; obtain ⟨xs, h1, q⟩ := q; exact ⟨_, seq_ref.mp h1, xs, rfl, q⟩, fun ⟨o, h, xs, e, q⟩ => ⟨_, rfl, xs, seq_ref.mpr (by rw [h, e]), q⟩⟩
@[simp ↓] theorem e_tuple_t : fTuple [.tup r] M A = A (.d (.tup r)) M := propext ⟨fun ⟨_, h, q⟩ => by cases h; exact q, fun q => ⟨_, rfl, q⟩⟩
@[simp ↓] theorem e_tuple_l : fTuple [.lst r] M A = A (.d (.tup r)) M := propext ⟨fun ⟨_, h, q⟩ => by cases h; obtain ⟨xs, h1, q⟩ := q; cases h1; exact q, fun q => ⟨_, rfl, r, rfl, q⟩⟩
@[simp ↓] theorem e_list_t : fList [.tup r] M A = A (.own r) M := propext ⟨fun ⟨_, h, q⟩ => by cases h; exact q, fun q => ⟨_, rfl, q⟩⟩
@[simp ↓] theorem e_list_l : fList [.lst r] M A = A (.own r) M := propext ⟨fun ⟨_, h, q⟩ => by cases h; obtain ⟨xs, h1, q⟩ := q; cases h1; exact q, fun q => ⟨_, rfl, r, rfl, q⟩⟩
@[simp ↓] theorem e_min_i : fMin2 [.int a, .int b] M A = A (.d (.int (if b < a then b else a))) M := propext ⟨fun ⟨_, _, h, q⟩ => by cases h; exact q, fun q => ⟨_, _, rfl, q⟩⟩
@[simp ↓] theorem e_max_i : fMax2 [.int a, .int b] M A = A (.d (.int (if b > a then b else a))) M := propext ⟨fun ⟨_, _, h, q⟩ => by cases h; exact q, fun q => ⟨_, _, rfl, q⟩⟩
@[simp ↓] theorem e_sl_t {l h : Option Int} : fSl (.tup r) l h M A = A (.d (.tup (cutD r l h))) M := rfl
@[simp ↓] theorem e_sl_l {l h : Option Int} : fSl (.lst r) l h M A = A (.own (cutD r l h)) M := propext ⟨fun ⟨_, h1, q⟩ => by cases h1; exact q, fun q => ⟨r, rfl, q⟩⟩
@[simp ↓] theorem e_sl_k {l h : Option Int} : fSl (.lsk r) l h M A = A (.own (cutD r l h)) M := propext ⟨fun ⟨_, h1, q⟩ => by cases h1; exact q, fun q => ⟨r, rfl, q⟩⟩
/-! types -/
@[simp ↓] theorem e_isi_non {ty : Ty} : fIsi ty .non M k = k false := by cases ty <;> rfl
@[simp ↓] theorem e_isi_str {c : Str} {ty : Ty} : fIsi ty (.str c) M k = k (match ty with | .str => true | _ => false) := by cases ty <;> rfl
@[simp ↓] theorem e_isi_bl {c : Bool} {ty : Ty} : fIsi ty (.bl c) M k = k (match ty with | .bool => true | .int => true | _ => false) := by cases ty <;> rfl
@[simp ↓] theorem e_isi_int {ty : Ty} : fIsi ty (.int a) M k = k (match ty with | .int => true | _ => false) := by cases ty <;> rfl
@[simp ↓] theorem e_isi_tup {ty : Ty} : fIsi ty (.tup r) M k = k (match ty with | .tuple => true | _ => false) := by cases ty <;> rfl
@[simp ↓] theorem e_isi_lst {ty : Ty} : fIsi ty (.lst r) M k = k (match ty with | .list => true | _ => false) := by cases ty <;> rfl
end
end
/-! ### methods, kept exceptions, try -/
section
variable {δ : DS} {M : MH} {X : XP} {E : DEnds} {A : Sl → MH → Prop} {T : Bool → MH → Prop} {i : Nat} {t : DX} {r s : List D} {y d : D}
@[simp ↓] theorem ty_l : TyD "list" (.lst r) M = True := eq_true (.inl ⟨rfl, r, rfl⟩)
@[simp ↓] theorem ty_s {c : Str} : TyD "str" (.str c) M = True := eq_true (.inr ⟨rfl, c, rfl⟩)
theorem idx_at {j : Nat} {z : D} (o1 : D.Ok (.lst r)) (o2 : y.Ok) (h1 : r[j]? = some z) (h2 : D.eq z y = true) (h3 : ∀ (m : Nat) (z' : D), m < j → r[m]? = some z' → D.eq z' y = false) (q : A (.d (.int (j : Nat))) M) : fIdx (.lst r) [y] M A := ⟨r, y, j, z, rfl, rfl, o1, o2, h1, h2, h3, q⟩
@[simp ↓] theorem e_cnt : fCnt (.lst r) [y] M A = ((D.Ok (.lst r) ∧ y.Ok) ∧ A (.d (.int ((r.countP fun z => D.eq z y : Nat) : Int))) M) := propext ⟨fun ⟨_, _, h1, h2, o1, o2, q⟩ => by cases h1; cases h2; exact ⟨⟨o1, o2⟩, q⟩, fun ⟨⟨o1, o2⟩, q⟩ => ⟨r, y, rfl, rfl, o1, o2, q⟩⟩
def asX (o : MO) (k : Addr → List (Str × D) → Prop) : Prop := ∃ C fs, o = .exc C fs ∧ k C fs
@[simp ↓] theorem asX_x {C : Addr} {fs : List (Str × D)} {k : Addr → List (Str × D) → Prop} : asX (.exc C fs) k = k C fs := propext ⟨fun ⟨_, _, h, q⟩ => by cases h; exact q, fun q => ⟨C, fs, rfl, q⟩⟩
def rfK (d : D) (k : Addr → Prop) : Prop := ∃ a, d = .ref a ∧ k a
@[simp ↓] theorem rfK_r {a : Addr} {k : Addr → Prop} : rfK (.ref a) k = k a := propext ⟨fun ⟨_, h, q⟩ => by cases h; exact q, fun q => ⟨a, rfl, q⟩⟩
def fdK (fs : List (Str × D)) (f : Str) (k : D → Prop) : Prop := ∃ d, fs.lookup f = some d ∧ k d
@[simp ↓] theorem fdK_0 {f : Str} {fs : List (Str × D)} {k : D → Prop} : fdK ((f, d) :: fs) f k = k d := propext ⟨fun ⟨_, h, q⟩ => by rw [List.lookup_cons_self] at h; cases h; exact q, fun q => ⟨d, List.lookup_cons_self, q⟩⟩
@[simp ↓] theorem e_dXk {f : Str} {P : Addr → Prop} : dXk f P t δ M A X = t δ M (fun x M1 => rfK x fun a => lk M1 a fun o => asX o fun C fs => P C ∧ fdK fs f fun d => A (.d d) M1) X := by
  unfold dXk
  congr 1
  funext x M1
  exact propext ⟨fun ⟨a, C, fs, d, h1, h2, h3, h4, q⟩ => ⟨a, h1, _, h2, C, fs, rfl, h3, d, h4, q⟩, fun ⟨a, h1, _, h2, C, fs, e, h3, d, h4, q⟩ => ⟨a, C, fs, d, h1, by rw [h2, e], h3, h4, q⟩⟩
def kxK (P : Addr → Bool → Prop) (C : Addr) (k : Bool → Prop) : Prop := ∃ b, P C b ∧ k b
theorem kx_eq {K : PySem.W.Frag} {cv : Value} {C : Addr} {b : Bool} (h : IsxC K cv C b) (k : Bool → Prop) : kxK (IsxC K cv) C k = k b := propext ⟨fun ⟨b', h', q⟩ => by have e := h.2.symm.trans h'.2; cases e; exact q, fun q => ⟨b, h, q⟩⟩
@[simp ↓] theorem e_dIsX {P : Addr → Bool → Prop} : dIsX P t δ M T X = t δ M (fun x M1 => rfK x fun a => lk M1 a fun o => asX o fun C _ => kxK P C fun b => T b M1) X := by
  unfold dIsX
  congr 1
  funext x M1
  exact propext ⟨fun ⟨a, C, fs, b, h1, h2, h3, q⟩ => ⟨a, h1, _, h2, C, fs, rfl, b, h3, q⟩, fun ⟨a, h1, _, h2, C, fs, e, b, h3, q⟩ => ⟨a, C, fs, b, h1, by rw [h2, e], h3, q⟩⟩
@[simp ↓] theorem e_sTry {Sub : Addr → Prop} {t u : DP} : sTry Sub i t u E δ M = t { E with ex := tryX Sub i u E } δ M := rfl
@[simp ↓] theorem e_tryX {Sub : Addr → Prop} {u : DP} {C : Addr} {fs : List (Str × D)} : tryX Sub i u E C fs δ M = (Sub C ∧ ∀ a, M a = none → setK δ i (some (.d (.ref a))) fun δ' =>
    u (DEnds.mk (fun δ2 M2 => M2 a = none → setK δ2 i none fun δ3 => E.nx δ3 (mu M2 a (.exc C fs))) (fun _ _ => False) (fun _ _ => False) (fun _ _ => False) NoX) δ' M) := rfl
end
/-! ### what is walked -/
section
variable {δ : DS} {M : MH} {X : XP} {L : List D → MH → Prop} {i : Nat} {t : DX} {ta : DA} {r s : List D} {k : List D → Prop}
def itK (d : D) (k : List D → Prop) : Prop := ∃ xs, itemsOf d = some xs ∧ k xs
def rg1 (ds : List D) (k : List D → Prop) : Prop := ∃ j : Int, ds = [.int j] ∧ -(2 ^ 62) ≤ j ∧ j < 2 ^ 62 ∧ k (rgD 0 j.toNat)
def rg2 (ds : List D) (k : List D → Prop) : Prop := ∃ i j : Int, ds = [.int i, .int j] ∧ (-(2 ^ 62) ≤ i ∧ i < 2 ^ 62 ∧ -(2 ^ 62) ≤ j ∧ j < 2 ^ 62) ∧ k (rgD i (j - i).toNat)
def enK (ds : List D) (k : List D → Prop) : Prop := ∃ d xs, ds = [d] ∧ (d = .tup xs ∨ d = .lst xs) ∧ k (enD xs)
def zpK (ds : List D) (k : List D → Prop) : Prop := ∃ d d' xs ys, ds = [d, d'] ∧ ((d = .tup xs ∧ d' = .tup ys) ∨ (d = .lst xs ∧ d' = .lst ys)) ∧ k (zpD xs ys)
@[simp ↓] theorem e_sFor {it : DIt} {g : DG} {b : DP} {E : DEnds} : sFor it g b E δ M = it δ M (fun xs M' => forD g b E xs δ M') E.ex := rfl
@[simp ↓] theorem e_iAny : iAny t δ M L X = t δ M (fun d M' => itK d (fun xs => L xs M')) X := rfl
@[simp ↓] theorem e_iPk : iPk i δ M L X = pk δ i (fun s => itK s.fz (fun xs => L xs M)) := propext ⟨fun ⟨s, xs, h1, h2, q⟩ => ⟨s, h1, xs, h2, q⟩, fun ⟨s, h1, xs, h2, q⟩ => ⟨s, xs, h1, h2, q⟩⟩
@[simp ↓] theorem e_iRange1 : iRange1 ta δ M L X = ta δ M (fun ds M' => rg1 ds (fun xs => L xs M')) X := rfl
@[simp ↓] theorem e_iRange2 : iRange2 ta δ M L X = ta δ M (fun ds M' => rg2 ds (fun xs => L xs M')) X := rfl
@[simp ↓] theorem e_iEnumD : iEnumD ta δ M L X = ta δ M (fun ds M' => enK ds (fun xs => L xs M')) X := rfl
@[simp ↓] theorem e_iZipD : iZipD ta δ M L X = ta δ M (fun ds M' => zpK ds (fun xs => L xs M')) X := rfl
@[simp ↓] theorem itK_t : itK (.tup r) k = k r := propext ⟨fun ⟨_, h, q⟩ => by cases h; exact q, fun q => ⟨_, rfl, q⟩⟩
@[simp ↓] theorem itK_l : itK (.lst r) k = k r := propext ⟨fun ⟨_, h, q⟩ => by cases h; exact q, fun q => ⟨_, rfl, q⟩⟩
@[simp ↓] theorem itK_s {z : Str} : itK (.str z) k = k (sgD z) := propext ⟨fun ⟨_, h, q⟩ => by cases h; exact q, fun q => ⟨_, rfl, q⟩⟩
@[simp ↓] theorem rg1_i {j : Int} : rg1 [.int j] k = (-(2 ^ 62) ≤ j ∧ j < 2 ^ 62 ∧ k (rgD 0 j.toNat)) := propext ⟨fun ⟨_, h, q⟩ => by cases h; exact q, fun q => ⟨_, rfl, q⟩⟩
@[simp ↓] theorem rg2_i {i j : Int} : rg2 [.int i, .int j] k = ((-(2 ^ 62) ≤ i ∧ i < 2 ^ 62 ∧ -(2 ^ 62) ≤ j ∧ j < 2 ^ 62) ∧ k (rgD i (j - i).toNat)) := propext ⟨fun ⟨_, _, h, q⟩ => by cases h; exact q, fun q => ⟨_, _, rfl, q⟩⟩
@[simp ↓] theorem enK_t : enK [.tup r] k = k (enD r) := propext ⟨fun ⟨_, _, h, h2, q⟩ => by cases h; rcases h2 with h2 | h2 <;> cases h2; exact q, fun q => ⟨_, _, rfl, .inl rfl, q⟩⟩
@[simp ↓] theorem enK_l : enK [.lst r] k = k (enD r) := propext ⟨fun ⟨_, _, h, h2, q⟩ => by cases h; rcases h2 with h2 | h2 <;> cases h2; exact q, fun q => ⟨_, _, rfl, .inr rfl, q⟩⟩
@[simp ↓] theorem zpK_t : zpK [.tup r, .tup s] k = k (zpD r s) := propext ⟨fun ⟨_, _, _, _, h, h2, q⟩ => by cases h; rcases h2 with ⟨h2, h3⟩ | ⟨h2, h3⟩ <;> cases h2; cases h3; exact q, fun q => ⟨_, _, _, _, rfl, .inl ⟨rfl, rfl⟩, q⟩⟩
@[simp ↓] theorem zpK_l : zpK [.lst r, .lst s] k = k (zpD r s) := propext ⟨fun ⟨_, _, _, _, h, h2, q⟩ => by cases h; rcases h2 with ⟨h2, h3⟩ | ⟨h2, h3⟩ <;> cases h2; cases h3; exact q, fun q => ⟨_, _, _, _, rfl, .inr ⟨rfl, rfl⟩, q⟩⟩
end
/-- the pairs of enumerate, the ints of range, one by one -/
def enF : Nat → List D → List D
  | _, [] => []
  | k, x :: r => .tup [.int (k : Nat), x] :: enF (k + 1) r
theorem enF_get : ∀ (xs : List D) (k i : Nat), (enF k xs)[i]? = (xs[i]?).map fun x => .tup [.int ((k + i : Nat) : Int), x]
  | [], _, _ => by simp [enF]
  | x :: r, k, 0 => by simp [enF]
  | x :: r, k, i + 1 => by
    have e : k + 1 + i = k + (i + 1) := by omega
    simp only [enF, List.getElem?_cons_succ, enF_get r (k + 1) i, e]
theorem enD_enF (xs : List D) : enD xs = enF 0 xs := by
  refine List.ext_getElem? fun i => ?_
  rw [enF_get]
  cases h : xs[i]? with
  | none =>
    have : xs.length ≤ i := by simpa using h
    rw [List.getElem?_eq_none (by rw [enD_len]; exact this)]
    rfl
  | some d =>
    rw [enD_get h]
    simp
theorem rgD_zero {lo : Int} : rgD lo 0 = [] := rfl
theorem rgD_succ {lo : Int} {n : Nat} : rgD lo (n + 1) = .int lo :: rgD (lo + 1) n := by
  unfold rgD
  rw [List.range_succ_eq_map, List.map_cons, List.map_map]
  congr 1
  · simp
  · refine List.map_congr_left fun i _ => ?_
    show D.int (lo + ((i + 1 : Nat) : Int)) = D.int (lo + 1 + (i : Nat))
    congr 1
    push_cast
    omega
/-! ### loops -/
@[simp ↓] theorem forD_nil {g : DG} {b : DP} {E : DEnds} {δ : DS} {M : MH} : forD g b E [] δ M = E.nx δ M := rfl
@[simp ↓] theorem forD_cons {g : DG} {b : DP} {E : DEnds} {x : D} {r : List D} {δ : DS} {M : MH} : forD g b E (x :: r) δ M = g x δ M fun δ' M' => b { E with nx := forD g b E r, ct := forD g b E r, bk := E.nx } δ' M' := rfl
@[simp] theorem enF_nil {k : Nat} : enF k [] = [] := rfl
@[simp] theorem enF_cons {k : Nat} {x : D} {r : List D} : enF k (x :: r) = .tup [.int (k : Nat), x] :: enF (k + 1) r := rfl
def wpK (δ : DS) (vs : List Nat) (k : DS → Prop) : Prop := k (wipeD δ vs)
@[simp ↓] theorem wpK_nil {δ : DS} {k : DS → Prop} : wpK δ [] k = k δ := rfl
@[simp ↓] theorem wpK_cons {δ : DS} {v : Nat} {vs : List Nat} {k : DS → Prop} : wpK δ (v :: vs) k = wpK δ vs (fun δ' => setK δ' v none k) := rfl
@[simp ↓] theorem e_dLc {it : DIt} {g : DG} {tt : DT} {te : DX} {vs : List Nat} {δ : DS} {M : MH} {A : Sl → MH → Prop} {X : XP} : dLc it g tt te vs δ M A X = (NoOwn δ vs ∧ it δ M (fun xs M1 => lcD g tt te vs δ (fun acc M2 => A (.own acc) M2) xs [] M1) X) := rfl
/-- a comprehension by what holds ahead of each turn -/
theorem lcD_ind {g : DG} {tt : DT} {te : DX} {vs : List Nat} {δ : DS} {Q : List D → MH → Prop} (I : List D → List D → MH → Prop) (h0 : ∀ acc M, I [] acc M → Q acc M)
    (hs : ∀ x r acc M, I (x :: r) acc M → (∀ acc' M', I r acc' M' → lcD g tt te vs δ Q r acc' M') →
      wpK δ vs fun δ0 => g x δ0 M fun δ2 M2 => tt δ2 M2 (fun b M3 => tif b (te δ2 M3 (fun y M4 => acc.length < sizeLine ∧ lcD g tt te vs δ Q r (acc ++ [y]) M4) NoX) (lcD g tt te vs δ Q r acc M3)) NoX) :
    ∀ (xs acc : List D) (M : MH), I xs acc M → lcD g tt te vs δ Q xs acc M
  | [], acc, M, h => h0 acc M h
  | x :: r, acc, M, h => hs x r acc M h (lcD_ind I h0 hs r)
@[simp ↓] theorem e_sWhile {c : DT} {b : DP} {E : DEnds} {δ : DS} {M : MH} : sWhile c b E δ M = ∃ n, whD c b E n δ M := rfl
/-- a while by what holds ahead of each turn, at most n more of them -/
theorem whD_ind {c : DT} {b : DP} {E : DEnds} (I : Nat → DS → MH → Prop)
    (hs : ∀ n δ M (V : DS → MH → Prop), I n δ M → (∀ m δ' M', n = m + 1 → I m δ' M' → V δ' M') → c δ M (fun v M1 => tif v (b { E with nx := V, ct := V, bk := E.nx } δ M1) (E.nx δ M1)) E.ex) :
    ∀ (n : Nat) (δ : DS) (M : MH), I n δ M → whD c b E (n + 1) δ M
  | 0, δ, M, h => hs 0 δ M (whD c b E 0) h fun _ _ _ e => by omega
  | n + 1, δ, M, h => hs (n + 1) δ M (whD c b E (n + 1)) h fun m δ' M' e h' => by
    have : m = n := by omega
    subst this
    exact whD_ind I hs m δ' M' h'
/-- a comprehension that keeps p's items, each as f -/
theorem lcD_pure {g : DG} {tt : DT} {te : DX} {vs : List Nat} {δ : DS} {Q : List D → MH → Prop} (p : D → Bool) (f : D → D) {M : MH} : ∀ (xs acc : List D),
    (∀ x ∈ xs, ∀ (Y : D → MH → Prop) (N : MH → Prop), (if p x = true then Y (f x) M else N M) → wpK δ vs fun δ0 => g x δ0 M fun δ2 M2 => tt δ2 M2 (fun b M3 => tif b (te δ2 M3 Y NoX) (N M3)) NoX) →
    acc.length + xs.length ≤ 16777216 → Q (acc ++ (xs.filter p).map f) M → lcD g tt te vs δ Q xs acc M
  | [], acc, _, _, q => by
    show Q acc M
    simpa using q
  | x :: r, acc, h, hl, q => by
    have hz := sizeLine_eq
    simp only [List.length_cons] at hl
    refine h x (List.mem_cons_self ..) _ _ ?_
    cases hp : p x with
    | true =>
      rw [if_pos rfl]
      rw [List.filter_cons_of_pos hp, List.map_cons] at q
      exact ⟨by omega, lcD_pure p f r (acc ++ [f x]) (fun y hy => h y (List.mem_cons_of_mem _ hy)) (by simp; omega) (by simpa using q)⟩
    | false =>
      rw [if_neg (by decide)]
      rw [List.filter_cons_of_neg (by simp [hp])] at q
      exact lcD_pure p f r acc (fun y hy => h y (List.mem_cons_of_mem _ hy)) (by omega) q
/-- a walk by what holds ahead of each turn -/
theorem forD_ind {g : DG} {b : DP} {E : DEnds} (I : List D → DS → MH → Prop) (h0 : ∀ δ M, I [] δ M → E.nx δ M)
    (hs : ∀ x r δ M, I (x :: r) δ M → (∀ δ' M', I r δ' M' → forD g b E r δ' M') → g x δ M fun δ' M' => b { E with nx := forD g b E r, ct := forD g b E r, bk := E.nx } δ' M') :
    ∀ (xs : List D) (δ : DS) (M : MH), I xs δ M → forD g b E xs δ M
  | [], δ, M, h => h0 δ M h
  | x :: r, δ, M, h => hs x r δ M h (forD_ind I h0 hs r)
end DL

set_option Elab.async false
set_option linter.all false
set_option maxRecDepth 100000
set_option maxHeartbeats 2000000
namespace DL
open PySem PySem.Spec PyProof.Rows L2
/-! ### texts -/
/-- a.join(e) -/
def fJn (x y : D) (M : MH) (Q : Sl → MH → Prop) : Prop := ∃ (a : Str) (ys : List Str), x = .str a ∧ (y = .tup (ys.map D.str) ∨ seqOf M y = some (ys.map D.str)) ∧ (ys.map (·.length)).sum + ys.length * a.length ≤ 16777216 ∧ Q (.d (.str (Txt.join a ys))) M
def dJn (to te : DX) : DE := fun δ M Q E => to δ M (fun x M1 => (∃ a, x = .str a) ∧ te δ M1 (fun y M2 => fJn x y M2 Q) E) E
section
variable {X : Cx} {G : Gd} {W : WX} {o e : Expr} {apos pos : Pos} {to te : DX}
theorem d_join (hk : X.K = G.K) (ho : PE X o (LO G W to)) (he : PE X e (LO G W te)) (hs : starEach [e] X.env = [(false, eval e X.env)] := by rfl) (hbase : attributeBase o "join" X.env (eval o X.env) = eval o X.env := by rfl) (hline : (apos.endLine == pos.line) = true := by rfl) :
    PE X (.Call (.Attribute o "join" apos) [e] [] pos) (LE G W (dJn to te)) :=
  pe_imp (pe_join ho he hs hbase hline) fun σ H Q ⟨F, δ, M, Qd, Ed, rep, q, k, x⟩ => ⟨F, δ, M, _, Ed, rep, q, fun d v F1 M1 H1 r1 e1 o1 ⟨⟨a, ha⟩, q1⟩ => by
    subst ha
    obtain rfl := opn_str o1
    refine ⟨⟨a, rfl⟩, F1, δ, M1, _, Ed, r1, q1, fun y u F2 M2 H2 r2 e2 o2 ⟨a', ys, h1, h2, h3, q2⟩ => ?_, x⟩
    cases h1
    have fin := k (.d (.str (Txt.join a ys))) _ F2 M2 H2 r2 (e1.trans e2) (R.str _) q2
    rw [hk]
    rcases h2 with rfl | h2
    · obtain ⟨p, vs, rfl, h4, h5⟩ := o2.tup r2
      obtain rfl := h5.strs
      exact ⟨a, p, ys, rfl, rfl, .inr h4, h3, fin⟩
    · obtain ⟨p, vs, rfl, h4, h5⟩ := seqOf_at r2 o2 h2
      obtain rfl := h5.strs
      exact ⟨a, p, ys, rfl, rfl, .inl h4, h3, fin⟩, x⟩
end
/-! texts by their signs -/
def tx (l : List Nat) : Str := ⟨l.toArray⟩
theorem tx_self (s : Str) : tx s.cps.toList = s := by cases s; simp [tx]
theorem tx_cps (l : List Nat) : (tx l).cps.toList = l := by simp [tx]
theorem tx_len (l : List Nat) : (tx l).length = l.length := by simp [tx, Str.length]
theorem tx_app (a b : List Nat) : tx a ++ tx b = tx (a ++ b) := by
  show (⟨a.toArray ++ b.toArray⟩ : Str) = ⟨(a ++ b).toArray⟩
  simp
theorem tx_inj {a b : List Nat} (h : tx a = tx b) : a = b := by
  have := congrArg (fun s : Str => s.cps.toList) h
  simpa [tx] using this
def cutA {α : Type} (l : List α) (lo hi : Option Int) : List α := (l.drop (HT.sIx l.length 0 lo)).take (HT.sIx l.length l.length hi - HT.sIx l.length 0 lo)
theorem cutS_tx (l : List Nat) (lo hi : Option Int) : cutS (tx l) lo hi = tx (cutA l lo hi) := by
  unfold cutS cutA
  rw [tx_len, tx_cps]
  rfl
theorem sIx_pos {n d : Nat} {i : Int} (h : 0 ≤ i) : HT.sIx n d (some i) = min i.toNat n := by
  show (if i < 0 then _ else _) = _
  rw [if_neg (by omega)]
theorem cutA_to {α : Type} {l : List α} {i : Int} (h : 0 ≤ i) : cutA l none (some i) = l.take i.toNat := by
  unfold cutA
  rw [sIx_pos h]
  show (l.drop 0).take (min i.toNat l.length - 0) = _
  rw [List.drop_zero, Nat.sub_zero]
  by_cases hl : i.toNat ≤ l.length
  · rw [Nat.min_eq_left hl]
  · rw [Nat.min_eq_right (by omega), List.take_length, List.take_of_length_le (by omega)]
theorem cutA_from {α : Type} {l : List α} {i : Int} (h : 0 ≤ i) : cutA l (some i) none = l.drop i.toNat := by
  unfold cutA
  rw [sIx_pos h]
  show (l.drop (min i.toNat l.length)).take (l.length - min i.toNat l.length) = _
  rw [List.take_of_length_le (by rw [List.length_drop]; omega)]
  by_cases hl : i.toNat ≤ l.length
  · rw [Nat.min_eq_left hl]
  · rw [Nat.min_eq_right (by omega), List.drop_length, List.drop_of_length_le (by omega)]
theorem cutD_A (l : List D) (lo hi : Option Int) : DL.cutD l lo hi = cutA l lo hi := rfl
theorem cutD_to {l : List D} {i : Int} (h : 0 ≤ i) : DL.cutD l none (some i) = l.take i.toNat := cutA_to h
theorem cutD_from {l : List D} {i : Int} (h : 0 ≤ i) : DL.cutD l (some i) none = l.drop i.toNat := cutA_from h
theorem cutA_len {α : Type} {l : List α} {lo hi : Option Int} : (cutA l lo hi).length ≤ l.length := by
  unfold cutA
  simp only [List.length_take, List.length_drop]
  omega
theorem cutA_mem {α : Type} {l : List α} {lo hi : Option Int} {x : α} (h : x ∈ cutA l lo hi) : x ∈ l := List.mem_of_mem_drop (List.mem_of_mem_take h)
theorem join_ones (cs : List Nat) : Txt.join (Str.ofString "") (cs.map fun c => (⟨#[c]⟩ : Str)) = tx cs := by
  rw [TL.join_eq]
  have e : Str.ofString "" = Str.empty := by decide +kernel
  rw [e]
  have one : ∀ c : Nat, (⟨#[c]⟩ : Str) = tx [c] := fun c => rfl
  induction cs with
  | nil => rfl
  | cons c r ih =>
    cases r with
    | nil => rfl
    | cons d r =>
      show (⟨#[c]⟩ : Str) ++ Str.empty ++ Str.join Str.empty ((⟨#[d]⟩ : Str) :: r.map fun c => (⟨#[c]⟩ : Str)) = _
      rw [show Str.join Str.empty ((⟨#[d]⟩ : Str) :: r.map fun c => (⟨#[c]⟩ : Str)) = tx (d :: r) from ih, one, show Str.empty = tx [] from rfl, tx_app, tx_app]
      rfl
theorem join_ones_len (cs : List Nat) : ((cs.map fun c => (⟨#[c]⟩ : Str)).map (·.length)).sum = cs.length := by
  induction cs with
  | nil => rfl
  | cons c r ih => simp only [List.map_cons, List.sum_cons, List.length_cons, ih]; show 1 + r.length = _; omega
/-! data whose texts are short -/
mutual
def D.fit : D → Bool
  | .ref _ => false
  | .lsk _ => false
  | .str s => PyData.strOk s && decide (s.length ≤ 1000)
  | .tup ds => D.fits ds
  | .lst ds => D.fits ds
  | _ => true
def D.fits : List D → Bool
  | [] => true
  | d :: ds => D.fit d && D.fits ds
end
mutual
theorem fit_nr : ∀ d : D, D.fit d = true → D.nr d = true
  | .non, _ => by simp [D.nr]
  | .bl _, _ => by simp [D.nr]
  | .int _, _ => by simp [D.nr]
  | .ref _, h => by simp [D.fit] at h
  | .lsk _, h => by simp [D.fit] at h
  | .str s, h => by simp [D.fit] at h; simp [D.nr, h.1]
  | .tup ds, h => by simp only [D.nr]; exact fits_nrs ds (by simpa [D.fit] using h)
  | .lst ds, h => by simp only [D.nr]; exact fits_nrs ds (by simpa [D.fit] using h)
theorem fits_nrs : ∀ ds : List D, D.fits ds = true → D.nrs ds = true
  | [], _ => by simp [D.nrs]
  | d :: ds, h => by
    have h' : D.fit d = true ∧ D.fits ds = true := by simpa [D.fits] using h
    simp [D.nrs, fit_nr d h'.1, fits_nrs ds h'.2]
end
theorem fits_iff : ∀ {xs : List D}, D.fits xs = true ↔ ∀ x ∈ xs, x.fit = true
  | [] => by simp [D.fits]
  | x :: xs => by simp [D.fits, fits_iff (xs := xs)]
theorem nrs_iff : ∀ {xs : List D}, D.nrs xs = true ↔ ∀ x ∈ xs, x.nr = true
  | [] => by simp [D.nrs]
  | x :: xs => by simp [D.nrs, nrs_iff (xs := xs)]
theorem dps_le {n : Nat} : ∀ {xs : List D}, D.dps xs ≤ n ↔ ∀ x ∈ xs, x.dp ≤ n
  | [] => by simp [D.dps]
  | x :: xs => by
    have := dps_le (n := n) (xs := xs)
    simp only [D.dps, List.mem_cons, forall_eq_or_imp, ← this]
    omega
theorem fit_tup {xs : List D} : D.fit (.tup xs) = true ↔ ∀ x ∈ xs, x.fit = true := by simp only [D.fit]; exact fits_iff
theorem fit_lst {xs : List D} : D.fit (.lst xs) = true ↔ ∀ x ∈ xs, x.fit = true := by simp only [D.fit]; exact fits_iff
theorem fit_str {s : Str} : D.fit (.str s) = true ↔ PyData.strOk s = true ∧ s.length ≤ 1000 := by simp [D.fit]
theorem flat_dp {d : D} (h : flatD d = true) : d.dp = 0 := by cases d <;> first | (simp [D.dp]; done) | cases h
theorem flat_ok {d : D} (h : flatD d = true) (hn : d.nr = true) : d.Ok := ⟨hn, by rw [flat_dp h]; decide⟩
theorem eq_self {d : D} (h : d.nr = true) : D.eq d d = true := PySem.SeqAt.eqv_refl d.toP (by rw [lay_toP]; exact h)
section
variable {δ : DS} {M : MH} {X : XP} {A : Sl → MH → Prop} {t u : DX} {k : Bool → Prop} {a b : Str} {r : List D}
@[simp ↓] theorem e_eq_s : fEq (.str a) (.str b) M k = ((PyData.strOk a = true ∧ PyData.strOk b = true) ∧ k (decide (a = b))) := by
  have e : D.eq (.str a) (.str b) = decide (a = b) := by
    simp only [D.eq, D.toP, PyData.eqv]
    by_cases h : a = b <;> simp [h]
  have o : ∀ s : Str, D.Ok (.str s) ↔ PyData.strOk s = true := fun s => ⟨fun h => by have := h.1; simpa [D.nr] using this, fun h => ⟨by simpa [D.nr] using h, by simp [D.dp]⟩⟩
  unfold fEq
  rw [e]
  exact propext ⟨fun ⟨h1, h2, q⟩ => ⟨⟨(o _).mp h1, (o _).mp h2⟩, q⟩, fun ⟨⟨h1, h2⟩, q⟩ => ⟨(o _).mpr h1, (o _).mpr h2, q⟩⟩
theorem all_l {bs : List Bool} (h : r = bs.map D.bl) : fAll [.lst r] M A = A (.d (.bl (bs.all id))) M := by
  subst h
  refine propext ⟨fun ⟨d, cs, h1, h2, q⟩ => ?_, fun q => ⟨_, bs, rfl, rfl, q⟩⟩
  cases h1
  have e : bs.map D.bl = cs.map D.bl := Option.some.inj h2
  have e' : bs = cs := by
    have := congrArg (List.map fun d => match d with | D.bl s => s | _ => false) e
    simpa [Function.comp_def] using this
  subst e'
  exact q
theorem eq_nilT : D.eq (.tup r) (.tup []) = r.isEmpty := by cases r <;> simp [D.eq, D.toP, D.toPs, PyData.eqv, PyData.eqvAll]
theorem eq_nilL : D.eq (.lst r) (.lst []) = r.isEmpty := by cases r <;> simp [D.eq, D.toP, D.toPs, PyData.eqv, PyData.eqvAll]
theorem ok_flatL (h : ∀ x ∈ r, flatD x = true ∧ x.nr = true) : D.Ok (.lst r) :=
  ⟨by simp only [D.nr]; exact nrs_iff.mpr fun x hx => (h x hx).2, by simp only [D.dp]; have := (dps_le (n := 0)).mpr fun x hx => Nat.le_of_eq (flat_dp (h x hx).1); omega⟩
theorem ok_nilL : D.Ok (.lst []) := ok_flatL fun x hx => by cases hx
theorem ok_nilT : D.Ok (.tup []) := ⟨by simp [D.nr, D.nrs], by simp [D.dp, D.dps]⟩
@[simp ↓] theorem e_int_i {i : Int} : fInt [.int i] M A = A (.d (.int i)) M := propext ⟨fun ⟨_, h, q⟩ => by cases h; exact q, fun q => ⟨_, rfl, q⟩⟩
@[simp ↓] theorem e_int_b {c : Bool} : fInt [.bl c] M A = A (.d (.int (if c = true then 1 else 0))) M := propext ⟨fun ⟨_, h, q⟩ => by cases h; exact q, fun q => ⟨_, rfl, q⟩⟩
theorem ne_of {x y : D} (h1 : x.Ok) (h2 : y.Ok) : fNe x y M k = k (!D.eq x y) := propext ⟨fun h => h.2.2, fun h => ⟨h1, h2, h⟩⟩
theorem eq_of {x y : D} (h1 : x.Ok) (h2 : y.Ok) : fEq x y M k = k (D.eq x y) := propext ⟨fun h => h.2.2, fun h => ⟨h1, h2, h⟩⟩
theorem eq_str {s : Str} {a : D} (h : ∀ z, a ≠ .str z) : D.eq (.str s) a = false := by
  cases a <;> first | (simp [D.eq, D.toP, PyData.eqv]; done) | exact absurd rfl (h _)
@[simp ↓] theorem e_dJn : dJn t u δ M A X = t δ M (fun x M1 => (∃ a, x = .str a) ∧ u δ M1 (fun y M2 => fJn x y M2 A) X) X := rfl
theorem jn_l {ys : List Str} (h : r = ys.map D.str) : fJn (.str a) (.lst r) M A = ((ys.map (·.length)).sum + ys.length * a.length ≤ 16777216 ∧ A (.d (.str (Txt.join a ys))) M) := by
  subst h
  refine propext ⟨fun ⟨_, zs, h1, h2, h3, q⟩ => ?_, fun ⟨h, q⟩ => ⟨a, ys, rfl, .inr rfl, h, q⟩⟩
  cases h1
  rcases h2 with h2 | h2
  · cases h2
  · have e : ys.map D.str = zs.map D.str := Option.some.inj h2
    have e' : ys = zs := by
      have := congrArg (List.map fun d => match d with | D.str s => s | _ => Str.empty) e
      simpa [Function.comp_def] using this
    subst e'
    exact ⟨h3, q⟩
def chI (z : Str) (i : Int) (k : Nat → Prop) : Prop := ∃ c, atI z.cps.toList i = some c ∧ k c
@[simp ↓] theorem e_ix_s {i : Int} : fIx (.str a) (.int i) M A = (a.length ≤ sizeLine ∧ chI a i (fun c => A (.d (.str ⟨#[c]⟩)) M)) := propext
  ⟨fun ⟨_, h, q⟩ => by cases h; exact q, fun q => ⟨i, rfl, q⟩⟩
theorem chI_at {i : Int} {k : Nat → Prop} {c : Nat} (h0 : 0 ≤ i) (h : a.cps.toList[i.toNat]? = some c) : chI a i k = k c := by
  have hl : i.toNat < a.cps.toList.length := lt_of_get h
  have e : atI a.cps.toList i = some c := by
    unfold atI ixN
    rw [if_pos h0, if_pos (by omega)]
    exact h
  exact propext ⟨fun ⟨_, h', q⟩ => by rw [e] at h'; cases h'; exact q, fun q => ⟨c, e, q⟩⟩
theorem chI_mem {i : Int} {k : Nat → Prop} (h0 : 0 ≤ i) (h1 : i < a.length) (h : ∀ c ∈ a.cps.toList, k c) : chI a i k := by
  have hl : i.toNat < a.cps.toList.length := by
    have : a.length = a.cps.toList.length := by simp [Str.length]
    omega
  rw [chI_at h0 (List.getElem?_eq_getElem hl)]
  exact h _ (List.getElem_mem hl)
@[simp ↓] theorem e_in_s {c : Nat} : fIn (.str ⟨#[c]⟩) (.str a) M k = k (decide (c ∈ a.cps.toList)) := propext
  ⟨fun ⟨c', h, q⟩ => by cases h; exact q, fun q => ⟨c, rfl, q⟩⟩
@[simp ↓] theorem e_notIn_s {c : Nat} : fNotIn (.str ⟨#[c]⟩) (.str a) M k = k (!decide (c ∈ a.cps.toList)) := propext
  ⟨fun ⟨c', h, q⟩ => by cases h; exact q, fun q => ⟨c, rfl, q⟩⟩
@[simp ↓] theorem e_sl_s {l h : Option Int} : fSl (.str a) l h M A = (a.length ≤ sizeLine ∧ A (.d (.str (cutS a l h))) M) := rfl
theorem eq_ss : D.eq (.str a) (.str b) = decide (a = b) := by
  simp only [D.eq, D.toP, PyData.eqv]
  by_cases h : a = b <;> simp [h]
theorem eq_bb' {c e : Bool} : D.eq (.bl c) (.bl e) = (c == e) := eq_bb
end
end DL

set_option Elab.async false
set_option linter.all false
set_option maxRecDepth 100000
set_option maxHeartbeats 2000000
namespace DL
open PySem PySem.Spec PyProof.Rows L2
def spMix : SpD := fun ds M Q E => ∃ n t : Int, ds = [.int n, .int t] ∧ 0 ≤ t ∧ t < 2 ^ 63 ∧ ∀ r : Int, 0 ≤ r → Q (.d (.int r)) M
def tdMix : DP := (sSeq (sAsg (dBin fMod (dFz (dBin fAdd (dFz (dBin fAdd (dFz (dBin fAdd (dFz (dBin fMod (oPeek 0) (vC (.int 2147483629)))) (dFz (dBin fMul (dFz (dBin fMul (vC (.int 7919)) (oPeek 1))) (oPeek 1))))) (dFz (dBin fMul (vC (.int 104729)) (oPeek 1))))) (vC (.int 13)))) (vC (.int 2147483629))) 2) (sSeq (sAsg (dBin fMod (dFz (dBin fMul (dFz (dBin fMod (dFz (dBin fMul (oPeek 2) (oPeek 2))) (vC (.int 2147483587)))) (oPeek 2))) (vC (.int 2147483563))) 2) (sRet (dBin fDiv (dFz (dBin fMod (dFz (dBin fAdd (dFz (dBin fMul (oPeek 2) (vC (.int 40692)))) (oPeek 1))) (vC (.int 2147483399)))) (vC (.int 16))))))
theorem rd_mix : ∀ ds M Q E, spMix ds M Q E → tdMix (endsD Q E) (startD ["number", "turn", "value"] ds) M := by
  rintro ds M Q E ⟨n, t, rfl, h0, h1, k⟩
  show tdMix (endsD Q E) [some (.d (.int n)), some (.d (.int t)), none] M
  simp only [tdMix]
  simp
  generalize (n % 2147483629 + 7919 * t * t + 104729 * t + 13) = u
  have e : ∀ v m : Int, 0 < m → 0 ≤ v % m ∧ v % m < m := fun v m h => ⟨Int.emod_nonneg _ (by omega), Int.emod_lt_of_pos _ h⟩
  have c1 : ∀ i j : Int, 0 ≤ i ∧ i < 2147483629 → CMul i j ∨ CMulW i j := fun i j h => .inl (.inl (by omega))
  have c2 : ∀ i j : Int, 0 ≤ j ∧ j < 2147483629 → CMul i j ∨ CMulW i j := fun i j h => .inl (.inr (by omega))
  refine ⟨c1 _ _ (by omega), .inl (.inr (by omega)), c1 _ _ (by omega), c1 _ _ (e _ _ (by omega)), c2 _ _ (e _ _ (by omega)), c2 _ _ (by omega), k _ ?_⟩
  have := (e (u % 2147483629 * (u % 2147483629) % 2147483587 * (u % 2147483629) % 2147483563 * 40692 + t) 2147483399 (by omega)).1
  omega
def StoreAt (M : MH) (a : Addr) (n : Nat) : Prop := ∃ (cs : List Int) (i l m d : Int), M a = some (.lst [.lst (cs.map D.int), .int i, .int l, .int m, .int d]) ∧ 0 ≤ i ∧ 0 ≤ l ∧ 0 ≤ d ∧ d ≤ n
def spPick : SpD := fun ds M Q E => ∃ (a : Addr) (c : Int) (n : Nat), ds = [.ref a, .int c] ∧ StoreAt M a n ∧ 0 < c ∧ c < 1073741824 ∧ n < 2 ^ 62 ∧ ∀ r M', 0 ≤ r → r < c → StoreAt M' a (n + 1) → (∀ b, b ≠ a → M' b = M b) → Q (.d (.int r)) M'
def tdPick : DP := (sSeq (sSetM (dFz (dBin fAdd (dFz (dBin fIx (oPeek 0) (vC (.int 4)))) (vC (.int 1)))) (vVar 0) (vC (.int 4))) (sSeq (sIf (tdAnd (dCmp fEq (dFz (dBin fIx (oPeek 0) (vC (.int 2)))) (vC (.int 0))) (dCmp fLt (dFz (dBin fIx (oPeek 0) (vC (.int 1)))) (dFz (dCB fLen (aCons (dFz (dBin fIx (oPeek 0) (vC (.int 0)))) aNil))))) (sSeq (sAsg (dBin fIx (dFz (dBin fIx (oPeek 0) (vC (.int 0)))) (dFz (dBin fIx (oPeek 0) (vC (.int 1))))) 2) (sSeq (sSetM (dFz (dBin fAdd (dFz (dBin fIx (oPeek 0) (vC (.int 1)))) (vC (.int 1)))) (vVar 0) (vC (.int 1))) (sSeq (sIf (dCmp fLt (oPeek 2) (dFz (dBin fPow (vC (.int 10)) (vC (.int 18))))) (sRet (dBin fMod (dFz (dCall (spMix) (aCons (vVar 2) (aCons (dFz (dBin fIx (oPeek 0) (vC (.int 4)))) aNil)))) (oPeek 1))) sNext) (sSetM (vVar 2) (vVar 0) (vC (.int 2)))))) sNext) (sSeq (sIf (dCmp fGt (dFz (dBin fIx (oPeek 0) (vC (.int 2)))) (vC (.int 0))) (sSeq (sAsg (dBin fMod (dFz (dBin fIx (oPeek 0) (vC (.int 2)))) (oPeek 1)) 3) (sSeq (sSetM (dFz (dBin fDiv (dFz (dBin fIx (oPeek 0) (vC (.int 2)))) (oPeek 1))) (vVar 0) (vC (.int 2))) (sRetV 3))) sNext) (sRet (dBin fMod (dFz (dCall (spMix) (aCons (dFz (dBin fIx (oPeek 0) (vC (.int 3)))) (aCons (dFz (dBin fIx (oPeek 0) (vC (.int 4)))) aNil)))) (oPeek 1))))))
theorem spMix_eq {n t : Int} {M : MH} {Q : Sl → MH → Prop} {E : Addr → List (Str × D) → MH → Prop} : spMix [.int n, .int t] M Q E = (0 ≤ t ∧ t < 2 ^ 63 ∧ ∀ r : Int, 0 ≤ r → Q (.d (.int r)) M) :=
  propext ⟨fun ⟨_, _, h, q⟩ => by cases h; exact q, fun q => ⟨n, t, rfl, q⟩⟩
theorem rd_pick : ∀ ds M Q E, spPick ds M Q E → tdPick (endsD Q E) (startD ["store", "count", "cell", "digit"] ds) M := by
  rintro ds M Q E ⟨a, c, n, rfl, ⟨cs, i, l, m, d, hM, hi, hl, hd, hn⟩, h1, h2, h3, k⟩
  show tdPick (endsD Q E) [some (.d (.ref a)), some (.d (.int c)), none, none] M
  have hM := lk_at hM
  have fin : ∀ (r i' l' : Int), 0 ≤ r → r < c → 0 ≤ i' → 0 ≤ l' → Q (.d (.int r)) (mu M a (.lst [.lst (cs.map D.int), .int i', .int l', .int m, .int (d + 1)])) := fun r i' l' g1 g2 g3 g4 =>
    k r _ g1 g2 ⟨cs, i', l', m, d + 1, mu_same, g3, g4, by omega, by push_cast; omega⟩ fun b hb => mu_ne hb
  have md : ∀ r : Int, 0 ≤ r % c ∧ r % c < c := fun r => ⟨Int.emod_nonneg _ (by omega), Int.emod_lt_of_pos _ h1⟩
  have dv : ∀ r : Int, 0 ≤ r → 0 ≤ r / c := fun r h => Int.ediv_nonneg h (by omega)
  have p18 : CPow 10 18 := by unfold CPow; decide
  have hu : 0 ≤ d + 1 ∧ d + 1 < 9223372036854775808 := by omega
  by_cases c1 : l = 0
  · subst c1
    by_cases c2 : i < cs.length
    · simp [tdPick, ↓hM, ↓spMix_eq, ↓ixI_int hi c2, c2]
      generalize cs.getD i.toNat 0 = z
      refine ⟨p18, ?_⟩
      split
      · exact ⟨hu.1, hu.2, fun r hr => ⟨h1, fin _ _ _ (md r).1 (md r).2 (by omega) (by omega)⟩⟩
      · rw [if_pos (by omega)]
        exact ⟨h1, ⟨h1, .inl h2⟩, fin _ _ _ (md _).1 (md _).2 (by omega) (dv _ (by omega))⟩
    · simp [tdPick, ↓hM, ↓spMix_eq, c2]
      exact ⟨hu.1, hu.2, fun r hr => ⟨h1, fin _ _ _ (md r).1 (md r).2 (by omega) (by omega)⟩⟩
  · have c3 : 0 < l := by omega
    simp [tdPick, ↓hM, ↓spMix_eq, c1, c3]
    exact ⟨h1, ⟨h1, .inl h2⟩, fin _ _ _ (md _).1 (md _).2 (by omega) (dv _ (by omega))⟩
/-- the store of a script: what is drawn is not looked at -/
def spStore : SpD := fun ds M Q E => ∃ ns : List Int, ds = [.lsk (ns.map D.int)] ∧ ns.length ≤ 63 ∧ ∀ (cs : List Int) (m : Int), Q (.own [.lst (cs.map D.int), .int 0, .int 0, .int m, .int 0]) M
def tdStore : DP := (sSeq (sAsg (dCB fLen (aCons (oPeek 0) aNil)) 1) (sSeq (sFor (iAny (dFz (dSl fSl (oPeek 0) pNone (pSome (dC (.int 63)))))) (gN 2) (sAsg (dBin fMod (dFz (dBin fAdd (dFz (dBin fAdd (dFz (dBin fMul (oPeek 1) (vC (.int 16807)))) (dFz (dBin fMod (oPeek 2) (vC (.int 1000000007)))))) (vC (.int 11)))) (vC (.int 2147483629))) 1)) (sRet (dLst (aCons (dFz (dSl fSl (oPeek 0) pNone (pSome (dC (.int 63))))) (aCons (vC (.int 0)) (aCons (vC (.int 0)) (aCons (vVar 1) (aCons (vC (.int 0)) aNil)))))))))
theorem cut_ints (ns : List Int) (lo hi : Option Int) : ∃ cs : List Int, cutD (ns.map D.int) lo hi = cs.map D.int :=
  ⟨_, by unfold cutD; rw [← List.map_drop, ← List.map_take]⟩
theorem rd_store : ∀ ds M Q E, spStore ds M Q E → tdStore (endsD Q E) (startD ["script", "mixed", "cell"] ds) M := by
  rintro ds M Q E ⟨ns, rfl, hn, k⟩
  show tdStore (endsD Q E) [some (.d (.lsk (ns.map D.int))), none, none] M
  obtain ⟨cs, hc⟩ := cut_ints ns none (some 63)
  simp [tdStore, hc]
  refine forD_ind (fun xs δ M' => ∃ (zs : List Int) (m : Int) (o : Option Sl), xs = zs.map D.int ∧ δ = [some (.d (.lsk (ns.map D.int))), some (.d (.int m)), o] ∧ M' = M) ?_ ?_ _ _ _ ⟨cs, _, none, rfl, rfl, rfl⟩
  · rintro δ M' ⟨zs, m, o, hz, rfl, rfl⟩
    simp [hc]
    exact k cs m
  · rintro x r δ M' ⟨zs, m, o, hz, rfl, rfl⟩ ih
    cases zs with
    | nil => cases hz
    | cons z zs =>
      cases hz
      simp
      exact ⟨.inl (.inr (by decide)), ih _ _ ⟨zs, _, _, rfl, rfl, rfl⟩⟩
/-- a law's promise: of a script of at most 63 ints it is True -/
def spLawT : SpD := fun ds M Q E => ∃ ns : List Int, ds = [.lsk (ns.map D.int)] ∧ ns.length ≤ 63 ∧ ∀ M', Q (.d (.bl true)) M'
end DL

set_option Elab.async false
set_option linter.all false
set_option maxRecDepth 100000
set_option maxHeartbeats 4000000
namespace DL
open PySem PySem.Spec PyProof.Rows L2
/-! ### what a caught error is told to be: the laws' own _law_kind -/
def kname : Nat → Str
  | 0 => "jobs"
  | 1 => "rule"
  | 2 => "lengths"
  | 3 => "log"
  | 4 => "marks"
  | 5 => "named"
  | 6 => "order"
  | 7 => "text"
  | 8 => "number"
  | 9 => "name"
  | 10 => "undo"
  | 11 => "line"
  | _ => ""
def kfield : Nat → Option Str
  | 7 => some "row"
  | 8 => some "number"
  | 9 => some "name"
  | 10 => none
  | 11 => none
  | _ => some "place"
structure KindOf (K : PySem.W.Frag) (a : Nat → Addr) (s C : Addr) (j : Nat) : Prop where
  lt : j < 12
  cl : ∀ i, i < 12 → IsxC K (.ref (a i)) C (decide (i = j))
  sl : IsxC K (.ref s) C true
  ve : IsxC K (.type "ValueError") C true
  fd : ∀ f, kfield j = some f → XkC K f C
def spKind (K : PySem.W.Frag) (a : Nat → Addr) (s : Addr) : SpD := fun ds M Q E => ∃ (x C : Addr) (fs : List (Str × D)) (j : Nat) (d : D), ds = [.ref x] ∧ M x = some (.exc C fs) ∧ KindOf K a s C j ∧ (kfield j = none → d = .int 0) ∧ (∀ f, kfield j = some f → fs = [(f, d)]) ∧ Q (.d (.tup [.str (kname j), d])) M
def tdKind (K : PySem.W.Frag) (a : Nat → Addr) (s : Addr) : DP := (sSeq (sAsg (dLst (aCons (dFz (dOfT (dIsX (IsxC K (.ref (a 0))) (oPeek 0)))) (aCons (dFz (dOfT (dIsX (IsxC K (.ref (a 1))) (oPeek 0)))) (aCons (dFz (dOfT (dIsX (IsxC K (.ref (a 2))) (oPeek 0)))) aNil)))) 1) (sSeq (sAsg (dBin fAdd (oPeek 1) (dFz (dLst (aCons (dFz (dOfT (dIsX (IsxC K (.ref (a 3))) (oPeek 0)))) (aCons (dFz (dOfT (dIsX (IsxC K (.ref (a 4))) (oPeek 0)))) (aCons (dFz (dOfT (dIsX (IsxC K (.ref (a 5))) (oPeek 0)))) aNil)))))) 1) (sSeq (sAsg (dBin fAdd (oPeek 1) (dFz (dLst (aCons (dFz (dOfT (dIsX (IsxC K (.ref (a 6))) (oPeek 0)))) (aCons (dFz (dOfT (dIsX (IsxC K (.ref (a 7))) (oPeek 0)))) (aCons (dFz (dOfT (dIsX (IsxC K (.ref (a 8))) (oPeek 0)))) aNil)))))) 1) (sSeq (sAsg (dBin fAdd (oPeek 1) (dFz (dLst (aCons (dFz (dOfT (dIsX (IsxC K (.ref (a 9))) (oPeek 0)))) (aCons (dFz (dOfT (dIsX (IsxC K (.ref (a 10))) (oPeek 0)))) (aCons (dFz (dOfT (dIsX (IsxC K (.ref (a 11))) (oPeek 0)))) aNil)))))) 1) (sSeq (sIf (tdOr (tdNot (dIsX (IsxC K (.ref s)) (oPeek 0))) (tdOr (tdNot (dIsX (IsxC K (.type "ValueError")) (oPeek 0))) (dCmp fNe (dFz (dM "list" fCnt (oPeek 1) (aCons (vC (.bl true)) aNil))) (vC (.int 1))))) (sRet (dTup (aCons (vC (.str ("other" : Str))) (aCons (vC (.int 0)) aNil)))) sNext) (sSeq (sAsg (dM "list" fIdx (oPeek 1) (aCons (vC (.bl true)) aNil)) 2) (sSeq (sIf (dCmp fLt (oPeek 2) (vC (.int 7))) (sRet (dTup (aCons (dFz (dBin fIx (dFz (dLst (aCons (vC (.str ("jobs" : Str))) (aCons (vC (.str ("rule" : Str))) (aCons (vC (.str ("lengths" : Str))) (aCons (vC (.str ("log" : Str))) (aCons (vC (.str ("marks" : Str))) (aCons (vC (.str ("named" : Str))) (aCons (vC (.str ("order" : Str))) aNil))))))))) (oPeek 2))) (aCons (dFz (dXk ("place" : Str) (XkC K ("place" : Str)) (oPeek 0))) aNil)))) sNext) (sSeq (sIf (dCmp fEq (oPeek 2) (vC (.int 7))) (sRet (dTup (aCons (vC (.str ("text" : Str))) (aCons (dFz (dXk ("row" : Str) (XkC K ("row" : Str)) (oPeek 0))) aNil)))) sNext) (sSeq (sIf (dCmp fEq (oPeek 2) (vC (.int 8))) (sRet (dTup (aCons (vC (.str ("number" : Str))) (aCons (dFz (dXk ("number" : Str) (XkC K ("number" : Str)) (oPeek 0))) aNil)))) sNext) (sSeq (sIf (dCmp fEq (oPeek 2) (vC (.int 9))) (sRet (dTup (aCons (vC (.str ("name" : Str))) (aCons (dFz (dXk ("name" : Str) (XkC K ("name" : Str)) (oPeek 0))) aNil)))) sNext) (sRet (dTup (aCons (dFz (dBin fIx (dFz (dLst (aCons (vC (.str ("undo" : Str))) (aCons (vC (.str ("line" : Str))) aNil)))) (dFz (dBin fSub (oPeek 2) (vC (.int 10)))))) (aCons (vC (.int 0)) aNil))))))))))))))
theorem okBl : ∀ bs : List Bool, D.Ok (.lst (bs.map D.bl)) := fun bs => by
  have h : ∀ bs : List Bool, D.nrs (bs.map D.bl) = true ∧ D.dps (bs.map D.bl) = 0 := fun bs => by
    induction bs with
    | nil => exact ⟨by simp [D.nrs], by simp [D.dps]⟩
    | cons b bs ih => exact ⟨by simp [D.nrs, D.nr, ih.1], by simp [D.dps, D.dp, ih.2]⟩
  exact ⟨by simp [D.nr, (h bs).1], by simp [D.dp, (h bs).2]⟩
section
variable {K : PySem.W.Frag} {a : Nat → Addr} {s C x : Addr} {M : MH} {Q : Sl → MH → Prop} {E : Addr → List (Str × D) → MH → Prop} {fs : List (Str × D)} {d : D}
theorem rd_kind_0 (h : KindOf K a s C 0) (hM : M x = some (.exc C fs)) (h0 : kfield 0 = none → d = .int 0) (hf : ∀ f, kfield 0 = some f → fs = [(f, d)]) (q : Q (.d (.tup [.str (kname 0), d])) M) : tdKind K a s (endsD Q E) [some (.d (.ref x)), none, none] M := by
  have k0 := kx_eq (show IsxC K (.ref (a 0)) C true from h.cl 0 (by decide))
  have k1 := kx_eq (show IsxC K (.ref (a 1)) C false from h.cl 1 (by decide))
  have k2 := kx_eq (show IsxC K (.ref (a 2)) C false from h.cl 2 (by decide))
  have k3 := kx_eq (show IsxC K (.ref (a 3)) C false from h.cl 3 (by decide))
  have k4 := kx_eq (show IsxC K (.ref (a 4)) C false from h.cl 4 (by decide))
  have k5 := kx_eq (show IsxC K (.ref (a 5)) C false from h.cl 5 (by decide))
  have k6 := kx_eq (show IsxC K (.ref (a 6)) C false from h.cl 6 (by decide))
  have k7 := kx_eq (show IsxC K (.ref (a 7)) C false from h.cl 7 (by decide))
  have k8 := kx_eq (show IsxC K (.ref (a 8)) C false from h.cl 8 (by decide))
  have k9 := kx_eq (show IsxC K (.ref (a 9)) C false from h.cl 9 (by decide))
  have k10 := kx_eq (show IsxC K (.ref (a 10)) C false from h.cl 10 (by decide))
  have k11 := kx_eq (show IsxC K (.ref (a 11)) C false from h.cl 11 (by decide))
  have ks := kx_eq h.sl
  have kv := kx_eq h.ve
  have hx := h.fd "place" rfl
  obtain rfl := hf "place" rfl
  have hM := lk_at hM
  have ok : D.Ok (.lst [.bl true, .bl false, .bl false, .bl false, .bl false, .bl false, .bl false, .bl false, .bl false, .bl false, .bl false, .bl false]) := okBl [true, false, false, false, false, false, false, false, false, false, false, false]
  simp [tdKind, ↓hM, ↓ks, ↓kv, ↓k0, ↓k1, ↓k2, ↓k3, ↓k4, ↓k5, ↓k6, ↓k7, ↓k8, ↓k9, ↓k10, ↓k11, ok, ok_bl, eq_bb, hx]
  refine idx_at (j := 0) ok ok_bl rfl (by rw [eq_bb]; rfl) (fun m z hm hz => ?_) ?_
  · have hm' : m < 0 := hm
    match m, hm' with
    | m + 1, h => omega
  · have q : Q (.d (.tup [.str "jobs", d])) M := q
    simpa [↓hM, hx] using q
theorem rd_kind_1 (h : KindOf K a s C 1) (hM : M x = some (.exc C fs)) (h0 : kfield 1 = none → d = .int 0) (hf : ∀ f, kfield 1 = some f → fs = [(f, d)]) (q : Q (.d (.tup [.str (kname 1), d])) M) : tdKind K a s (endsD Q E) [some (.d (.ref x)), none, none] M := by
  have k0 := kx_eq (show IsxC K (.ref (a 0)) C false from h.cl 0 (by decide))
  have k1 := kx_eq (show IsxC K (.ref (a 1)) C true from h.cl 1 (by decide))
  have k2 := kx_eq (show IsxC K (.ref (a 2)) C false from h.cl 2 (by decide))
  have k3 := kx_eq (show IsxC K (.ref (a 3)) C false from h.cl 3 (by decide))
  have k4 := kx_eq (show IsxC K (.ref (a 4)) C false from h.cl 4 (by decide))
  have k5 := kx_eq (show IsxC K (.ref (a 5)) C false from h.cl 5 (by decide))
  have k6 := kx_eq (show IsxC K (.ref (a 6)) C false from h.cl 6 (by decide))
  have k7 := kx_eq (show IsxC K (.ref (a 7)) C false from h.cl 7 (by decide))
  have k8 := kx_eq (show IsxC K (.ref (a 8)) C false from h.cl 8 (by decide))
  have k9 := kx_eq (show IsxC K (.ref (a 9)) C false from h.cl 9 (by decide))
  have k10 := kx_eq (show IsxC K (.ref (a 10)) C false from h.cl 10 (by decide))
  have k11 := kx_eq (show IsxC K (.ref (a 11)) C false from h.cl 11 (by decide))
  have ks := kx_eq h.sl
  have kv := kx_eq h.ve
  have hx := h.fd "place" rfl
  obtain rfl := hf "place" rfl
  have hM := lk_at hM
  have ok : D.Ok (.lst [.bl false, .bl true, .bl false, .bl false, .bl false, .bl false, .bl false, .bl false, .bl false, .bl false, .bl false, .bl false]) := okBl [false, true, false, false, false, false, false, false, false, false, false, false]
  simp [tdKind, ↓hM, ↓ks, ↓kv, ↓k0, ↓k1, ↓k2, ↓k3, ↓k4, ↓k5, ↓k6, ↓k7, ↓k8, ↓k9, ↓k10, ↓k11, ok, ok_bl, eq_bb, hx]
  refine idx_at (j := 1) ok ok_bl rfl (by rw [eq_bb]; rfl) (fun m z hm hz => ?_) ?_
  · have hm' : m < 1 := hm
    match m, hm' with
    | 0, _ => cases hz; rw [eq_bb]; rfl
  · have q : Q (.d (.tup [.str "rule", d])) M := q
    simpa [↓hM, hx] using q
theorem rd_kind_2 (h : KindOf K a s C 2) (hM : M x = some (.exc C fs)) (h0 : kfield 2 = none → d = .int 0) (hf : ∀ f, kfield 2 = some f → fs = [(f, d)]) (q : Q (.d (.tup [.str (kname 2), d])) M) : tdKind K a s (endsD Q E) [some (.d (.ref x)), none, none] M := by
  have k0 := kx_eq (show IsxC K (.ref (a 0)) C false from h.cl 0 (by decide))
  have k1 := kx_eq (show IsxC K (.ref (a 1)) C false from h.cl 1 (by decide))
  have k2 := kx_eq (show IsxC K (.ref (a 2)) C true from h.cl 2 (by decide))
  have k3 := kx_eq (show IsxC K (.ref (a 3)) C false from h.cl 3 (by decide))
  have k4 := kx_eq (show IsxC K (.ref (a 4)) C false from h.cl 4 (by decide))
  have k5 := kx_eq (show IsxC K (.ref (a 5)) C false from h.cl 5 (by decide))
  have k6 := kx_eq (show IsxC K (.ref (a 6)) C false from h.cl 6 (by decide))
  have k7 := kx_eq (show IsxC K (.ref (a 7)) C false from h.cl 7 (by decide))
  have k8 := kx_eq (show IsxC K (.ref (a 8)) C false from h.cl 8 (by decide))
  have k9 := kx_eq (show IsxC K (.ref (a 9)) C false from h.cl 9 (by decide))
  have k10 := kx_eq (show IsxC K (.ref (a 10)) C false from h.cl 10 (by decide))
  have k11 := kx_eq (show IsxC K (.ref (a 11)) C false from h.cl 11 (by decide))
  have ks := kx_eq h.sl
  have kv := kx_eq h.ve
  have hx := h.fd "place" rfl
  obtain rfl := hf "place" rfl
  have hM := lk_at hM
  have ok : D.Ok (.lst [.bl false, .bl false, .bl true, .bl false, .bl false, .bl false, .bl false, .bl false, .bl false, .bl false, .bl false, .bl false]) := okBl [false, false, true, false, false, false, false, false, false, false, false, false]
  simp [tdKind, ↓hM, ↓ks, ↓kv, ↓k0, ↓k1, ↓k2, ↓k3, ↓k4, ↓k5, ↓k6, ↓k7, ↓k8, ↓k9, ↓k10, ↓k11, ok, ok_bl, eq_bb, hx]
  refine idx_at (j := 2) ok ok_bl rfl (by rw [eq_bb]; rfl) (fun m z hm hz => ?_) ?_
  · have hm' : m < 2 := hm
    match m, hm' with
    | 0, _ => cases hz; rw [eq_bb]; rfl
    | 1, _ => cases hz; rw [eq_bb]; rfl
  · have q : Q (.d (.tup [.str "lengths", d])) M := q
    simpa [↓hM, hx] using q
theorem rd_kind_3 (h : KindOf K a s C 3) (hM : M x = some (.exc C fs)) (h0 : kfield 3 = none → d = .int 0) (hf : ∀ f, kfield 3 = some f → fs = [(f, d)]) (q : Q (.d (.tup [.str (kname 3), d])) M) : tdKind K a s (endsD Q E) [some (.d (.ref x)), none, none] M := by
  have k0 := kx_eq (show IsxC K (.ref (a 0)) C false from h.cl 0 (by decide))
  have k1 := kx_eq (show IsxC K (.ref (a 1)) C false from h.cl 1 (by decide))
  have k2 := kx_eq (show IsxC K (.ref (a 2)) C false from h.cl 2 (by decide))
  have k3 := kx_eq (show IsxC K (.ref (a 3)) C true from h.cl 3 (by decide))
  have k4 := kx_eq (show IsxC K (.ref (a 4)) C false from h.cl 4 (by decide))
  have k5 := kx_eq (show IsxC K (.ref (a 5)) C false from h.cl 5 (by decide))
  have k6 := kx_eq (show IsxC K (.ref (a 6)) C false from h.cl 6 (by decide))
  have k7 := kx_eq (show IsxC K (.ref (a 7)) C false from h.cl 7 (by decide))
  have k8 := kx_eq (show IsxC K (.ref (a 8)) C false from h.cl 8 (by decide))
  have k9 := kx_eq (show IsxC K (.ref (a 9)) C false from h.cl 9 (by decide))
  have k10 := kx_eq (show IsxC K (.ref (a 10)) C false from h.cl 10 (by decide))
  have k11 := kx_eq (show IsxC K (.ref (a 11)) C false from h.cl 11 (by decide))
  have ks := kx_eq h.sl
  have kv := kx_eq h.ve
  have hx := h.fd "place" rfl
  obtain rfl := hf "place" rfl
  have hM := lk_at hM
  have ok : D.Ok (.lst [.bl false, .bl false, .bl false, .bl true, .bl false, .bl false, .bl false, .bl false, .bl false, .bl false, .bl false, .bl false]) := okBl [false, false, false, true, false, false, false, false, false, false, false, false]
  simp [tdKind, ↓hM, ↓ks, ↓kv, ↓k0, ↓k1, ↓k2, ↓k3, ↓k4, ↓k5, ↓k6, ↓k7, ↓k8, ↓k9, ↓k10, ↓k11, ok, ok_bl, eq_bb, hx]
  refine idx_at (j := 3) ok ok_bl rfl (by rw [eq_bb]; rfl) (fun m z hm hz => ?_) ?_
  · have hm' : m < 3 := hm
    match m, hm' with
    | 0, _ => cases hz; rw [eq_bb]; rfl
    | 1, _ => cases hz; rw [eq_bb]; rfl
    | 2, _ => cases hz; rw [eq_bb]; rfl
  · have q : Q (.d (.tup [.str "log", d])) M := q
    simpa [↓hM, hx] using q
theorem rd_kind_4 (h : KindOf K a s C 4) (hM : M x = some (.exc C fs)) (h0 : kfield 4 = none → d = .int 0) (hf : ∀ f, kfield 4 = some f → fs = [(f, d)]) (q : Q (.d (.tup [.str (kname 4), d])) M) : tdKind K a s (endsD Q E) [some (.d (.ref x)), none, none] M := by
  have k0 := kx_eq (show IsxC K (.ref (a 0)) C false from h.cl 0 (by decide))
  have k1 := kx_eq (show IsxC K (.ref (a 1)) C false from h.cl 1 (by decide))
  have k2 := kx_eq (show IsxC K (.ref (a 2)) C false from h.cl 2 (by decide))
  have k3 := kx_eq (show IsxC K (.ref (a 3)) C false from h.cl 3 (by decide))
  have k4 := kx_eq (show IsxC K (.ref (a 4)) C true from h.cl 4 (by decide))
  have k5 := kx_eq (show IsxC K (.ref (a 5)) C false from h.cl 5 (by decide))
  have k6 := kx_eq (show IsxC K (.ref (a 6)) C false from h.cl 6 (by decide))
  have k7 := kx_eq (show IsxC K (.ref (a 7)) C false from h.cl 7 (by decide))
  have k8 := kx_eq (show IsxC K (.ref (a 8)) C false from h.cl 8 (by decide))
  have k9 := kx_eq (show IsxC K (.ref (a 9)) C false from h.cl 9 (by decide))
  have k10 := kx_eq (show IsxC K (.ref (a 10)) C false from h.cl 10 (by decide))
  have k11 := kx_eq (show IsxC K (.ref (a 11)) C false from h.cl 11 (by decide))
  have ks := kx_eq h.sl
  have kv := kx_eq h.ve
  have hx := h.fd "place" rfl
  obtain rfl := hf "place" rfl
  have hM := lk_at hM
  have ok : D.Ok (.lst [.bl false, .bl false, .bl false, .bl false, .bl true, .bl false, .bl false, .bl false, .bl false, .bl false, .bl false, .bl false]) := okBl [false, false, false, false, true, false, false, false, false, false, false, false]
  simp [tdKind, ↓hM, ↓ks, ↓kv, ↓k0, ↓k1, ↓k2, ↓k3, ↓k4, ↓k5, ↓k6, ↓k7, ↓k8, ↓k9, ↓k10, ↓k11, ok, ok_bl, eq_bb, hx]
  refine idx_at (j := 4) ok ok_bl rfl (by rw [eq_bb]; rfl) (fun m z hm hz => ?_) ?_
  · have hm' : m < 4 := hm
    match m, hm' with
    | 0, _ => cases hz; rw [eq_bb]; rfl
    | 1, _ => cases hz; rw [eq_bb]; rfl
    | 2, _ => cases hz; rw [eq_bb]; rfl
    | 3, _ => cases hz; rw [eq_bb]; rfl
  · have q : Q (.d (.tup [.str "marks", d])) M := q
    simpa [↓hM, hx] using q
theorem rd_kind_5 (h : KindOf K a s C 5) (hM : M x = some (.exc C fs)) (h0 : kfield 5 = none → d = .int 0) (hf : ∀ f, kfield 5 = some f → fs = [(f, d)]) (q : Q (.d (.tup [.str (kname 5), d])) M) : tdKind K a s (endsD Q E) [some (.d (.ref x)), none, none] M := by
  have k0 := kx_eq (show IsxC K (.ref (a 0)) C false from h.cl 0 (by decide))
  have k1 := kx_eq (show IsxC K (.ref (a 1)) C false from h.cl 1 (by decide))
  have k2 := kx_eq (show IsxC K (.ref (a 2)) C false from h.cl 2 (by decide))
  have k3 := kx_eq (show IsxC K (.ref (a 3)) C false from h.cl 3 (by decide))
  have k4 := kx_eq (show IsxC K (.ref (a 4)) C false from h.cl 4 (by decide))
  have k5 := kx_eq (show IsxC K (.ref (a 5)) C true from h.cl 5 (by decide))
  have k6 := kx_eq (show IsxC K (.ref (a 6)) C false from h.cl 6 (by decide))
  have k7 := kx_eq (show IsxC K (.ref (a 7)) C false from h.cl 7 (by decide))
  have k8 := kx_eq (show IsxC K (.ref (a 8)) C false from h.cl 8 (by decide))
  have k9 := kx_eq (show IsxC K (.ref (a 9)) C false from h.cl 9 (by decide))
  have k10 := kx_eq (show IsxC K (.ref (a 10)) C false from h.cl 10 (by decide))
  have k11 := kx_eq (show IsxC K (.ref (a 11)) C false from h.cl 11 (by decide))
  have ks := kx_eq h.sl
  have kv := kx_eq h.ve
  have hx := h.fd "place" rfl
  obtain rfl := hf "place" rfl
  have hM := lk_at hM
  have ok : D.Ok (.lst [.bl false, .bl false, .bl false, .bl false, .bl false, .bl true, .bl false, .bl false, .bl false, .bl false, .bl false, .bl false]) := okBl [false, false, false, false, false, true, false, false, false, false, false, false]
  simp [tdKind, ↓hM, ↓ks, ↓kv, ↓k0, ↓k1, ↓k2, ↓k3, ↓k4, ↓k5, ↓k6, ↓k7, ↓k8, ↓k9, ↓k10, ↓k11, ok, ok_bl, eq_bb, hx]
  refine idx_at (j := 5) ok ok_bl rfl (by rw [eq_bb]; rfl) (fun m z hm hz => ?_) ?_
  · have hm' : m < 5 := hm
    match m, hm' with
    | 0, _ => cases hz; rw [eq_bb]; rfl
    | 1, _ => cases hz; rw [eq_bb]; rfl
    | 2, _ => cases hz; rw [eq_bb]; rfl
    | 3, _ => cases hz; rw [eq_bb]; rfl
    | 4, _ => cases hz; rw [eq_bb]; rfl
  · have q : Q (.d (.tup [.str "named", d])) M := q
    simpa [↓hM, hx] using q
theorem rd_kind_6 (h : KindOf K a s C 6) (hM : M x = some (.exc C fs)) (h0 : kfield 6 = none → d = .int 0) (hf : ∀ f, kfield 6 = some f → fs = [(f, d)]) (q : Q (.d (.tup [.str (kname 6), d])) M) : tdKind K a s (endsD Q E) [some (.d (.ref x)), none, none] M := by
  have k0 := kx_eq (show IsxC K (.ref (a 0)) C false from h.cl 0 (by decide))
  have k1 := kx_eq (show IsxC K (.ref (a 1)) C false from h.cl 1 (by decide))
  have k2 := kx_eq (show IsxC K (.ref (a 2)) C false from h.cl 2 (by decide))
  have k3 := kx_eq (show IsxC K (.ref (a 3)) C false from h.cl 3 (by decide))
  have k4 := kx_eq (show IsxC K (.ref (a 4)) C false from h.cl 4 (by decide))
  have k5 := kx_eq (show IsxC K (.ref (a 5)) C false from h.cl 5 (by decide))
  have k6 := kx_eq (show IsxC K (.ref (a 6)) C true from h.cl 6 (by decide))
  have k7 := kx_eq (show IsxC K (.ref (a 7)) C false from h.cl 7 (by decide))
  have k8 := kx_eq (show IsxC K (.ref (a 8)) C false from h.cl 8 (by decide))
  have k9 := kx_eq (show IsxC K (.ref (a 9)) C false from h.cl 9 (by decide))
  have k10 := kx_eq (show IsxC K (.ref (a 10)) C false from h.cl 10 (by decide))
  have k11 := kx_eq (show IsxC K (.ref (a 11)) C false from h.cl 11 (by decide))
  have ks := kx_eq h.sl
  have kv := kx_eq h.ve
  have hx := h.fd "place" rfl
  obtain rfl := hf "place" rfl
  have hM := lk_at hM
  have ok : D.Ok (.lst [.bl false, .bl false, .bl false, .bl false, .bl false, .bl false, .bl true, .bl false, .bl false, .bl false, .bl false, .bl false]) := okBl [false, false, false, false, false, false, true, false, false, false, false, false]
  simp [tdKind, ↓hM, ↓ks, ↓kv, ↓k0, ↓k1, ↓k2, ↓k3, ↓k4, ↓k5, ↓k6, ↓k7, ↓k8, ↓k9, ↓k10, ↓k11, ok, ok_bl, eq_bb, hx]
  refine idx_at (j := 6) ok ok_bl rfl (by rw [eq_bb]; rfl) (fun m z hm hz => ?_) ?_
  · have hm' : m < 6 := hm
    match m, hm' with
    | 0, _ => cases hz; rw [eq_bb]; rfl
    | 1, _ => cases hz; rw [eq_bb]; rfl
    | 2, _ => cases hz; rw [eq_bb]; rfl
    | 3, _ => cases hz; rw [eq_bb]; rfl
    | 4, _ => cases hz; rw [eq_bb]; rfl
    | 5, _ => cases hz; rw [eq_bb]; rfl
  · have q : Q (.d (.tup [.str "order", d])) M := q
    simpa [↓hM, hx] using q
theorem rd_kind_7 (h : KindOf K a s C 7) (hM : M x = some (.exc C fs)) (h0 : kfield 7 = none → d = .int 0) (hf : ∀ f, kfield 7 = some f → fs = [(f, d)]) (q : Q (.d (.tup [.str (kname 7), d])) M) : tdKind K a s (endsD Q E) [some (.d (.ref x)), none, none] M := by
  have k0 := kx_eq (show IsxC K (.ref (a 0)) C false from h.cl 0 (by decide))
  have k1 := kx_eq (show IsxC K (.ref (a 1)) C false from h.cl 1 (by decide))
  have k2 := kx_eq (show IsxC K (.ref (a 2)) C false from h.cl 2 (by decide))
  have k3 := kx_eq (show IsxC K (.ref (a 3)) C false from h.cl 3 (by decide))
  have k4 := kx_eq (show IsxC K (.ref (a 4)) C false from h.cl 4 (by decide))
  have k5 := kx_eq (show IsxC K (.ref (a 5)) C false from h.cl 5 (by decide))
  have k6 := kx_eq (show IsxC K (.ref (a 6)) C false from h.cl 6 (by decide))
  have k7 := kx_eq (show IsxC K (.ref (a 7)) C true from h.cl 7 (by decide))
  have k8 := kx_eq (show IsxC K (.ref (a 8)) C false from h.cl 8 (by decide))
  have k9 := kx_eq (show IsxC K (.ref (a 9)) C false from h.cl 9 (by decide))
  have k10 := kx_eq (show IsxC K (.ref (a 10)) C false from h.cl 10 (by decide))
  have k11 := kx_eq (show IsxC K (.ref (a 11)) C false from h.cl 11 (by decide))
  have ks := kx_eq h.sl
  have kv := kx_eq h.ve
  have hx := h.fd "row" rfl
  obtain rfl := hf "row" rfl
  have hM := lk_at hM
  have ok : D.Ok (.lst [.bl false, .bl false, .bl false, .bl false, .bl false, .bl false, .bl false, .bl true, .bl false, .bl false, .bl false, .bl false]) := okBl [false, false, false, false, false, false, false, true, false, false, false, false]
  simp [tdKind, ↓hM, ↓ks, ↓kv, ↓k0, ↓k1, ↓k2, ↓k3, ↓k4, ↓k5, ↓k6, ↓k7, ↓k8, ↓k9, ↓k10, ↓k11, ok, ok_bl, eq_bb, hx]
  refine idx_at (j := 7) ok ok_bl rfl (by rw [eq_bb]; rfl) (fun m z hm hz => ?_) ?_
  · have hm' : m < 7 := hm
    match m, hm' with
    | 0, _ => cases hz; rw [eq_bb]; rfl
    | 1, _ => cases hz; rw [eq_bb]; rfl
    | 2, _ => cases hz; rw [eq_bb]; rfl
    | 3, _ => cases hz; rw [eq_bb]; rfl
    | 4, _ => cases hz; rw [eq_bb]; rfl
    | 5, _ => cases hz; rw [eq_bb]; rfl
    | 6, _ => cases hz; rw [eq_bb]; rfl
  · have q : Q (.d (.tup [.str "text", d])) M := q
    simpa [↓hM, hx] using q
theorem rd_kind_8 (h : KindOf K a s C 8) (hM : M x = some (.exc C fs)) (h0 : kfield 8 = none → d = .int 0) (hf : ∀ f, kfield 8 = some f → fs = [(f, d)]) (q : Q (.d (.tup [.str (kname 8), d])) M) : tdKind K a s (endsD Q E) [some (.d (.ref x)), none, none] M := by
  have k0 := kx_eq (show IsxC K (.ref (a 0)) C false from h.cl 0 (by decide))
  have k1 := kx_eq (show IsxC K (.ref (a 1)) C false from h.cl 1 (by decide))
  have k2 := kx_eq (show IsxC K (.ref (a 2)) C false from h.cl 2 (by decide))
  have k3 := kx_eq (show IsxC K (.ref (a 3)) C false from h.cl 3 (by decide))
  have k4 := kx_eq (show IsxC K (.ref (a 4)) C false from h.cl 4 (by decide))
  have k5 := kx_eq (show IsxC K (.ref (a 5)) C false from h.cl 5 (by decide))
  have k6 := kx_eq (show IsxC K (.ref (a 6)) C false from h.cl 6 (by decide))
  have k7 := kx_eq (show IsxC K (.ref (a 7)) C false from h.cl 7 (by decide))
  have k8 := kx_eq (show IsxC K (.ref (a 8)) C true from h.cl 8 (by decide))
  have k9 := kx_eq (show IsxC K (.ref (a 9)) C false from h.cl 9 (by decide))
  have k10 := kx_eq (show IsxC K (.ref (a 10)) C false from h.cl 10 (by decide))
  have k11 := kx_eq (show IsxC K (.ref (a 11)) C false from h.cl 11 (by decide))
  have ks := kx_eq h.sl
  have kv := kx_eq h.ve
  have hx := h.fd "number" rfl
  obtain rfl := hf "number" rfl
  have hM := lk_at hM
  have ok : D.Ok (.lst [.bl false, .bl false, .bl false, .bl false, .bl false, .bl false, .bl false, .bl false, .bl true, .bl false, .bl false, .bl false]) := okBl [false, false, false, false, false, false, false, false, true, false, false, false]
  simp [tdKind, ↓hM, ↓ks, ↓kv, ↓k0, ↓k1, ↓k2, ↓k3, ↓k4, ↓k5, ↓k6, ↓k7, ↓k8, ↓k9, ↓k10, ↓k11, ok, ok_bl, eq_bb, hx]
  refine idx_at (j := 8) ok ok_bl rfl (by rw [eq_bb]; rfl) (fun m z hm hz => ?_) ?_
  · have hm' : m < 8 := hm
    match m, hm' with
    | 0, _ => cases hz; rw [eq_bb]; rfl
    | 1, _ => cases hz; rw [eq_bb]; rfl
    | 2, _ => cases hz; rw [eq_bb]; rfl
    | 3, _ => cases hz; rw [eq_bb]; rfl
    | 4, _ => cases hz; rw [eq_bb]; rfl
    | 5, _ => cases hz; rw [eq_bb]; rfl
    | 6, _ => cases hz; rw [eq_bb]; rfl
    | 7, _ => cases hz; rw [eq_bb]; rfl
  · have q : Q (.d (.tup [.str "number", d])) M := q
    simpa [↓hM, hx] using q
theorem rd_kind_9 (h : KindOf K a s C 9) (hM : M x = some (.exc C fs)) (h0 : kfield 9 = none → d = .int 0) (hf : ∀ f, kfield 9 = some f → fs = [(f, d)]) (q : Q (.d (.tup [.str (kname 9), d])) M) : tdKind K a s (endsD Q E) [some (.d (.ref x)), none, none] M := by
  have k0 := kx_eq (show IsxC K (.ref (a 0)) C false from h.cl 0 (by decide))
  have k1 := kx_eq (show IsxC K (.ref (a 1)) C false from h.cl 1 (by decide))
  have k2 := kx_eq (show IsxC K (.ref (a 2)) C false from h.cl 2 (by decide))
  have k3 := kx_eq (show IsxC K (.ref (a 3)) C false from h.cl 3 (by decide))
  have k4 := kx_eq (show IsxC K (.ref (a 4)) C false from h.cl 4 (by decide))
  have k5 := kx_eq (show IsxC K (.ref (a 5)) C false from h.cl 5 (by decide))
  have k6 := kx_eq (show IsxC K (.ref (a 6)) C false from h.cl 6 (by decide))
  have k7 := kx_eq (show IsxC K (.ref (a 7)) C false from h.cl 7 (by decide))
  have k8 := kx_eq (show IsxC K (.ref (a 8)) C false from h.cl 8 (by decide))
  have k9 := kx_eq (show IsxC K (.ref (a 9)) C true from h.cl 9 (by decide))
  have k10 := kx_eq (show IsxC K (.ref (a 10)) C false from h.cl 10 (by decide))
  have k11 := kx_eq (show IsxC K (.ref (a 11)) C false from h.cl 11 (by decide))
  have ks := kx_eq h.sl
  have kv := kx_eq h.ve
  have hx := h.fd "name" rfl
  obtain rfl := hf "name" rfl
  have hM := lk_at hM
  have ok : D.Ok (.lst [.bl false, .bl false, .bl false, .bl false, .bl false, .bl false, .bl false, .bl false, .bl false, .bl true, .bl false, .bl false]) := okBl [false, false, false, false, false, false, false, false, false, true, false, false]
  simp [tdKind, ↓hM, ↓ks, ↓kv, ↓k0, ↓k1, ↓k2, ↓k3, ↓k4, ↓k5, ↓k6, ↓k7, ↓k8, ↓k9, ↓k10, ↓k11, ok, ok_bl, eq_bb, hx]
  refine idx_at (j := 9) ok ok_bl rfl (by rw [eq_bb]; rfl) (fun m z hm hz => ?_) ?_
  · have hm' : m < 9 := hm
    match m, hm' with
    | 0, _ => cases hz; rw [eq_bb]; rfl
    | 1, _ => cases hz; rw [eq_bb]; rfl
    | 2, _ => cases hz; rw [eq_bb]; rfl
    | 3, _ => cases hz; rw [eq_bb]; rfl
    | 4, _ => cases hz; rw [eq_bb]; rfl
    | 5, _ => cases hz; rw [eq_bb]; rfl
    | 6, _ => cases hz; rw [eq_bb]; rfl
    | 7, _ => cases hz; rw [eq_bb]; rfl
    | 8, _ => cases hz; rw [eq_bb]; rfl
  · have q : Q (.d (.tup [.str "name", d])) M := q
    simpa [↓hM, hx] using q
theorem rd_kind_10 (h : KindOf K a s C 10) (hM : M x = some (.exc C fs)) (h0 : kfield 10 = none → d = .int 0) (hf : ∀ f, kfield 10 = some f → fs = [(f, d)]) (q : Q (.d (.tup [.str (kname 10), d])) M) : tdKind K a s (endsD Q E) [some (.d (.ref x)), none, none] M := by
  have k0 := kx_eq (show IsxC K (.ref (a 0)) C false from h.cl 0 (by decide))
  have k1 := kx_eq (show IsxC K (.ref (a 1)) C false from h.cl 1 (by decide))
  have k2 := kx_eq (show IsxC K (.ref (a 2)) C false from h.cl 2 (by decide))
  have k3 := kx_eq (show IsxC K (.ref (a 3)) C false from h.cl 3 (by decide))
  have k4 := kx_eq (show IsxC K (.ref (a 4)) C false from h.cl 4 (by decide))
  have k5 := kx_eq (show IsxC K (.ref (a 5)) C false from h.cl 5 (by decide))
  have k6 := kx_eq (show IsxC K (.ref (a 6)) C false from h.cl 6 (by decide))
  have k7 := kx_eq (show IsxC K (.ref (a 7)) C false from h.cl 7 (by decide))
  have k8 := kx_eq (show IsxC K (.ref (a 8)) C false from h.cl 8 (by decide))
  have k9 := kx_eq (show IsxC K (.ref (a 9)) C false from h.cl 9 (by decide))
  have k10 := kx_eq (show IsxC K (.ref (a 10)) C true from h.cl 10 (by decide))
  have k11 := kx_eq (show IsxC K (.ref (a 11)) C false from h.cl 11 (by decide))
  have ks := kx_eq h.sl
  have kv := kx_eq h.ve
  obtain rfl := h0 rfl
  have hM := lk_at hM
  have ok : D.Ok (.lst [.bl false, .bl false, .bl false, .bl false, .bl false, .bl false, .bl false, .bl false, .bl false, .bl false, .bl true, .bl false]) := okBl [false, false, false, false, false, false, false, false, false, false, true, false]
  simp [tdKind, ↓hM, ↓ks, ↓kv, ↓k0, ↓k1, ↓k2, ↓k3, ↓k4, ↓k5, ↓k6, ↓k7, ↓k8, ↓k9, ↓k10, ↓k11, ok, ok_bl, eq_bb]
  refine idx_at (j := 10) ok ok_bl rfl (by rw [eq_bb]; rfl) (fun m z hm hz => ?_) ?_
  · have hm' : m < 10 := hm
    match m, hm' with
    | 0, _ => cases hz; rw [eq_bb]; rfl
    | 1, _ => cases hz; rw [eq_bb]; rfl
    | 2, _ => cases hz; rw [eq_bb]; rfl
    | 3, _ => cases hz; rw [eq_bb]; rfl
    | 4, _ => cases hz; rw [eq_bb]; rfl
    | 5, _ => cases hz; rw [eq_bb]; rfl
    | 6, _ => cases hz; rw [eq_bb]; rfl
    | 7, _ => cases hz; rw [eq_bb]; rfl
    | 8, _ => cases hz; rw [eq_bb]; rfl
    | 9, _ => cases hz; rw [eq_bb]; rfl
  · have q : Q (.d (.tup [.str "undo", .int 0])) M := q
    simpa [↓hM] using q
theorem rd_kind_11 (h : KindOf K a s C 11) (hM : M x = some (.exc C fs)) (h0 : kfield 11 = none → d = .int 0) (hf : ∀ f, kfield 11 = some f → fs = [(f, d)]) (q : Q (.d (.tup [.str (kname 11), d])) M) : tdKind K a s (endsD Q E) [some (.d (.ref x)), none, none] M := by
  have k0 := kx_eq (show IsxC K (.ref (a 0)) C false from h.cl 0 (by decide))
  have k1 := kx_eq (show IsxC K (.ref (a 1)) C false from h.cl 1 (by decide))
  have k2 := kx_eq (show IsxC K (.ref (a 2)) C false from h.cl 2 (by decide))
  have k3 := kx_eq (show IsxC K (.ref (a 3)) C false from h.cl 3 (by decide))
  have k4 := kx_eq (show IsxC K (.ref (a 4)) C false from h.cl 4 (by decide))
  have k5 := kx_eq (show IsxC K (.ref (a 5)) C false from h.cl 5 (by decide))
  have k6 := kx_eq (show IsxC K (.ref (a 6)) C false from h.cl 6 (by decide))
  have k7 := kx_eq (show IsxC K (.ref (a 7)) C false from h.cl 7 (by decide))
  have k8 := kx_eq (show IsxC K (.ref (a 8)) C false from h.cl 8 (by decide))
  have k9 := kx_eq (show IsxC K (.ref (a 9)) C false from h.cl 9 (by decide))
  have k10 := kx_eq (show IsxC K (.ref (a 10)) C false from h.cl 10 (by decide))
  have k11 := kx_eq (show IsxC K (.ref (a 11)) C true from h.cl 11 (by decide))
  have ks := kx_eq h.sl
  have kv := kx_eq h.ve
  obtain rfl := h0 rfl
  have hM := lk_at hM
  have ok : D.Ok (.lst [.bl false, .bl false, .bl false, .bl false, .bl false, .bl false, .bl false, .bl false, .bl false, .bl false, .bl false, .bl true]) := okBl [false, false, false, false, false, false, false, false, false, false, false, true]
  simp [tdKind, ↓hM, ↓ks, ↓kv, ↓k0, ↓k1, ↓k2, ↓k3, ↓k4, ↓k5, ↓k6, ↓k7, ↓k8, ↓k9, ↓k10, ↓k11, ok, ok_bl, eq_bb]
  refine idx_at (j := 11) ok ok_bl rfl (by rw [eq_bb]; rfl) (fun m z hm hz => ?_) ?_
  · have hm' : m < 11 := hm
    match m, hm' with
    | 0, _ => cases hz; rw [eq_bb]; rfl
    | 1, _ => cases hz; rw [eq_bb]; rfl
    | 2, _ => cases hz; rw [eq_bb]; rfl
    | 3, _ => cases hz; rw [eq_bb]; rfl
    | 4, _ => cases hz; rw [eq_bb]; rfl
    | 5, _ => cases hz; rw [eq_bb]; rfl
    | 6, _ => cases hz; rw [eq_bb]; rfl
    | 7, _ => cases hz; rw [eq_bb]; rfl
    | 8, _ => cases hz; rw [eq_bb]; rfl
    | 9, _ => cases hz; rw [eq_bb]; rfl
    | 10, _ => cases hz; rw [eq_bb]; rfl
  · have q : Q (.d (.tup [.str "line", .int 0])) M := q
    simpa [↓hM] using q
theorem rd_kind : ∀ ds M Q E, spKind K a s ds M Q E → tdKind K a s (endsD Q E) (startD ["caught", "kinds", "at"] ds) M := by
  rintro ds M Q E ⟨x, C, fs, j, d, rfl, hM, h, h0, hf, q⟩
  show tdKind K a s (endsD Q E) [some (.d (.ref x)), none, none] M
  match j, h.lt with
  | 0, _ => exact rd_kind_0 h hM h0 hf q
  | 1, _ => exact rd_kind_1 h hM h0 hf q
  | 2, _ => exact rd_kind_2 h hM h0 hf q
  | 3, _ => exact rd_kind_3 h hM h0 hf q
  | 4, _ => exact rd_kind_4 h hM h0 hf q
  | 5, _ => exact rd_kind_5 h hM h0 hf q
  | 6, _ => exact rd_kind_6 h hM h0 hf q
  | 7, _ => exact rd_kind_7 h hM h0 hf q
  | 8, _ => exact rd_kind_8 h hM h0 hf q
  | 9, _ => exact rd_kind_9 h hM h0 hf q
  | 10, _ => exact rd_kind_10 h hM h0 hf q
  | 11, _ => exact rd_kind_11 h hM h0 hf q
end
end DL

set_option Elab.async false
set_option linter.all false
set_option maxRecDepth 100000
set_option maxHeartbeats 2000000
namespace DL
open PySem PySem.Spec PyProof.Rows L2
/-! ### what the top has written -/
section
variable {K : PySem.W.Frag} {C A : Addr}
theorem kit_at {b : Bool} (s : PySem.W.subIn K (.ref C) (.ref C) = some true) (h1 : PySem.W.isClsIn K A = true) (h2 : PySem.W.typeIn K (.ref A) = some (.type "type")) (h3 : PySem.W.subIn K (.ref C) (.ref A) = some b) : PySem.W.kitOne K (.ref C) (.ref A) = some b := by
  unfold PySem.W.kitOne
  by_cases e : ((Value.ref C == Value.ref A) = true)
  · rw [if_pos e]
    have e' : Value.ref C = Value.ref A := beq_iff_eq.mp e
    cases e'
    rw [s] at h3
    exact h3
  · rw [if_neg e]
    show (if ((PySem.W.clsIn K A).isSome && PySem.W.typeIn K (.ref A) == some (.type "type")) = true then PySem.W.subIn K (.ref C) (.ref A) else none) = some b
    have h1' : (PySem.W.clsIn K A).isSome = true := h1
    rw [h1', h2]
    rw [if_pos (show (true && some (Value.type "type") == some (Value.type "type")) = true from rfl)]
    exact h3
theorem kit_ve (s : PySem.W.subIn K (.ref C) (.type "ValueError") = some true) : PySem.W.kitOne K (.ref C) (.type "ValueError") = some true := by
  unfold PySem.W.kitOne
  rw [if_neg (show ¬ (Value.ref C == Value.type "ValueError") = true from fun e => by cases beq_iff_eq.mp e)]
  show (if PySem.W.kitMeta "ValueError" = true then PySem.W.subIn K (.ref C) (.type "ValueError") else none) = some true
  rw [if_pos (by decide +kernel)]
  exact s
/-- a class of errors -/
structure ErrF (K : PySem.W.Frag) (C : Addr) : Prop where
  hg : PySem.W.findIn K (.ref C) "__getattribute__" = some (some (.builtin "BaseException.__getattribute__"))
  hk : PySem.W.findIn K (.ref C) "__getattr__" = some none
  hs : PySem.W.subIn K (.ref C) (.type "BaseException") = some true
  hd : PySem.W.hasDictIn K C = true
  ha : PySem.W.findIn K (.ref C) "__class__" = some (some (.builtin "object.__class__"))
  hn : PySem.W.specialIn K (.builtin "object.__class__") "__get__" = some (some (.builtin "getset_descriptor.__get__"))
  ht : PySem.W.takesIn K (.builtin "object.__class__") = some true
  hm : PySem.W.mroIn K C (.type "object") = some true
  ss : PySem.W.subIn K (.ref C) (.ref C) = some true
  sv : PySem.W.subIn K (.ref C) (.type "ValueError") = some true
theorem ErrF.exc (E : ErrF K C) : ExcC K C := ⟨E.hg, E.hk, E.hs, E.hd, E.ha, E.hn, E.ht, E.hm⟩
theorem ErrF.xfc (E : ErrF K C) : XfC K C := ⟨E.hg, E.hk, E.hs, E.hd⟩
theorem ErrF.is (E : ErrF K C) {b : Bool} (h1 : PySem.W.isClsIn K A = true) (h2 : PySem.W.typeIn K (.ref A) = some (.type "type")) (h3 : PySem.W.subIn K (.ref C) (.ref A) = some b) : IsxC K (.ref A) C b := ⟨E.exc, kit_at E.ss h1 h2 h3⟩
/-- what any law of ints asks -/
theorem CX_none {P : Program} {w : World} {H : Hp} {s s' : Shared} {e : Value} : L2.CX P w [] H s (fun _ _ _ => False) e s' → False := fun ⟨_, _, _, _, _, _, _, _, _, _, _, _, z⟩ => z
theorem isi_in {F : Hp} : ∀ ns : List Int, Rs K F (ns.map V.int) (ns.map D.int)
  | [] => .nil
  | _ :: ns => .cons (.int _) (isi_in ns)
theorem law_in {H : Hp} {a : Addr} {ns : List Int} {sp : SpD} (hS : SqL K H a (ns.map V.int)) (h : ∀ Q E, (∀ M', Q (.d (.bl true)) M') → sp [.lsk (ns.map D.int)] (fun _ => none) Q E) :
    LSp K sp [.ref a] H (fun v _ => v = .bl true) (fun _ _ _ => False) := by
  refine ⟨H, fun _ => none, [.lsk (ns.map D.int)], fun r _ => r = .d (.bl true), fun _ _ _ => False, Ex.refl H, fun _ _ h => (by cases h), .cons (.lsk hS (isi_in ns)) .nil, h _ _ fun _ => rfl, fun r v F' M' H' _ hr e => ?_, fun _ _ _ _ _ _ _ _ _ _ _ h => h⟩
  subst e
  exact hr.bl_inv
end
end DL

set_option Elab.async false
set_option linter.all false
set_option maxRecDepth 100000
set_option maxHeartbeats 2000000
namespace L2
open PySem PySem.Spec PyProof.Rows
/-- {x}: a text, an int or None, as a text -/
def tFmtU (te : TE) : TE := fun σ H Q => te σ H fun x H1 => (∃ y : Str, x = .str y ∧ y.length ≤ sizeLine ∧ Q (.str y) H1) ∨ (∃ i : Int, x = .int i ∧ i.natAbs.log2 < 1920 ∧ Q (.str (toString i)) H1) ∨ (x = .non ∧ Q (.str "None") H1)
theorem pe_fmtU {X : Cx} {e : Expr} {te : TE} {pos : Pos} (he : PE X e te) : PE X (.FormattedValue e (-1) none pos) (tFmtU te) := by
  refine ⟨fun pins s σ H Q I h => ?_⟩
  refine wpAny_FormattedValue_plain (thn (he.run pins s σ H _ I h) fun v s1 hv => ?_)
  obtain ⟨x, H1, I1, r1, q⟩ := hv
  rcases q with ⟨y, rfl, hz, q⟩ | ⟨i, rfl, hz, q⟩ | ⟨rfl, q⟩
  · obtain ⟨t, rfl⟩ := r1
    exact wpAny_formatField_str ⟨.str y, H1, I1, ⟨t, rfl⟩, q⟩ ⟨.str y, H1, I1.tok _, ⟨_, rfl⟩, q⟩ hz
  · obtain ⟨t, rfl⟩ := r1
    exact wpAny_formatField_int hz ⟨.str (toString i), H1, I1.tok _, ⟨_, rfl⟩, q⟩
  · cases r1
    exact wpAny_formatField_none ⟨.str "None", H1, I1.tok _, ⟨_, rfl⟩, q⟩
end L2
namespace DL
open PySem PySem.Spec PyProof.Rows L2
/-! ### f-strings -/
def numI (m : Int) : Str := Str.ofString (toString m)
/-- {x}: a text or an int -/
def fFmt (x : D) (k : Str → Prop) : Prop := (∃ y : Str, x = .str y ∧ y.length ≤ sizeLine ∧ k y) ∨ (∃ i : Int, x = .int i ∧ i.natAbs.log2 < 1920 ∧ k (toString i)) ∨ (x = .non ∧ k "None")
def xFmt (t : DX) : DX := fun δ M Q E => t δ M (fun x M1 => fFmt x fun s => Q (.str s) M1) E
def jsD : List DX → Str → DS → MH → (Str → MH → Prop) → XP → Prop
  | [], acc, _, M, Q, _ => Q acc M
  | t :: ts, acc, δ, M, Q, E => t δ M (fun x M1 => ∃ y, x = .str y ∧ (acc ++ y).length ≤ sizeLine ∧ jsD ts (acc ++ y) δ M1 Q E) E
def dJs (ts : List DX) : DE := fun δ M Q E => jsD ts Str.empty δ M (fun s M' => Q (.d (.str s)) M') E
section
variable {X : Cx} {G : Gd} {W : WX} {e v1 v2 : Expr} {es : List Expr} {pos : Pos} {t : DX} {ts : List DX}
theorem v_fmt (he : PE X e (LO G W t)) : PE X (.FormattedValue e (-1) none pos) (LV G W (xFmt t)) :=
  pe_imp (pe_fmtU he) fun σ H Q ⟨F, δ, M, Qd, Ed, rep, q, k, x⟩ => ⟨F, δ, M, _, Ed, rep, q, fun d v F1 M1 H1 r1 e1 o1 q1 => by
    rcases q1 with ⟨y, hy, hl, q2⟩ | ⟨i, hi, hl, q2⟩ | ⟨hn, q2⟩
    · subst hy
      obtain rfl := opn_str o1
      exact .inl ⟨y, rfl, hl, k _ _ F1 M1 H1 r1 e1 (R.str _) q2⟩
    · subst hi
      obtain rfl := opn_int o1
      exact .inr (.inl ⟨i, rfl, hl, k _ _ F1 M1 H1 r1 e1 (R.str _) q2⟩)
    · subst hn
      obtain rfl := opn_non o1
      exact .inr (.inr ⟨rfl, k _ _ F1 M1 H1 r1 e1 (R.str _) q2⟩), x⟩
theorem js_l : ∀ (ts : List DX) (acc : Str) (σ : L2.St) (H : Hp) (Q : Str → Hp → Prop) (F : Hp) (δ : DS) (M : MH) (Qd : Str → MH → Prop) (Ed : XP), Rep G F δ M σ H → jsD ts acc δ M Qd Ed →
    (∀ s F' M' H', Rep G F' δ M' σ H' → Ex F F' → Qd s M' → Q s H') → XOk G W δ σ Ed → tJs (ts.map (LV G W)) acc σ H Q
  | [], acc, σ, H, Q, F, δ, M, Qd, Ed, rep, q, k, x => k acc F M H rep (Ex.refl F) q
  | t :: ts, acc, σ, H, Q, F, δ, M, Qd, Ed, rep, q, k, x => ⟨F, δ, M, _, Ed, rep, q, fun d v F1 M1 H1 r1 e1 s1 ⟨y, hy, hl, q1⟩ => by
      subst hy
      obtain rfl := s1.str_inv
      exact ⟨y, rfl, hl, js_l ts (acc ++ y) σ H1 Q F1 δ M1 Qd Ed r1 q1 (fun s F' M' H' r e z => k s F' M' H' r (e1.trans e) z) x⟩, x⟩
theorem d_js (h : PJ X (v1 :: v2 :: es) (ts.map (LV G W))) : PE X (.JoinedStr (v1 :: v2 :: es) pos) (LE G W (dJs ts)) :=
  pe_imp (pe_joined h) fun σ H Q ⟨F, δ, M, Qd, Ed, rep, q, k, x⟩ => js_l ts Str.empty σ H _ F δ M _ Ed rep q (fun s F' M' H' r e z => k (.d (.str s)) _ F' M' H' r e (R.str s) z) x
theorem d_js1 (h : PE X e (LV G W t)) : PE X (.JoinedStr [e] pos) (LE G W (dV t)) := d_v (pe_imp (pe_joined1 h) fun _ _ _ h => h)
end
/-! ### text.split(text) -/
def fSplit : FM := fun x ds M Q => ∃ a b, x = .str a ∧ ds = [.str b] ∧ (b.length == 0) = false ∧ a.length + 2 ≤ sizeLine ∧ Q (.own ((Txt.split a b).map D.str)) M
theorem rs_strs {K : PySem.W.Frag} {F : Hp} : ∀ (ns : List Str), Rs K F (ns.map V.str) (ns.map D.str)
  | [] => .nil
  | n :: ns => .cons (.str n) (rs_strs ns)
theorem ml_split {G : Gd} : MtL G (fun x xs H Q => ∃ a b, x = .str a ∧ xs = [.str b] ∧ (b.length == 0) = false ∧ a.length + 2 ≤ sizeLine ∧ rNewStrs (Txt.split a b) H Q) fSplit := by
  rintro F δ M σ H v vs x ds Q Qv rep ho ha ⟨a, b, rfl, rfl, hb, hl, q⟩ k
  obtain rfl := opn_str ho
  obtain ⟨u, rfl, hu⟩ := ha.one
  obtain rfl := opn_str hu
  exact ⟨a, b, rfl, rfl, hb, hl, fun p hp => k _ _ F M _ (rep.addH hp _) (Ex.refl F) (rep.addOwn hp (rs_strs _)) q⟩
section
variable {X : Cx} {G : Gd} {W : WX} {o e : Expr} {apos pos p : Pos} {to : DX} {ta : DA}
theorem d_split (hk : X.K = G.K) (ho : PE X o (LO G W to)) (ha : PA X [e] (LAO G W ta)) (hbase : attributeBase o "split" X.env (eval o X.env) = eval o X.env := by rfl)
    (hfew : ((backTo pos (starEach [e] X.env)).all (fun x => !x.1) && (backToKw pos (keywordEach [] X.env)).all (fun x => x.1.isSome)
      && decide ([e].length + ([] : List Keyword).length + (if ([] : List Keyword).isEmpty then 0 else 1) < 30)) = true := by rfl)
    (hline : (apos.endLine == pos.line) = true := by rfl) (hs : starEach [e] X.env = (false, eval e X.env) :: starEach [] X.env := by rfl) (hplain : (backTo pos (starEach [] X.env)).any (·.1) = false := by rfl) :
    PE X (.Call (.Attribute o "split" apos) [e] [] pos) (LE G W (dM "str" fSplit to ta)) :=
  d_m hk PySem.F.plainAttrs_str PySem.F.slot_str_split PySem.F.type_str_split mt_split ml_split ho ha hbase hfew hline hs hplain
/-! ### int(e): an int, a bool, a text -/
def fIntU : FC := fun ds M Q => fInt ds M Q ∨ ∃ s n, ds = [.str s] ∧ PySem.intText? s = some n ∧ s.length ≤ 640 ∧ Q (.d (.int n)) M
theorem cl_intU {G : Gd} : CallL G (fun xs H Q => ((∃ i, xs = [.int i] ∧ Q (.int i) H) ∨ ∃ k, xs = [.bl k] ∧ Q (.int (if k then 1 else 0)) H) ∨ (∃ a n, xs = [.str a] ∧ PySem.intText? a = some n ∧ a.length ≤ 640 ∧ Q (.int n) H)) fIntU := by
  intro F δ M σ H vs ds Q Qv rep ho h k
  rcases h with h | ⟨s, n, rfl, h1, h2, q⟩
  · exact .inl (cl_int1 F δ M σ H vs ds Q Qv rep ho h k)
  · obtain ⟨u, rfl, hu⟩ := ho.one
    obtain rfl := opn_str hu
    exact .inr ⟨s, n, rfl, h1, h2, k (.d (.int n)) _ F M H rep (Ex.refl F) (R.int n) q⟩
theorem d_intU {t : DA} (hg : Gl X "int") (hm : X.mg "int" = none) (ha : PA X [e] (LAO G W t)) (he : starEach [e] X.env = (false, eval e X.env) :: starEach [] X.env := by rfl) : PE X (.Call (.Name "int" p) [e] [] pos) (LE G W (dCB fIntU t)) :=
  d_callTy (call_int1.or call_int_str) cl_intU hg hm (by decide +kernel) ha (by decide) (by decide) he rfl
end
/-! ### reading -/
section
variable {δ : DS} {M : MH} {E : XP} {A : Sl → MH → Prop} {B : D → MH → Prop} {t : DX} {ts : List DX} {s z acc : Str} {i : Int} {k : Str → Prop} {Q : Str → MH → Prop} {c : Bool}
@[simp ↓] theorem e_xFmt : xFmt t δ M B E = t δ M (fun x M1 => fFmt x fun s => B (.str s) M1) E := rfl
@[simp ↓] theorem fFmt_s : fFmt (.str s) k = (s.length ≤ sizeLine ∧ k s) := propext ⟨fun h => (by
  rcases h with ⟨y, h1, h2⟩ | ⟨_, h1, _⟩ | ⟨h1, _⟩ <;> cases h1
  exact h2), fun h => .inl ⟨s, rfl, h⟩⟩
@[simp ↓] theorem fFmt_i : fFmt (.int i) k = (i.natAbs.log2 < 1920 ∧ k (numI i)) := propext ⟨fun h => (by
  rcases h with ⟨y, h1, h2⟩ | ⟨_, h1, h2⟩ | ⟨h1, _⟩ <;> cases h1
  exact h2), fun h => .inr (.inl ⟨i, rfl, h⟩)⟩
@[simp ↓] theorem fFmt_n : fFmt .non k = k "None" := propext ⟨fun h => (by
  rcases h with ⟨y, h1, h2⟩ | ⟨_, h1, h2⟩ | ⟨_, h2⟩
  · cases h1
  · cases h1
  · exact h2), fun h => .inr (.inr ⟨rfl, h⟩)⟩
def asS (x : D) (k : Str → Prop) : Prop := ∃ y, x = .str y ∧ k y
@[simp ↓] theorem asS_s : asS (.str s) k = k s := propext ⟨fun ⟨_, h, q⟩ => by cases h; exact q, fun q => ⟨s, rfl, q⟩⟩
@[simp ↓] theorem e_dJs : dJs ts δ M A E = jsD ts Str.empty δ M (fun s M' => A (.d (.str s)) M') E := rfl
@[simp ↓] theorem e_jsN : jsD [] acc δ M Q E = Q acc M := rfl
@[simp ↓] theorem e_jsC : jsD (t :: ts) acc δ M Q E = t δ M (fun x M1 => asS x fun y => (acc ++ y).length ≤ sizeLine ∧ jsD ts (acc ++ y) δ M1 Q E) E := rfl
@[simp ↓] theorem e_split : fSplit (.str s) [.str z] M A = ((z.length == 0) = false ∧ s.length + 2 ≤ sizeLine ∧ A (.own ((Txt.split s z).map D.str)) M) := propext ⟨fun ⟨_, _, h1, h2, q⟩ => by cases h1; cases h2; exact q, fun q => ⟨s, z, rfl, rfl, q⟩⟩
@[simp ↓] theorem e_intU_i : fIntU [.int i] M A = A (.d (.int i)) M := propext ⟨fun h => (by
  rcases h with h | ⟨_, _, h, _⟩
  · simpa using h
  · cases h), fun h => .inl (by simpa using h)⟩
@[simp ↓] theorem e_intU_b : fIntU [.bl c] M A = A (.d (.int (if c = true then 1 else 0))) M := propext ⟨fun h => (by
  rcases h with h | ⟨_, _, h, _⟩
  · simpa using h
  · cases h), fun h => .inl (by simpa using h)⟩
@[simp ↓] theorem e_ne_s {a b : Str} {k : Bool → Prop} : fNe (.str a) (.str b) M k = ((PyData.strOk a = true ∧ PyData.strOk b = true) ∧ k (!decide (a = b))) := by
  have e : D.eq (.str a) (.str b) = decide (a = b) := by
    simp only [D.eq, D.toP, PyData.eqv]
    by_cases h : a = b <;> simp [h]
  have o : ∀ s : Str, D.Ok (.str s) ↔ PyData.strOk s = true := fun s => ⟨fun h => by have := h.1; simpa [D.nr] using this, fun h => ⟨by simpa [D.nr] using h, by simp [D.dp]⟩⟩
  unfold fNe
  rw [e]
  exact propext ⟨fun ⟨h1, h2, q⟩ => ⟨⟨(o _).mp h1, (o _).mp h2⟩, q⟩, fun ⟨⟨h1, h2⟩, q⟩ => ⟨(o _).mpr h1, (o _).mpr h2, q⟩⟩
def inK (s : Str) (k : Int → Prop) : Prop := ∃ n, PySem.intText? s = some n ∧ s.length ≤ 640 ∧ k n
@[simp ↓] theorem e_intU_s : fIntU [.str s] M A = inK s fun n => A (.d (.int n)) M := propext ⟨fun h => (by
  rcases h with ⟨_, h, q⟩ | ⟨_, n, h, q⟩
  · cases h; exact q.elim
  · cases h; exact ⟨n, q⟩), fun ⟨n, q⟩ => .inr ⟨s, n, rfl, q⟩⟩
end
end DL

set_option Elab.async false
set_option linter.all false
set_option maxRecDepth 100000
set_option maxHeartbeats 2000000
namespace L2
open PySem PySem.Spec PyProof.Rows
/-! ### calls by keywords, what is raised wished for at the slots -/
def tCallNS (n m : Nat) (sp : Sp) (gV : List V → List V → List V) (E : St → XK) (t tk : TA) : TE := fun σ H Q => t σ H fun vs H1 => tk σ H1 fun zs H2 => vs.length = n ∧ zs.length = m ∧ sp (gV vs zs) H2 Q (E σ)
section
variable {X : Cx} {CX : CXT} {k n : Nat} {f : Addr} {fd : FuncData} {ps ks : List Str} {sp : Sp} {E : St → XK} {x : Str} {p pos : Pos} {e : Expr} {es : List Expr} {kws : List Keyword} {t tk : TA} {g : List Value → List Value → List Value} {gV : List V → List V → List V}
theorem run_fnNS {pins : List (Addr × Obj)} {σ : St} {H : Hp} {s : Shared} {Q : VK} {us ws : List Value} {vs zs : List V} (F : FnOk X.prog X.w X.K X.mg X.base CX k f fd ps sp) (hr : Room k X.A) (hb : KBn X.K fd ps n ks g gV) (hx : PassesAt CX X σ (E σ))
    (I : Inv X pins σ H s) (r : Vals vs us) (rz : Vals zs ws) (l1 : vs.length = n) (l2 : zs.length = ks.length) (h : sp (gV vs zs) H Q (E σ)) : wpAny (model X.prog X.w) X.A (call (.ref f) us (ks.zip ws)) (EP X pins σ Q) X.xe s := by
  have r2 := hb.rel r rz
  refine wpAny_call (codeAny_mono (F.run X.A X.stack s H ⟨us, ks.zip ws⟩ (g us ws) (gV vs zs) Q (E σ) hr I.env0 (hb.to s us ws I.kIn (r.length.symm.trans l1) (rz.length.symm.trans l2)) r2 h) fun r s' hq => ?_)
  cases r with
  | error e => exact hx pins H s e s' I hq
  | ok fl =>
    cases fl with
    | ret u => exact I.after hq
    | next => exact False.elim hq
    | brk => exact False.elim hq
    | cont => exact False.elim hq
theorem pe_callNS (F : FnOk X.prog X.w X.K X.mg X.base CX k f fd ps sp) (hr : Room k X.A) (hg : Gl X x) (hm : X.mg x = some (.ref f)) (hk : PySem.W.keepIn X.K (.ref f) = true) (hb : KBn X.K fd ps n ks g gV) (hx : ∀ σ, PassesAt CX X σ (E σ))
    (ha : PA X (e :: es) t) (hkw : PK X kws tk) (hall : (backToKw pos (keywordEach kws X.env)).all (·.1.isSome) = true := by rfl) (hks : (backToKw pos (keywordEach kws X.env)).filterMap (·.1) = ks := by rfl)
    (hdb : (x == ("__debug__" : Str)) = false := by decide) (he : starEach (e :: es) X.env = (false, eval e X.env) :: starEach es X.env := by rfl)
    (hpl : ((backTo pos (starEach (e :: es) X.env)).any (·.1) || (backToKw pos (keywordEach kws X.env)).any (·.1.isNone)) = false := by rfl) :
    PE X (.Call (.Name x p) (e :: es) kws pos) (tCallNS n ks.length sp gV E t tk) := by
  refine ⟨fun pins s σ H Q I h => ?_⟩
  refine wpAny_Call_Name_kw (ld_glob I hg hm ?_ hdb)
  refine PySem.W.callWith_KW (h₀ := X.base) I.ok.mod.kin hk hall (thn (ha.run pos pins s σ H _ I h) fun us s1 ⟨vs, H1, I1, r, q⟩ => ?_) hpl he
  refine thn (hkw.run pos pins s1 σ H1 _ I1 q) fun ws s2 ⟨zs, H2, I2, rz, l1, l2, q2⟩ => ⟨I2.kIn, ?_⟩
  rw [hks]
  exact run_fnNS F hr hb (hx σ) I2 r rz l1 l2 q2
end
end L2
namespace DL
open PySem PySem.Spec PyProof.Rows L2
/-! ### a def called by n values and keywords ks, the rest by its keyword-only defaults -/
structure CalK (P : Program) (w : World) (K : PySem.W.Frag) (mg : Str → Option Value) (base : Heap) (k : Nat) (x : Str) (n : Nat) (ks : List Str) (sp : SpD) : Prop where
  ex : ∃ (f : Addr) (fd : FuncData) (ps : List Str) (spf : SpD) (g : List Value → List Value → List Value) (gV : List V → List V → List V), FnOk P w K mg base (L2.CX P w) k f fd ps (LSp K spf) ∧ mg x = some (.ref f) ∧ PySem.W.keepIn K (.ref f) = true ∧ KBn K fd ps n ks g gV ∧
    ∀ (ds zs : List D) (M : MH) Q E, ds.length = n → zs.length = ks.length → sp (ds ++ zs) M Q E → ∃ es, spf es M Q E ∧ ∀ (F : Hp) vs ws, Rs K F vs ds → Rs K F ws zs → Rs K F (gV vs ws) es
def dCallK (n m : Nat) (sp : SpD) (t tk : DA) : DE := fun δ M Q E => t δ M (fun ds M1 => tk δ M1 (fun zs M2 => ds.length = n ∧ zs.length = m ∧ sp (ds ++ zs) M2 Q (fun C fs M3 => E C fs δ M3)) E) E
theorem Rs.mono' {K : PySem.W.Frag} {F F' : Hp} (e : Ex F F') {vs : List V} {ds : List D} (h : Rs K F vs ds) : Rs K F' vs ds := Rs.mono e h
section
variable {X : Cx} {G : Gd} {W : WX} {e : Expr} {es : List Expr} {pos p kpos : Pos} {t tk : DA} {kws : List Keyword} {nm : Option Str} {td : DX}
theorem pk_imp {t t' : TA} (h : PK X kws t) (k : ∀ σ H Q, t' σ H Q → t σ H Q) : PK X kws t' := ⟨fun pos pins s σ H Q I z => h.run pos pins s σ H Q I (k σ H Q z)⟩
theorem k_nil : PK X [] (LA G W aNil) := pk_imp pk_nil fun σ H Q ⟨F, δ, M, Qd, Ed, rep, q, k, x⟩ => k [] [] F M H rep (Ex.refl F) .nil q
theorem k_cons (ha : PE X e (LV G W td)) (hr : PK X kws (LA G W tk)) : PK X (⟨nm, e, kpos⟩ :: kws) (LA G W (aCons td tk)) :=
  pk_imp (pk_cons ha hr) fun σ H Q ⟨F, δ, M, Qd, Ed, rep, q, k, x⟩ => ⟨F, δ, M, _, Ed, rep, q, fun d v F1 M1 H1 rep1 e1 s1 q1 =>
    ⟨F1, δ, M1, _, Ed, rep1, q1, fun ds vs F2 M2 H2 rep2 e2 s2 q2 => k _ _ F2 M2 H2 rep2 (e1.trans e2) (.cons (s1.mono e2) s2) q2, x⟩, x⟩
theorem d_calK {k n : Nat} {ks : List Str} {sp : SpD} {x : Str} (Y : CalK X.prog X.w X.K X.mg X.base k x n ks sp) (hK : X.K = G.K) (hr : Room k X.A) (hg : Gl X x) (tx : Takes X W) (ha : PA X (e :: es) (LA G W t)) (hkw : PK X kws (LA G W tk))
    (hall : (backToKw pos (keywordEach kws X.env)).all (·.1.isSome) = true := by rfl) (hks : (backToKw pos (keywordEach kws X.env)).filterMap (·.1) = ks := by rfl)
    (hdb : (x == ("__debug__" : Str)) = false := by decide) (he : starEach (e :: es) X.env = (false, eval e X.env) :: starEach es X.env := by rfl)
    (hpl : ((backTo pos (starEach (e :: es) X.env)).any (·.1) || (backToKw pos (keywordEach kws X.env)).any (·.1.isNone)) = false := by rfl) :
    PE X (.Call (.Name x p) (e :: es) kws pos) (LE G W (dCallK n ks.length sp t tk)) := by
  obtain ⟨f, fd, ps, spf, g, gV, FO, hm, hk, hb, hp⟩ := Y.ex
  refine pe_imp (pe_callNS FO hr hg hm hk hb (fun σ => passAt tx σ) ha hkw hall hks hdb he hpl) fun σ H Q ⟨F, δ, M, Qd, Ed, rep, q, kk, x⟩ => ⟨F, δ, M, _, Ed, rep, q, fun ds vs F1 M1 H1 rep1 e1 s1 q1 =>
    ⟨F1, δ, M1, _, Ed, rep1, q1, fun zs ws F2 M2 H2 rep2 e2 s2 ⟨l1, l2, q2⟩ => ?_, x⟩, x⟩
  obtain ⟨es', q3, hr'⟩ := hp ds zs M2 _ _ l1 l2 q2
  refine ⟨by rw [s1.length]; exact l1, by rw [s2.length]; exact l2, ?_⟩
  rw [hK] at hr' ⊢
  exact ⟨F2, M2, es', Qd, _, rep2.fr.ex, rep2.fr.mem, hr' F2 vs ws (s1.mono e2) s2, q3,
    fun r v F' M' H' f ret q' => kk r v F' M' H' (rep2.call f) (e1.trans (e2.trans f.ex0)) (ret.sv rep2) q',
    fun C fs F' M' H' dx fv f hd hf h0 q' => x C fs F' M' H' dx fv (rep2.call f) hd hf (rep2.fr.h0 h0) q'⟩
end
section
variable {δ : DS} {M : MH} {X : XP} {A : Sl → MH → Prop} {t tk : DA} {n m : Nat} {sp : SpD}
@[simp ↓] theorem e_dCallK : dCallK n m sp t tk δ M A X = t δ M (fun ds M1 => tk δ M1 (fun zs M2 => ds.length = n ∧ zs.length = m ∧ sp (ds ++ zs) M2 A (fun C fs M3 => X C fs δ M3)) X) X := rfl
end
/-! ### how a def's arguments bind by keywords: the positional ones, then keywords and defaults by place -/
inductive Sr (α : Type) where
  | kw (j : Nat) | df (a : α)
def put {α : Type} (src : List (Sr α)) (ws : List α) : List α := src.filterMap fun s => match s with
  | .kw j => ws[j]?
  | .df a => some a
inductive Srs {α β : Type} (r : α → β → Prop) : List (Sr α) → List (Sr β) → Prop
  | nil : Srs r [] []
  | kw {j : Nat} {a : List (Sr α)} {b : List (Sr β)} : Srs r a b → Srs r (.kw j :: a) (.kw j :: b)
  | df {x : α} {y : β} {a : List (Sr α)} {b : List (Sr β)} : r x y → Srs r a b → Srs r (.df x :: a) (.df y :: b)
theorem vals_get : ∀ {vs : List V} {us : List Value} (j : Nat), Vals vs us → (vs[j]? = none ∧ us[j]? = none) ∨ ∃ v u, vs[j]? = some v ∧ us[j]? = some u ∧ RelV v u
  | _, _, _, .nil => .inl ⟨rfl, rfl⟩
  | _, _, 0, .cons h _ => .inr ⟨_, _, rfl, rfl, h⟩
  | _, _, j + 1, .cons _ r => by simpa using vals_get j r
theorem vals_put {zs : List V} {ws : List Value} (h : Vals zs ws) : ∀ {a : List (Sr V)} {b : List (Sr Value)}, Srs RelV a b → Vals (put a zs) (put b ws)
  | _, _, .nil => .nil
  | _, _, .kw (j := j) r => by
    rcases vals_get j h with ⟨h1, h2⟩ | ⟨v, u, h1, h2, h3⟩
    · have := vals_put h r
      simpa [put, h1, h2] using this
    · have := vals_put h r
      simpa [put, h1, h2] using (Paired.cons h3 this : Vals _ _)
  | _, _, .df q r => by
    have := vals_put h r
    simpa [put] using (Paired.cons q this : Vals _ _)
theorem rs_getD {K : PySem.W.Frag} {F : Hp} : ∀ {vs : List V} {ds : List D} (j : Nat), Rs K F vs ds → (vs[j]? = none ∧ ds[j]? = none) ∨ ∃ v d, vs[j]? = some v ∧ ds[j]? = some d ∧ R K F v d
  | _, _, _, .nil => .inl ⟨rfl, rfl⟩
  | _, _, 0, .cons h _ => .inr ⟨_, _, rfl, rfl, h⟩
  | _, _, j + 1, .cons _ r => by simpa using rs_getD j r
theorem rs_put {K : PySem.W.Frag} {F : Hp} {zs : List V} {ws : List D} (h : Rs K F zs ws) : ∀ {a : List (Sr V)} {b : List (Sr D)}, Srs (R K F) a b → Rs K F (put a zs) (put b ws)
  | _, _, .nil => .nil
  | _, _, .kw (j := j) r => by
    rcases rs_getD j h with ⟨h1, h2⟩ | ⟨v, u, h1, h2, h3⟩
    · have := rs_put h r
      simpa [put, h1, h2] using this
    · have := rs_put h r
      simpa [put, h1, h2] using Rs.cons h3 this
  | _, _, .df q r => by
    have := rs_put h r
    simpa [put] using Rs.cons q this
theorem vals_app {a b : List V} {c d : List Value} (h : Vals a c) (h2 : Vals b d) : Vals (a ++ b) (c ++ d) := h.append h2
section
variable {K : PySem.W.Frag} {fd : FuncData} {ps ks : List Str} {n : Nat}
theorem kbn_mk {D : Addr} {l : List (Str × Value)} {src : List (Sr Value)} {srcV : List (Sr V)} (hr : Srs RelV srcV src) (hl : ∀ q ∈ l, PySem.W.nsIn K D q.1 = some (some q.2))
    (h : ∀ us ws : List Value, us.length = n → ws.length = ks.length → KwChain D l (bindArgs fd ⟨us, ks.zip ws⟩) (ps.zip (us ++ put src ws))) : KBn K fd ps n ks (fun us ws => us ++ put src ws) (fun vs zs => vs ++ put srcV zs) :=
  ⟨fun s us ws X l1 l2 => BindsTo.of_looks fun M => KwChain.looks X hl (h us ws l1 l2), fun r1 r2 => vals_app r1 (vals_put r2 hr)⟩
theorem calK_mk {P : Program} {w : World} {mg : Str → Option Value} {base : Heap} {k : Nat} {x : Str} {f : Addr} {sp spf : SpD} {src : List (Sr Value)} {srcV : List (Sr V)} {srcD : List (Sr D)}
    (Y : FnOk P w K mg base (L2.CX P w) k f fd ps (LSp K spf)) (hm : mg x = some (.ref f)) (hk : PySem.W.keepIn K (.ref f) = true) (kb : KBn K fd ps n ks (fun us ws => us ++ put src ws) (fun vs zs => vs ++ put srcV zs))
    (hR : ∀ F : Hp, Srs (R K F) srcV srcD) (hsp : ∀ (ds zs : List D) (M : MH) Q E, ds.length = n → zs.length = ks.length → sp (ds ++ zs) M Q E → spf (ds ++ put srcD zs) M Q E) : CalK P w K mg base k x n ks sp :=
  ⟨f, fd, ps, spf, _, _, Y, hm, hk, kb, fun ds zs M Q E l1 l2 h => ⟨_, hsp ds zs M Q E l1 l2 h, fun F vs ws r1 r2 => r1.append (rs_put r2 (hR F))⟩⟩
end
end DL

set_option Elab.async false
set_option linter.all false
set_option maxRecDepth 100000
set_option maxHeartbeats 2000000
namespace HT
open PySem PySem.Spec PyProof.Rows
section
variable {prog : Program} {w : World} {A : Around} {E : Value → Shared → Prop} {s : Shared}
theorem fm_congr {α β : Type} {f g : α → Option β} : ∀ {l : List α}, (∀ x ∈ l, f x = g x) → l.filterMap f = l.filterMap g
  | [], _ => rfl
  | x :: l, h => by
    rw [List.filterMap_cons, List.filterMap_cons, h x (List.mem_cons_self ..), fm_congr fun y hy => h y (List.mem_cons_of_mem _ hy)]
theorem adjust_rev (n : Nat) : Builtin.Slice.sliceAdjust none none (-1) (n : Int) = ((n : Int) - 1, -1) := by
  unfold Builtin.Slice.sliceAdjust
  have h1 : ((-1 : Int) < 0) := by omega
  simp only [h1, if_true]
theorem places_rev (n : Nat) : Builtin.Slice.slicePlaces ((n : Int) - 1) (-1) (-1) = n := by
  unfold Builtin.Slice.slicePlaces
  have h1 : ¬ ((-1 : Int) > 0) := by omega
  simp only [h1, if_false]
  split <;> simp <;> omega
theorem pick_rev (xs : Array Value) : ((List.range xs.size).filterMap fun (m : Nat) => xs[((xs.size : Int) - 1 + (m : Int) * -1).toNat]?).toArray = xs.toList.reverse.toArray := by
  have e : ((List.range xs.size).filterMap fun (m : Nat) => xs[((xs.size : Int) - 1 + (m : Int) * -1).toNat]?) = ((List.range xs.size).map fun k => xs.size - 1 - k).filterMap (xs[·]?) := by
    rw [List.filterMap_map]
    apply fm_congr
    intro m hm
    have := List.mem_range.mp hm
    show _ = xs[xs.size - 1 - m]?
    congr 1
    omega
  rw [e, PySem.W.krv_range, List.filterMap_reverse, PySem.W.krv_all]
theorem sliceApplied_rev {sl : Addr} {vs : Value} {n : Nat} {Q : Int × Int × Nat → Shared → Prop} (hs : s.heap.IsSliceOf sl .none .none vs) (ps : IsPart vs (some (-1)))
    (h : Q ((n : Int) - 1, -1, n) s) : wpAny (model prog w) A (Builtin.Slice.sliceApplied (.ref sl) (pure (n : Int))) Q E s := by
  obtain ⟨os, hos, hcs, hds⟩ := id hs
  unfold Builtin.Slice.sliceApplied Builtin.Slice.sliceFields
  refine wpAny_bind (wpAny_bind (wpAny_field hos hds (x := .none) rfl (wpAny_bind (wpAny_field hos hds (x := .none) rfl (wpAny_bind (wpAny_field hos hds (x := vs) rfl (wpAny_pure ?_)))))))
  refine wpAny_bind (slicePart_ ps ?_)
  show wpAny _ _ (if ((-1 : Int) == 0) = true then _ else _) _ _ s
  rw [if_neg (by decide)]
  refine wpAny_bind (slicePart_none (wpAny_bind (slicePart_none (wpAny_bind (wpAny_pure ?_)))))
  show wpAny _ _ (match Builtin.Slice.sliceAdjust none none (-1) (n : Int) with | (lo, hi) => pure (lo, (-1 : Int), Builtin.Slice.slicePlaces lo hi (-1))) _ _ s
  rw [adjust_rev n]
  show wpAny _ _ (pure ((n : Int) - 1, (-1 : Int), Builtin.Slice.slicePlaces ((n : Int) - 1) (-1) (-1))) _ _ s
  rw [places_rev]
  exact wpAny_pure h
theorem getItem_tuple_rev {t sl : Addr} {items : Array Value} {vs : Value} {Q : Value → Shared → Prop} (ht : IsTup s.heap t items) (hs : s.heap.IsSliceOf sl .none .none vs) (ps : IsPart vs (some (-1)))
    (h : Q (.ref s.heap.objs.size) { s with heap := s.heap.push { cls := .type "tuple", data := .seq items.toList.reverse.toArray } })
    (hsz : items.size ≤ sizeLine) : wpAny (model prog w) A (getItem (.ref t) (.ref sl)) Q E s := by
  have htake : sizeOk (.seq items.toList.reverse.toArray) := by
    show items.toList.reverse.toArray.size ≤ sizeLine
    rw [List.size_toArray, List.length_reverse, Array.length_toList]
    exact hsz
  obtain ⟨os, hos, hcs, hds⟩ := id hs
  have hTs : s.TypeIs (.ref sl) "slice" := ⟨os, hos, hcs⟩
  unfold getItem
  try with_reducible refine wpAny_holding ?_
  first | refine wpAny_bind (wpAny_pure ?_) | skip
  refine wpAny_bind (wpAny_sequenceKey ht.typeIs (by decide) ?_)
  refine wpAny_bind (wpAny_callSpecial?_slot (name := Str.ofString "__getitem__") ht.typeIs PyProof.Rows.slot_tuple_getitem
    (wpAny_call_entry PyProof.Rows.slot_tuple_getitem ht.typeIs entry_tuple_getitem ?_ (args_tuple_getitem _ _)))
  show wpAny _ _ (Builtin.Tuple.tupleItemsOf (.ref t) >>= _) _ _ s
  refine wpAny_bind (tupleItemsOf_ ht ?_)
  refine wpAny_bind (wpAny_typeOf hTs ?_)
  rw [if_pos (by decide)]
  refine wpAny_bind (sliceApplied_rev hs ps ?_)
  have hno : ¬ (((items.size : Int) - 1 == 0 && (-1 : Int) == 1 && items.size == items.size) = true) := by simp
  show wpAny _ _ (if ((items.size : Int) - 1 == 0 && (-1 : Int) == 1 && items.size == items.size) = true then _ else _) _ _ s
  rw [if_neg hno, pick_rev]
  first
    | exact wpAny_bind (m := Builtin.Tuple.tupleExact _) (wpAny_newObj_type (wpAny_pure ⟨_, rfl, wpAny_pure h⟩) htake)
    | exact wpAny_bind (m := Builtin.Tuple.tupleExact _) (wpAny_newObj_type (wpAny_bind (wpAny_pure (wpAny_pure ⟨_, rfl, wpAny_pure h⟩))) htake)
    | exact wpAny_bind (wpAny_bind (m := Builtin.Tuple.tupleExact _) (wpAny_newObj_type (wpAny_pure (wpAny_pure ⟨_, rfl, wpAny_pure h⟩)) htake))
    | exact wpAny_bind (wpAny_bind (m := Builtin.Tuple.tupleExact _) (wpAny_newObj_type (wpAny_pure ⟨_, rfl, wpAny_pure h⟩) htake))
end
end HT
namespace L2
open PySem PySem.Spec PyProof.Rows
def tRevU (K : PySem.W.Frag) (te : TE) : TE := fun σ H Q => te σ H fun x H1 => ∃ a xs, x = .ref a ∧ ((SqT K H1 a xs ∧ ∀ p, H1 p = none → Q (.ref p) (upd H1 p (.tup xs.reverse))) ∨ (SqL K H1 a xs ∧ ∀ p, H1 p = none → Q (.ref p) (upd H1 p (.lst xs.reverse))))
theorem pe_revU {X : Cx} {e : Expr} {te : TE} {k : Nat} {p1 p2 p3 pos : Pos} (he : PE X e te) : PE X (.Subscript e (.Slice none none (some (.UnaryOp .USub (.Constant (.int 1) k p1) p2)) p3) pos) (tRevU X.K te) := by
  refine ⟨fun pins s σ H Q I h => ?_⟩
  refine Subscript_ (thn (he.run pins s σ H _ I h) fun v s1 ⟨x, H1, I1, r1, q1⟩ => ?_)
  obtain ⟨a, xs, ex, q⟩ := q1
  subst ex
  cases r1
  have hst : PO X (some (.UnaryOp .USub (.Constant (.int 1) k p1) p2)) (tPart (tUn (rU fun i => .int (-i)) (tC (.int 1)))) := po_some (pe_un un_neg pe_int)
  refine wpAny_Slice (thn (po_none.run pins s1 σ H1 (fun o H2 => o = none ∧ H2 = H1) I1 ⟨rfl, rfl⟩) fun vl s2 ⟨l, H2, I2, pl, el, e2⟩ => ?_)
  subst el e2
  refine thn (po_none.run pins s2 σ H2 (fun o H3 => o = none ∧ H3 = H2) I2 ⟨rfl, rfl⟩) fun vu s3 ⟨u, H3, I3, pu, eu, e3⟩ => ?_
  subst eu e3
  refine thn (hst.run pins s3 σ H3 (fun o H4 => o = some (-1) ∧ H4 = H3) I3 ⟨1, rfl, -1, rfl, rfl, rfl⟩) fun vs s4 ⟨o, H4, I4, ps, eo, e4⟩ => ?_
  subst eo e4
  have I5 : Inv X pins σ H4 { s4 with heap := s4.heap.push { cls := .type "slice", data := .fields #[vl, vu, vs] } } := I4.kept (t' := s4.toks) fun b ob q => Heap.get?_push_of_some _ q
  rcases q with ⟨hx, q⟩ | ⟨hx, q⟩
  · obtain ⟨its, r, ht, hz⟩ := I5.tuple hx
    have hlen := r.length
    cases pl
    cases pu
    show wpAny (model X.prog X.w) X.A (subscriptTail e (.Slice none none (some (.UnaryOp .USub (.Constant (.int 1) k p1) p2)) p3) (.ref a) (.ref s4.heap.objs.size)) (EP X pins σ Q) X.xe { s4 with heap := s4.heap.push { cls := .type "slice", data := .fields #[.none, .none, vs] } }
    refine tail_any (ops := [.ref a, .ref s4.heap.objs.size]) ht.typeIs (PyProof.Rows.slot_tuple_getitem.lookup) ?_ (by with_unfolding_all rfl)
    refine HT.getItem_tuple_rev ht (Heap.IsSliceOf.new _ .none .none vs) ps ?_ (by rw [List.size_toArray]; omega)
    refine ⟨.ref _, _, I5.laid (t' := s4.toks) (o := .tup xs.reverse) (fun b ob q => Heap.get?_push_of_some _ q) (Nat.le_refl _) ?_, rfl, q _ (I5.hok.fresh (Nat.le_refl _))⟩
    refine ⟨by rw [List.length_reverse]; omega, _, r.reverse, ?_⟩
    exact IsTup.new _ _
  · obtain ⟨its, r, ht, hz⟩ := I5.list hx
    have hlen := r.length
    show wpAny (model X.prog X.w) X.A (subscriptTail e (.Slice none none (some (.UnaryOp .USub (.Constant (.int 1) k p1) p2)) p3) (.ref a) (.ref s4.heap.objs.size)) (EP X pins σ Q) X.xe { s4 with heap := s4.heap.push { cls := .type "slice", data := .fields #[vl, vu, vs] } }
    refine tail_any (ops := [.ref a, .ref s4.heap.objs.size]) ht.isList.typeIs (PySem.slot_list_getitem.lookup) ?_ (by with_unfolding_all rfl)
    refine wpAny_getItem_list_slice ht.isList (Heap.IsSliceOf.new _ vl vu vs) pl pu ps (by decide) ?_ (by rw [List.size_toArray]; omega)
    rw [PySem.W.krv_pick]
    refine ⟨.ref _, _, I5.laid (t' := s4.toks) (o := .lst xs.reverse) (fun b ob q => Heap.get?_push_of_some _ q) (Nat.le_refl _) ?_, rfl, q _ (I5.hok.fresh (Nat.le_refl _))⟩
    exact ⟨by rw [List.length_reverse]; exact hz, _, 0, r.reverse, Heap.get?_push_size _ rfl⟩
end L2
namespace DL
open PySem PySem.Spec PyProof.Rows L2
/-! ### xs[::-1] -/
def fRev (x : D) (M : MH) (Q : Sl → MH → Prop) : Prop := (∃ xs, x = .tup xs ∧ Q (.d (.tup xs.reverse)) M) ∨ ∃ xs, seqOf M x = some xs ∧ Q (.own xs.reverse) M
def dRev (t : DX) : DE := fun δ M Q E => t δ M (fun x M1 => fRev x M1 Q) E
section
variable {X : Cx} {G : Gd} {W : WX} {e : Expr} {k : Nat} {p1 p2 p3 pos : Pos} {t : DX}
theorem d_rev (hk : X.K = G.K) (he : PE X e (LO G W t)) : PE X (.Subscript e (.Slice none none (some (.UnaryOp .USub (.Constant (.int 1) k p1) p2)) p3) pos) (LE G W (dRev t)) :=
  pe_imp (pe_revU he) fun σ H Q ⟨F, δ, M, Qd, Ed, rep, q, k, x⟩ => ⟨F, δ, M, _, Ed, rep, q, fun d v F1 M1 H1 r1 e1 o1 q1 => by
    rw [hk]
    rcases q1 with ⟨xs, hx, q1⟩ | ⟨xs, hx, q1⟩
    · subst hx
      obtain ⟨a, vs, rfl, h1, h2⟩ := o1.tup r1
      refine ⟨a, vs, rfl, .inl ⟨h1, fun p hp => ?_⟩⟩
      have e := Ex.new (o := HO.tup vs.reverse) (r1.fr.f_none hp)
      exact k (.d (.tup _)) _ _ M1 _ (r1.addF hp (.tup vs.reverse)) (e1.trans e) (R.tup (.inl (.inl upd_same)) (h2.reverse.mono e)) q1
    · obtain ⟨a, vs, rfl, h1, h2⟩ := seqOf_at r1 o1 hx
      exact ⟨a, vs, rfl, .inr ⟨h1, fun p hp => k _ _ F1 M1 _ (r1.addH hp (.lst vs.reverse)) e1 (r1.addOwn hp h2.reverse) q1⟩⟩, x⟩
end
section
variable {δ : DS} {M : MH} {X : XP} {A : Sl → MH → Prop} {t : DX} {r : List D}
@[simp ↓] theorem e_dRev : dRev t δ M A X = t δ M (fun x M1 => fRev x M1 A) X := rfl
@[simp ↓] theorem fRev_t : fRev (.tup r) M A = A (.d (.tup r.reverse)) M := propext ⟨fun h => (by
  rcases h with ⟨_, h, q⟩ | ⟨_, h, q⟩ <;> cases h
  exact q), fun q => .inl ⟨r, rfl, q⟩⟩
@[simp ↓] theorem fRev_l : fRev (.lst r) M A = A (.own r.reverse) M := propext ⟨fun h => (by
  rcases h with ⟨_, h, q⟩ | ⟨_, h, q⟩ <;> cases h
  exact q), fun q => .inr ⟨r, rfl, q⟩⟩
end
end DL

set_option Elab.async false
set_option linter.all false
set_option maxRecDepth 100000
set_option maxHeartbeats 2000000
namespace DL
open PySem PySem.Spec PyProof.Rows L2
/-! ### methods that take values, of a shared list -/
def MtV (G : Gd) (r : V → List V → Hp → VK → Prop) (f : FM) : Prop := ∀ F δ M σ H v vs x ds Q Qv, Rep G F δ M σ H → Opn G F δ σ v x → Rs G.K F vs ds → f x ds M Q →
  (∀ z w F' M' H', Rep G F' δ M' σ H' → Ex F F' → SvR G F' δ M' σ H' w z → Q z M' → Qv w H') → r v vs H Qv
theorem m_lV {G : Gd} {W : WX} {T : String} {r : V → List V → Hp → VK → Prop} {f : FM} {to : DX} {ta : DA} (hl : MtV G r f) {σ : L2.St} {H : Hp} {Q : VK} (h : LE G W (dM T f to ta) σ H Q) : tBM G.K T r (LO G W to) (LA G W ta) σ H Q := by
  obtain ⟨F, δ, M, Qd, Ed, rep, q, k, x⟩ := h
  exact ⟨F, δ, M, _, Ed, rep, q, fun d v F1 M1 H1 r1 e1 o1 ⟨t1, q1⟩ => ⟨tyD_v r1 o1 t1, F1, δ, M1, _, Ed, r1, q1, fun ds vs F2 M2 H2 r2 e2 o2 q2 =>
    hl F2 δ M2 σ H2 v vs d ds Qd Q r2 (o1.mono e2) o2 q2 fun z w F3 M3 H3 r3 e3 s3 q3 => k z w F3 M3 H3 r3 (e1.trans (e2.trans e3)) s3 q3, x⟩, x⟩
theorem Opn.ref {G : Gd} {F : Hp} {δ : DS} {σ : L2.St} {v : V} {a : Addr} (h : Opn G F δ σ v (.ref a)) : v = .ref a := (h.val (fun _ z => by cases z)).ref_inv
theorem Rep.shared {G : Gd} {F : Hp} {δ : DS} {M : MH} {σ : L2.St} {H : Hp} {a : Addr} {xs : List D} (r : Rep G F δ M σ H) (h : M a = some (.lst xs)) : ∃ vs, H a = some (.lst vs) ∧ Rs G.K F vs xs := (r.fr.mem a _ h).2
theorem Rep.chgL {G : Gd} {F : Hp} {δ : DS} {M : MH} {σ : L2.St} {H : Hp} {a : Addr} {xs ys : List D} {vs : List V} (r : Rep G F δ M σ H) (h : M a = some (.lst xs)) (rs : Rs G.K F vs ys) : Rep G F δ (mu M a (.lst ys)) σ (upd H a (.lst vs)) := by
  obtain ⟨us, hu, _⟩ := r.shared h
  exact r.chgM h (fun fv z => by rw [hu] at z; cases z) ⟨vs, upd_same, rs⟩
def fApp : FM := fun x ds M Q => ∃ a xs d, x = .ref a ∧ ds = [d] ∧ M a = some (.lst xs) ∧ xs.length < sizeLine ∧ Q (.d .non) (mu M a (.lst (xs ++ [d])))
def fIns : FM := fun x ds M Q => ∃ a xs i d, x = .ref a ∧ ds = [.int i, d] ∧ M a = some (.lst xs) ∧ xs.length < sizeLine ∧ 0 ≤ i ∧ i < 2 ^ 63 ∧ Q (.d .non) (mu M a (.lst (xs.take i.toNat ++ [d] ++ xs.drop i.toNat)))
def fPopAt : FM := fun x ds M Q => ∃ a xs i k d, x = .ref a ∧ ds = [.int i] ∧ M a = some (.lst xs) ∧ -(2 ^ 63) ≤ i ∧ i < 2 ^ 63 ∧ seqIndex? i xs.length = some k ∧ xs[k]? = some d ∧ Q (.d d) (mu M a (.lst (xs.eraseIdx k)))
def fPop : FM := fun x ds M Q => ∃ a xs d, x = .ref a ∧ ds = [] ∧ M a = some (.lst xs) ∧ xs[xs.length - 1]? = some d ∧ Q (.d d) (mu M a (.lst xs.dropLast))
section
variable {G : Gd}
theorem mv_app : MtV G rAppend fApp := by
  rintro F δ M σ H v vs x ds Q Qv rep ho hs ⟨a, xs, d, rfl, rfl, hm, hl, q⟩ k
  obtain rfl := ho.ref
  obtain ⟨us, hu, hr⟩ := rep.shared hm
  cases hs with
  | cons h1 h2 =>
    cases h2
    exact ⟨a, us, _, rfl, rfl, hu, by rw [hr.length]; exact hl, k (.d .non) _ F _ _ (rep.chgL hm (hr.append (.cons h1 .nil))) (Ex.refl F) R.non q⟩
theorem mv_ins : MtV G (fun x vs H Q => ∃ (l : Addr) (xs : List V) (i : Int) (y : V), x = .ref l ∧ vs = [.int i, y] ∧ H l = some (.lst xs) ∧ xs.length < sizeLine ∧ 0 ≤ i ∧ i < 2 ^ 63 ∧ Q .non (upd H l (.lst (xs.take i.toNat ++ [y] ++ xs.drop i.toNat)))) fIns := by
  rintro F δ M σ H v vs x ds Q Qv rep ho hs ⟨a, xs, i, d, rfl, rfl, hm, hl, h0, h1, q⟩ k
  obtain rfl := ho.ref
  obtain ⟨us, hu, hr⟩ := rep.shared hm
  cases hs with
  | cons g1 g2 =>
    obtain rfl := g1.int_inv
    cases g2 with
    | cons g3 g4 =>
      cases g4
      exact ⟨a, us, i, _, rfl, rfl, hu, by rw [hr.length]; exact hl, h0, h1, k (.d .non) _ F _ _ (rep.chgL hm (((hr.take _).append (.cons g3 .nil)).append (hr.drop _))) (Ex.refl F) R.non q⟩
theorem mv_popAt : MtV G rPopAt fPopAt := by
  rintro F δ M σ H v vs x ds Q Qv rep ho hs ⟨a, xs, i, n, d, rfl, rfl, hm, h0, h1, hn, hd, q⟩ k
  obtain rfl := ho.ref
  obtain ⟨us, hu, hr⟩ := rep.shared hm
  cases hs with
  | cons g1 g2 =>
    obtain rfl := g1.int_inv
    cases g2
    obtain ⟨w, hw, hv⟩ := hr.get hd
    exact ⟨a, us, i, n, w, rfl, rfl, hu, h0, h1, by rw [hr.length]; exact hn, hw, k (.d d) _ F _ _ (rep.chgL hm (hr.eraseIdx n)) (Ex.refl F) hv q⟩
theorem Rs.dropLast {K : PySem.W.Frag} {F : Hp} {vs : List V} {ds : List D} (r : Rs K F vs ds) : Rs K F vs.dropLast ds.dropLast := by
  rw [List.dropLast_eq_take, List.dropLast_eq_take, r.length]
  exact r.take _
theorem mv_pop : MtV G rPop fPop := by
  rintro F δ M σ H v vs x ds Q Qv rep ho hs ⟨a, xs, d, rfl, rfl, hm, hd, q⟩ k
  obtain rfl := ho.ref
  obtain ⟨us, hu, hr⟩ := rep.shared hm
  cases hs
  obtain ⟨w, hw, hv⟩ := hr.get hd
  exact ⟨a, us, w, rfl, rfl, hu, by rw [hr.length]; exact hw, k (.d d) _ F _ _ (rep.chgL hm hr.dropLast) (Ex.refl F) hv q⟩
end
section
variable {X : Cx} {G : Gd} {W : WX} {o e : Expr} {es : List Expr} {name : Str} {apos cpos : Pos} {T id : String} {r : V → List V → Hp → VK → Prop} {f : FM} {to : DX} {ta : DA}
theorem d_mV (hk : X.K = G.K) (pa : PlainAttrs T) (slot : Slot T name id) (hty : typeOf (.builtin id) = pure (.type "method_descriptor")) (hm : MtR X id r) (hl : MtV G r f) (ho : PE X o (LO G W to)) (ha : PA X (e :: es) (LA G W ta))
    (hbase : attributeBase o name X.env (eval o X.env) = eval o X.env)
    (hfew : ((backTo cpos (starEach (e :: es) X.env)).all (fun x => !x.1) && (backToKw cpos (keywordEach [] X.env)).all (fun x => x.1.isSome)
      && decide ((e :: es).length + ([] : List Keyword).length + (if ([] : List Keyword).isEmpty then 0 else 1) < 30)) = true)
    (hline : (apos.endLine == cpos.line) = true) (hs : starEach (e :: es) X.env = (false, eval e X.env) :: starEach es X.env) (hplain : (backTo cpos (starEach es X.env)).any (·.1) = false) :
    PE X (.Call (.Attribute o name apos) (e :: es) [] cpos) (LE G W (dM T f to ta)) :=
  pe_imp (pe_bm pa slot hty hm ho ha hbase hfew hline hs hplain) fun _ _ _ h => by rw [hk]; exact m_lV hl h
theorem d_append (hk : X.K = G.K) (ho : PE X o (LO G W to)) (ha : PA X [e] (LA G W ta)) (hbase : attributeBase o "append" X.env (eval o X.env) = eval o X.env := by rfl)
    (hfew : ((backTo cpos (starEach [e] X.env)).all (fun x => !x.1) && (backToKw cpos (keywordEach [] X.env)).all (fun x => x.1.isSome)
      && decide ([e].length + ([] : List Keyword).length + (if ([] : List Keyword).isEmpty then 0 else 1) < 30)) = true := by rfl)
    (hline : (apos.endLine == cpos.line) = true := by rfl) (hs : starEach [e] X.env = (false, eval e X.env) :: starEach [] X.env := by rfl) (hplain : (backTo cpos (starEach [] X.env)).any (·.1) = false := by rfl) :
    PE X (.Call (.Attribute o "append" apos) [e] [] cpos) (LE G W (dM "list" fApp to ta)) :=
  d_mV hk PySem.F.plainAttrs_list PySem.F.slot_list_append PySem.F.type_list_append mt_append mv_app ho ha hbase hfew hline hs hplain
theorem d_popAt (hk : X.K = G.K) (ho : PE X o (LO G W to)) (ha : PA X [e] (LA G W ta)) (hbase : attributeBase o "pop" X.env (eval o X.env) = eval o X.env := by rfl)
    (hfew : ((backTo cpos (starEach [e] X.env)).all (fun x => !x.1) && (backToKw cpos (keywordEach [] X.env)).all (fun x => x.1.isSome)
      && decide ([e].length + ([] : List Keyword).length + (if ([] : List Keyword).isEmpty then 0 else 1) < 30)) = true := by rfl)
    (hline : (apos.endLine == cpos.line) = true := by rfl) (hs : starEach [e] X.env = (false, eval e X.env) :: starEach [] X.env := by rfl) (hplain : (backTo cpos (starEach [] X.env)).any (·.1) = false := by rfl) :
    PE X (.Call (.Attribute o "pop" apos) [e] [] cpos) (LE G W (dM "list" fPopAt to ta)) :=
  d_mV hk PySem.F.plainAttrs_list PySem.F.slot_list_pop PySem.F.type_list_pop mt_popAt mv_popAt ho ha hbase hfew hline hs hplain
theorem d_insert {e2 : Expr} (hk : X.K = G.K) (ho : PE X o (LO G W to)) (ha : PA X [e, e2] (LA G W ta)) (hbase : attributeBase o "insert" X.env (eval o X.env) = eval o X.env := by rfl)
    (hfew : ((backTo cpos (starEach [e, e2] X.env)).all (fun x => !x.1) && (backToKw cpos (keywordEach [] X.env)).all (fun x => x.1.isSome)
      && decide ([e, e2].length + ([] : List Keyword).length + (if ([] : List Keyword).isEmpty then 0 else 1) < 30)) = true := by rfl)
    (hline : (apos.endLine == cpos.line) = true := by rfl) (hs : starEach [e, e2] X.env = (false, eval e X.env) :: starEach [e2] X.env := by rfl) (hplain : (backTo cpos (starEach [e2] X.env)).any (·.1) = false := by rfl) :
    PE X (.Call (.Attribute o "insert" apos) [e, e2] [] cpos) (LE G W (dM "list" fIns to ta)) :=
  d_mV hk PySem.F.plainAttrs_list PySem.F.slot_list_insert PySem.F.type_list_insert mt_insert mv_ins ho ha hbase hfew hline hs hplain
end
section
variable {δ : DS} {M : MH} {X : XP} {A : Sl → MH → Prop} {a : Addr} {d : D} {i : Int}
@[simp ↓] theorem ty_r : TyD "list" (.ref a) M = lk M a (fun o => asL o fun _ => True) := propext ⟨fun h => by
  rcases h with ⟨_, xs, h⟩ | ⟨h, _⟩
  · exact ⟨_, seq_ref.mp h, xs, rfl, trivial⟩
  · exact absurd h (by decide), fun ⟨o, h, xs, e, _⟩ => .inl ⟨rfl, xs, seq_ref.mpr (by rw [h, e])⟩⟩
@[simp ↓] theorem e_app_r : fApp (.ref a) [d] M A = lk M a (fun o => asL o fun xs => xs.length < sizeLine ∧ A (.d .non) (mu M a (.lst (xs ++ [d])))) := propext
  ⟨fun ⟨_, xs, _, h1, h2, h3, q⟩ => by cases h1; cases h2; exact ⟨_, h3, xs, rfl, q⟩, fun ⟨o, h, xs, e, q⟩ => ⟨a, xs, d, rfl, rfl, by rw [h, e], q⟩⟩
@[simp ↓] theorem e_ins_r : fIns (.ref a) [.int i, d] M A = lk M a (fun o => asL o fun xs => xs.length < sizeLine ∧ 0 ≤ i ∧ i < 2 ^ 63 ∧ A (.d .non) (mu M a (.lst (xs.take i.toNat ++ [d] ++ xs.drop i.toNat)))) := propext
  ⟨fun ⟨_, xs, _, _, h1, h2, h3, q⟩ => by cases h1; cases h2; exact ⟨_, h3, xs, rfl, q⟩, fun ⟨o, h, xs, e, q⟩ => ⟨a, xs, i, d, rfl, rfl, by rw [h, e], q⟩⟩
def poI (xs : List D) (i : Int) (k : D → List D → Prop) : Prop := ∃ n d, -(2 ^ 63) ≤ i ∧ i < 2 ^ 63 ∧ seqIndex? i xs.length = some n ∧ xs[n]? = some d ∧ k d (xs.eraseIdx n)
@[simp ↓] theorem e_popAt_r : fPopAt (.ref a) [.int i] M A = lk M a (fun o => asL o fun xs => poI xs i fun d ys => A (.d d) (mu M a (.lst ys))) := propext
  ⟨fun ⟨_, xs, _, n, d, h1, h2, h3, h4, h5, h6, h7, q⟩ => by cases h1; cases h2; exact ⟨_, h3, xs, rfl, n, d, h4, h5, h6, h7, q⟩, fun ⟨o, h, xs, e, n, d, h4, h5, h6, h7, q⟩ => ⟨a, xs, i, n, d, rfl, rfl, by rw [h, e], h4, h5, h6, h7, q⟩⟩
theorem poI_at {xs : List D} {k : D → List D → Prop} (h0 : 0 ≤ i) (h1 : i < xs.length) (h2 : xs.length ≤ 16777216) : poI xs i k = k (xs.getD i.toNat .non) (xs.eraseIdx i.toNat) := by
  have hs : seqIndex? i xs.length = some i.toNat := by
    have hi : ixN xs.length i = some i.toNat := by
      unfold ixN
      rw [if_pos h0, if_pos h1]
    exact (ixN_seq hi).1
  have hg : xs[i.toNat]? = some (xs.getD i.toNat .non) := by
    rw [List.getD_eq_getElem?_getD, List.getElem?_eq_getElem (by omega)]
    rfl
  refine propext ⟨fun ⟨n, d, _, _, h, h', q⟩ => ?_, fun q => ⟨_, _, by omega, by omega, hs, hg, q⟩⟩
  rw [hs] at h
  cases h
  rw [hg] at h'
  cases h'
  exact q
end
/-! ### o[i], p[j] = a, b -/
def LGM (G : Gd) (tg : DG) : TG := fun v σ H Q => ∃ F δ M d Qd, Rep G F δ M σ H ∧ R G.K F v d ∧ tg d δ M Qd ∧ ∀ F' δ' M' H' σ', Rep G F' δ' M' σ' H' → Ex F F' → Qd δ' M' → Q σ' H'
def LGMs (G : Gd) (tg : DGs) : TGs := fun vs σ H Q => ∃ F δ M ds Qd, Rep G F δ M σ H ∧ Rs G.K F vs ds ∧ tg ds δ M Qd ∧ ∀ F' δ' M' H' σ', Rep G F' δ' M' σ' H' → Ex F F' → Qd δ' M' → Q σ' H'
def gSubM (to ti : DX) : DG := fun d δ M Q => to δ M (fun y M2 => ti δ M2 (fun x M3 => stM y x d M3 fun M4 => Q δ M4) NoX) NoX
section
variable {X : Cx} {G : Gd} {e o i : Expr} {es : List Expr} {pos : Pos} {to ti : DX}
theorem xokN {W : WX} {δ : DS} {σ : L2.St} : XOk G W δ σ NoX := fun _ _ _ _ _ _ _ _ _ _ _ h => h.elim
theorem gM_sub (ho : PE X o (LO G W0 to)) (hi : PE X i (LO G W0 ti))
    (ha : ∀ v, assign (.Subscript o i pos) X.env v = (do
      let ov ← holding [v] (eval o X.env)
      let iv ← holding [v, ov] (eval i X.env)
      standAt pos
      holding [v, ov, iv] (setItem ov iv v)
      release [v, ov, iv] []) := by intro _; rfl) : PG X (.Subscript o i pos) (LGM G (gSubM to ti)) :=
  pg_imp (pg_sub ho hi set_list ha) fun v σ H Q ⟨F, δ, M, d, Qd, rep, r, q, k⟩ => ⟨F, δ, M, _, NoX, rep, q, fun y u F1 M1 H1 r1 e1 o1 q1 => ⟨F1, δ, M1, _, NoX, r1, q1, fun x w F2 M2 H2 r2 e2 o2 q2 => by
    obtain ⟨a, xs, i, n, rfl, hm, rfl, hn, q2⟩ := q2
    obtain rfl := (o1.mono e2).ref
    obtain rfl := opn_int o2
    obtain ⟨us, hu, hr⟩ := r2.shared hm
    exact ⟨a, us, i, n, rfl, rfl, hu, by rw [hr.length]; exact hn, k F2 δ _ _ σ (r2.chgL hm (Rs.set (r.mono (e1.trans e2)) n hr)) (e1.trans e2) q2⟩, xokN⟩, xokN⟩
theorem gMs_nil : PGs X [] (LGMs G gNilD) := pgs_imp pgs_nil fun vs σ H Q ⟨F, δ, M, ds, Qd, rep, r, ⟨h1, q⟩, k⟩ => by
  subst h1
  cases r
  exact ⟨rfl, k F δ M H σ rep (Ex.refl F) q⟩
theorem gMs_cons {t : DG} {u : DGs} (h1 : PG X e (LGM G t)) (h2 : PGs X es (LGMs G u))
    (hs : (assignEach (e :: es) X.env).map (·.2) = assign e X.env :: (assignEach es X.env).map (·.2) := by rfl) : PGs X (e :: es) (LGMs G (gConsD t u)) :=
  pgs_imp (pgs_cons h1 h2 hs) fun vs σ H Q ⟨F, δ, M, ds, Qd, rep, r, ⟨d, rs, h1, q⟩, k⟩ => by
    subst h1
    cases r with
    | cons r1 r2 =>
      exact ⟨_, _, rfl, F, δ, M, d, _, rep, r1, q, fun F1 δ1 M1 H1 σ1 rep1 e1 q1 => ⟨F1, δ1, M1, rs, Qd, rep1, r2.mono e1, q1, fun F2 δ2 M2 H2 σ2 rep2 e2 q2 =>
        k F2 δ2 M2 H2 σ2 rep2 (e1.trans e2) q2⟩⟩
theorem gM_tup {k : Nat} {t : DGs} {n : Nat} (hK : X.K = G.K) (hc : X.calm = true) (h : PGs X es (LGMs G t))
    (hn : (assignEach es X.env).length = n := by rfl) (hst : (assignEach es X.env).findIdx? (·.1) = none := by rfl) : PG X (.Tuple es k pos) (LGM G (gTupD n t)) :=
  pg_imp (pg_or (pg_tup hc h hn hst) (pg_lst hc h hn hst)) fun v σ H Q ⟨F, δ, M, d, Qd, rep, r, ⟨xs, hd, hl, q⟩, k⟩ => by
    rcases hd with rfl | rfl
    · obtain ⟨a, vs, rfl, h1, h2⟩ := r.tup_inv
      exact .inl ⟨a, vs, rfl, by rw [hK]; exact ex_t rep.fr.ex h1, h2.length.trans hl, F, δ, M, xs, Qd, rep, h2, q, k⟩
    · obtain ⟨a, vs, rfl, h1, h2⟩ := r.lst_inv
      exact .inr ⟨a, vs, rfl, by rw [hK]; exact .inl (.inl (rep.fr.ex _ _ h1)), h2.length.trans hl, F, δ, M, xs, Qd, rep, h2, q, k⟩
theorem s_asgTM {W : WX} {tg : Expr} {t : DX} {g : DG} (he : PE X e (LV G W t)) (hg : PG X tg (LGM G g)) (hs : swapsWithSole [tg] e pos.line X.env = pure false := by rfl) (hw : swappedStores [tg] e X.env = pure none := by rfl)
    (h1 : (assignEach [tg] X.env).map (·.2) = [assign tg X.env] := by rfl) : PS X (.Assign [tg] e pos) (LS G W (sAsgT t g)) :=
  ps_imp (ps_asg he hg hs hw h1) fun D σ H ⟨F, δ, M, E, rep, q, ok⟩ => ⟨F, δ, M, _, _, rep, q, fun d v F1 M1 H1 rep1 e1 r1 q1 => ⟨F1, δ, M1, d, E.nx, rep1, r1, q1, fun F2 δ2 M2 H2 σ2 rep2 e2 q2 => ok.nx F2 δ2 M2 σ2 H2 rep2 (e1.trans e2) q2⟩, ok.ex δ σ⟩
end
section
variable {δ : DS} {M : MH} {d : D} {to ti : DX} {k : DS → MH → Prop}
@[simp ↓] theorem e_gSubM : gSubM to ti d δ M k = to δ M (fun y M2 => ti δ M2 (fun x M3 => stM y x d M3 fun M4 => k δ M4) NoX) NoX := rfl
end
/-! ### text * int -/
def rMulS : R2 := fun x y H Q => ∃ s i, x = V.str s ∧ y = V.int i ∧ s.length ≤ 16 ∧ 0 ≤ i ∧ i ≤ 1048576 ∧ Q (.str (Txt.mul s i)) H
theorem op_mulS {X : Cx} : OpR X (binaryOp .Mult) rMulS := by
  intro pins s σ H x y v u Q I rx ry h
  obtain ⟨a, i, rfl, rfl, h1, h2, h3, q⟩ := h
  obtain ⟨t, rfl⟩ := rx
  obtain ⟨t', rfl⟩ := ry
  exact PySem.W.KXi.mul rfl h1 (by omega) (by omega) fun t' k _ _ => ⟨.str (Txt.mul a i), H, I.tok _, ⟨_, rfl⟩, q⟩
def fMulS : F2 := fun x y M Q => ∃ s i, x = .str s ∧ y = .int i ∧ s.length ≤ 16 ∧ 0 ≤ i ∧ i ≤ 1048576 ∧ Q (.d (.str (Txt.mul s i))) M
theorem opl_mulS {G : Gd} : OpL G rMulS fMulS := by
  intro F δ M σ H v u x y Q Qv rep hx hy h k
  obtain ⟨s, i, rfl, rfl, h1, h2, h3, q⟩ := h
  exact ⟨s, i, opn_str hx, opn_int hy, h1, h2, h3, OpL.done rep k (.str _) q⟩
theorem d_mulS {X : Cx} {G : Gd} {W : WX} {a b : Expr} {ta tb : DX} {pos : Pos} (ha : PE X a (LO G W ta)) (hb : PE X b (LO G W tb)) : PE X (.BinOp a .Mult b pos) (LE G W (dBin fMulS ta tb)) := d_bin op_mulS opl_mulS ha hb
@[simp ↓] theorem e_mulS {s : Str} {i : Int} {M : MH} {A : Sl → MH → Prop} : fMulS (.str s) (.int i) M A = (s.length ≤ 16 ∧ 0 ≤ i ∧ i ≤ 1048576 ∧ A (.d (.str (Txt.mul s i))) M) :=
  propext ⟨fun ⟨_, _, h1, h2, q⟩ => by cases h1; cases h2; exact q, fun q => ⟨s, i, rfl, rfl, q⟩⟩
/-! ### lists + lists, shared ones among them -/
def lsOf (M : MH) : D → Option (List D)
  | .lst xs => some xs
  | .ref a => match M a with
    | some (.lst xs) => some xs
    | _ => none
  | _ => none
theorem ls_at {G : Gd} {F : Hp} {δ : DS} {M : MH} {σ : L2.St} {H : Hp} {v : V} {x : D} {xs : List D} (rep : Rep G F δ M σ H) (h : Opn G F δ σ v x) (q : lsOf M x = some xs) : ∃ a vs, v = .ref a ∧ H a = some (.lst vs) ∧ Rs G.K F vs xs := by
  cases x with
  | lst ys =>
    cases q
    exact h.lst rep
  | ref a =>
    have e : lsOf M (.ref a) = match M a with
      | some (.lst xs) => some xs
      | _ => none := rfl
    rw [e] at q
    split at q
    · rename_i ys hm
      cases q
      obtain rfl := h.ref
      obtain ⟨vs, h1, h2⟩ := rep.shared hm
      exact ⟨a, vs, rfl, h1, h2⟩
    · cases q
  | _ => cases q
theorem ls_ref {M : MH} {a : Addr} {xs : List D} : lsOf M (.ref a) = some xs ↔ M a = some (.lst xs) := by
  have e : lsOf M (.ref a) = match M a with
    | some (.lst xs) => some xs
    | _ => none := rfl
  rw [e]
  constructor
  · intro h
    split at h
    · rename_i ys hm
      cases h
      exact hm
    · cases h
  · intro h
    rw [h]
def fAddL : F2 := fun x y M Q => ∃ xs ys, lsOf M x = some xs ∧ lsOf M y = some ys ∧ xs.length + ys.length ≤ sizeLine ∧ Q (.own (xs ++ ys)) M
theorem opl_addL {G : Gd} : OpL G rCat fAddL := by
  intro F δ M σ H v u x y Q Qv rep hx hy h k
  obtain ⟨xs, ys, h1, h2, h3, q⟩ := h
  obtain ⟨a, vs, rfl, g1, g2⟩ := ls_at rep hx h1
  obtain ⟨b, us, rfl, g3, g4⟩ := ls_at rep hy h2
  exact ⟨a, b, vs, us, rfl, rfl, g1, g3, by rw [g2.length, g4.length]; exact h3, fun p hp => k _ _ F M _ (rep.addH hp (.lst (vs ++ us))) (Ex.refl F) (rep.addOwn hp (g2.append g4)) q⟩
theorem d_addL {X : Cx} {G : Gd} {W : WX} {a b : Expr} {ta tb : DX} {pos : Pos} (ha : PE X a (LO G W ta)) (hb : PE X b (LO G W tb)) : PE X (.BinOp a .Add b pos) (LE G W (dBin fAddL ta tb)) := d_bin op_cat opl_addL ha hb
@[simp ↓] theorem e_addL_rl {a : Addr} {ys : List D} {M : MH} {A : Sl → MH → Prop} : fAddL (.ref a) (.lst ys) M A = lk M a (fun o => asL o fun xs => xs.length + ys.length ≤ sizeLine ∧ A (.own (xs ++ ys)) M) :=
  propext ⟨fun ⟨xs, zs, h1, h2, q⟩ => by cases h2; exact ⟨_, ls_ref.mp h1, xs, rfl, q⟩, fun ⟨o, h, xs, e, q⟩ => ⟨xs, ys, ls_ref.mpr (by rw [h, e]), rfl, q⟩⟩
@[simp ↓] theorem e_addL_ll {xs ys : List D} {M : MH} {A : Sl → MH → Prop} : fAddL (.lst xs) (.lst ys) M A = (xs.length + ys.length ≤ sizeLine ∧ A (.own (xs ++ ys)) M) :=
  propext ⟨fun ⟨_, _, h1, h2, q⟩ => by cases h1; cases h2; exact q, fun q => ⟨xs, ys, rfl, rfl, q⟩⟩
@[simp ↓] theorem fRev_r {a : Addr} {M : MH} {A : Sl → MH → Prop} : fRev (.ref a) M A = lk M a (fun o => asL o fun xs => A (.own xs.reverse) M) := propext ⟨fun h => (by
  rcases h with ⟨_, h, q⟩ | ⟨xs, h, q⟩
  · cases h
  · exact ⟨_, seq_ref.mp h, xs, rfl, q⟩), fun ⟨o, h, xs, e, q⟩ => .inr ⟨xs, seq_ref.mpr (by rw [h, e]), q⟩⟩
end DL

set_option Elab.async false
set_option linter.all false
set_option maxRecDepth 100000
set_option maxHeartbeats 4000000
namespace Lw
open PySem PySem.Spec PyProof.Rows L2 DL
def top (i : Nat) : Stmt := PySem.Challenge.pw_blindslots_k06_rules_written_and_read.main.body.getD i (.Pass ⟨0, 0, 0, 0⟩)
/-! ### the text by places -/
abbrev s_law_mix : Stmt := top 29
abbrev s_law_pick : Stmt := top 31
abbrev s_law_good : Stmt := top 35
abbrev s_law_kind : Stmt := top 32
abbrev s_is_integer : Stmt := top 16
abbrev s_is_level : Stmt := top 17
abbrev s_check_rule : Stmt := top 18
abbrev s_rule_lines : Stmt := top 23
abbrev s_show_rule : Stmt := top 24
abbrev s_law_list_right : Stmt := top 41
abbrev s_law_number : Stmt := top 33
abbrev s_law_words_read : Stmt := top 36
abbrev s_law_due : Stmt := top 37
abbrev s_number_in : Stmt := top 22
abbrev s_read_boost : Stmt := top 26
abbrev s_read_level : Stmt := top 25
abbrev s_read_rule : Stmt := top 27
abbrev s_law_right : Stmt := top 40
abbrev s_law_rule_lines : Stmt := top 34
abbrev s_law_spoilt_line : Stmt := top 38
abbrev s_law_spoilt : Stmt := top 39
abbrev s_law_store : Stmt := top 30
abbrev s_law : Stmt := top 42
theorem sc_law_mix : FnScope ["number", "turn", "value"] ["number", "turn"] (defScope s_law_mix) := ⟨rfl, rfl, rfl, by decide +kernel, rfl, by decide +kernel, by decide +kernel⟩
theorem sc_law_pick : FnScope ["store", "count", "cell", "digit"] ["store", "count"] (defScope s_law_pick) := ⟨rfl, rfl, rfl, by decide +kernel, rfl, by decide +kernel, by decide +kernel⟩
theorem sc_law_good : FnScope ["store", "numbers", "levels", "k"] ["store"] (defScope s_law_good) := ⟨rfl, rfl, rfl, by decide +kernel, rfl, by decide +kernel, by decide +kernel⟩
theorem sc_law_kind : FnScope ["caught", "kinds", "at"] ["caught"] (defScope s_law_kind) := ⟨rfl, rfl, rfl, by decide +kernel, rfl, by decide +kernel, by decide +kernel⟩
theorem sc_is_integer : FnScope ["value", "least"] ["value", "least"] (defScope s_is_integer) := ⟨rfl, rfl, rfl, by decide +kernel, rfl, by decide +kernel, by decide +kernel⟩
theorem sc_is_level : FnScope ["level"] ["level"] (defScope s_is_level) := ⟨rfl, rfl, rfl, by decide +kernel, rfl, by decide +kernel, by decide +kernel⟩
theorem sc_check_rule : FnScope ["rule", "levels", "boost", "place", "level"] ["rule"] (defScope s_check_rule) := ⟨rfl, rfl, rfl, by decide +kernel, rfl, by decide +kernel, by decide +kernel⟩
theorem sc_rule_lines : FnScope ["rule", "lines", "kind", "quantum"] ["rule"] (defScope s_rule_lines) := ⟨rfl, rfl, rfl, by decide +kernel, rfl, by decide +kernel, by decide +kernel⟩
theorem sc_show_rule : FnScope ["rule"] ["rule"] (defScope s_show_rule) := ⟨rfl, rfl, rfl, by decide +kernel, rfl, by decide +kernel, by decide +kernel⟩
theorem sc_law_list_right : FnScope ["policy", "caught", "e"] ["policy"] (defScope s_law_list_right) := ⟨rfl, rfl, rfl, by decide +kernel, rfl, by decide +kernel, by decide +kernel⟩
theorem sc_law_number : FnScope ["word", "char"] ["word"] (defScope s_law_number) := ⟨rfl, rfl, rfl, by decide +kernel, rfl, by decide +kernel, by decide +kernel⟩
theorem sc_law_words_read : FnScope ["line", "heads", "words", "number"] ["line", "heads"] (defScope s_law_words_read) := ⟨rfl, rfl, rfl, by decide +kernel, rfl, by decide +kernel, by decide +kernel⟩
theorem sc_law_due : FnScope ["text", "lines", "levels", "row", "line", "level", "last"] ["text"] (defScope s_law_due) := ⟨rfl, rfl, rfl, by decide +kernel, rfl, by decide +kernel, by decide +kernel⟩
theorem sc_number_in : FnScope ["word", "char"] ["word"] (defScope s_number_in) := ⟨rfl, rfl, rfl, by decide +kernel, rfl, by decide +kernel, by decide +kernel⟩
theorem sc_read_boost : FnScope ["line", "words", "boost"] ["line"] (defScope s_read_boost) := ⟨rfl, rfl, rfl, by decide +kernel, rfl, by decide +kernel, by decide +kernel⟩
theorem sc_read_level : FnScope ["line", "words", "quantum"] ["line"] (defScope s_read_level) := ⟨rfl, rfl, rfl, by decide +kernel, rfl, by decide +kernel, by decide +kernel⟩
theorem sc_read_rule : FnScope ["text", "levels", "boost", "row", "line", "level"] ["text"] (defScope s_read_rule) := ⟨rfl, rfl, rfl, by decide +kernel, rfl, by decide +kernel, by decide +kernel⟩
theorem sc_law_right : FnScope ["text", "due", "caught", "found", "e"] ["text"] (defScope s_law_right) := ⟨rfl, rfl, rfl, by decide +kernel, rfl, by decide +kernel, by decide +kernel⟩
theorem sc_law_rule_lines : FnScope ["policy", "lines", "kind", "quantum"] ["policy"] (defScope s_law_rule_lines) := ⟨rfl, rfl, rfl, by decide +kernel, rfl, by decide +kernel, by decide +kernel⟩
theorem sc_law_spoilt_line : FnScope ["store", "line", "some", "words", "at", "way", "text", "cut", "char", "forms"] ["store", "line"] (defScope s_law_spoilt_line) := ⟨rfl, rfl, rfl, by decide +kernel, rfl, by decide +kernel, by decide +kernel⟩
theorem sc_law_spoilt : FnScope ["store", "lines", "k", "at", "there", "way", "text"] ["store", "lines"] (defScope s_law_spoilt) := ⟨rfl, rfl, rfl, by decide +kernel, rfl, by decide +kernel, by decide +kernel⟩
theorem sc_law_store : FnScope ["script", "mixed", "cell"] ["script"] (defScope s_law_store) := ⟨rfl, rfl, rfl, by decide +kernel, rfl, by decide +kernel, by decide +kernel⟩
theorem sc_law : FnScope ["script", "store", "turn", "policy", "lines", "text", "k", "fixed"] ["script"] (defScope s_law) := ⟨rfl, rfl, rfl, by decide +kernel, rfl, by decide +kernel, by decide +kernel⟩
/-- what the top has written -/
structure Cs where
  K : PySem.W.Frag
  c_NoJobs : Addr
  c_NoLengths : Addr
  c_NoLine : Addr
  c_NoLog : Addr
  c_NoMarks : Addr
  c_NoName : Addr
  c_NoNamed : Addr
  c_NoNumber : Addr
  c_NoOrder : Addr
  c_NoRule : Addr
  c_NoText : Addr
  c_NoUndo : Addr
  c_SlotError : Addr
structure Tx (P : Program) (w : World) (mg : Str → Option Value) (base : Heap) (cs : Cs) : Prop where
  g_DIGITS : ∃ t, mg "DIGITS" = some (.str ("0123456789" : Str) t)
  g_MOST_DIGITS : ∃ t, mg "MOST_DIGITS" = some (.int 31 t)
  g_MOST_LEVELS : ∃ t, mg "MOST_LEVELS" = some (.int 6 t)
  n_ValueError : mg "ValueError" = none
  n_all : mg "all" = none
  n_bool : mg "bool" = none
  n_enumerate : mg "enumerate" = none
  n_int : mg "int" = none
  n_isinstance : mg "isinstance" = none
  n_len : mg "len" = none
  n_list : mg "list" = none
  n_range : mg "range" = none
  n_str : mg "str" = none
  n_tuple : mg "tuple" = none
  c_NoJobs : mg "NoJobs" = some (.ref cs.c_NoJobs)
  c_NoLengths : mg "NoLengths" = some (.ref cs.c_NoLengths)
  c_NoLine : mg "NoLine" = some (.ref cs.c_NoLine)
  c_NoLog : mg "NoLog" = some (.ref cs.c_NoLog)
  c_NoMarks : mg "NoMarks" = some (.ref cs.c_NoMarks)
  c_NoName : mg "NoName" = some (.ref cs.c_NoName)
  c_NoNamed : mg "NoNamed" = some (.ref cs.c_NoNamed)
  c_NoNumber : mg "NoNumber" = some (.ref cs.c_NoNumber)
  c_NoOrder : mg "NoOrder" = some (.ref cs.c_NoOrder)
  c_NoRule : mg "NoRule" = some (.ref cs.c_NoRule)
  c_NoText : mg "NoText" = some (.ref cs.c_NoText)
  c_NoUndo : mg "NoUndo" = some (.ref cs.c_NoUndo)
  c_SlotError : mg "SlotError" = some (.ref cs.c_SlotError)
  x_NoRule : ExI P w cs.K mg base 1 "NoRule" cs.c_NoRule "place" PvI
  x_NoText : ExI P w cs.K mg base 1 "NoText" cs.c_NoText "row" PvI
def ads (cs : Cs) : Nat → Addr
  | 0 => cs.c_NoJobs
  | 1 => cs.c_NoRule
  | 2 => cs.c_NoLengths
  | 3 => cs.c_NoLog
  | 4 => cs.c_NoMarks
  | 5 => cs.c_NoNamed
  | 6 => cs.c_NoOrder
  | 7 => cs.c_NoText
  | 8 => cs.c_NoNumber
  | 9 => cs.c_NoName
  | 10 => cs.c_NoUndo
  | _ => cs.c_NoLine
structure Kx (cs : Cs) : Prop where
  kd_NoRule : KindOf cs.K (ads cs) cs.c_SlotError cs.c_NoRule 1
  xm_NoRule_SlotError : PySem.W.exmOne cs.K (.ref cs.c_NoRule) (.ref cs.c_SlotError) = some true
  kd_NoText : KindOf cs.K (ads cs) cs.c_SlotError cs.c_NoText 7
  xm_NoText_SlotError : PySem.W.exmOne cs.K (.ref cs.c_NoText) (.ref cs.c_SlotError) = some true
end Lw

set_option Elab.async false
set_option linter.all false
set_option maxRecDepth 100000
set_option maxHeartbeats 4000000
namespace Lw
open PySem PySem.Spec PyProof.Rows L2 DL
abbrev sp_law_mix (_ : Cs) : SpD := spMix
theorem len_law_mix {cs : Cs} : ∀ ds M Q E, sp_law_mix cs ds M Q E → ds.length = 2 := fun _ _ _ _ ⟨_, _, h, _⟩ => by rw [h]; rfl
abbrev sp_law_pick (_ : Cs) : SpD := spPick
theorem len_law_pick {cs : Cs} : ∀ ds M Q E, sp_law_pick cs ds M Q E → ds.length = 2 := fun _ _ _ _ ⟨_, _, _, h, _⟩ => by rw [h]; rfl
def isIntD : D → Int → Bool
  | .int i, l => decide (l ≤ i)
  | _, _ => false
def sp_is_integer (_ : Cs) : SpD := fun ds M Q E => ∃ (v : D) (l : Int), ds = [v, .int l] ∧ v.nr = true ∧ Q (.d (.bl (isIntD v l))) M
theorem len_is_integer {cs : Cs} : ∀ ds M Q E, sp_is_integer cs ds M Q E → ds.length = 2 := fun _ _ _ _ ⟨_, _, h, _⟩ => by rw [h]; rfl
theorem sp_is_integer_eq {cs : Cs} {M : MH} {Q : Sl → MH → Prop} {E : Addr → List (Str × D) → MH → Prop} {v : D} {l : Int} : sp_is_integer cs [v, .int l] M Q E = (v.nr = true ∧ Q (.d (.bl (isIntD v l))) M) :=
  propext ⟨fun ⟨_, _, h, q⟩ => by cases h; exact q, fun q => ⟨v, l, rfl, q⟩⟩
/-! ### what rules are -/
def isLevelD : D → Bool
  | .tup [a, b] => (D.eq (.str "queue") a || D.eq (.str "stack") a) && (isNon b || isIntD b 1)
  | _ => false
def firstBad : List D → Nat → Option Nat
  | [], _ => none
  | l :: r, i => if isLevelD l = true then firstBad r (i + 1) else some i
def faultR : D → D
  | .tup [.tup ls, boost] => if 1 ≤ ls.length ∧ ls.length ≤ 6 then (match firstBad ls 0 with
      | some i => .int i
      | none => if (DL.isNon boost || isIntD boost 1) = true then .non else .int ls.length) else .int 0
  | _ => .int 0
/-- data without references, of small depth -/
def Sm (n : Nat) (v : D) : Prop := v.nr = true ∧ v.dp ≤ n
def WfLevel (v : D) : Prop := Sm 4 v ∧ ∀ a b, v = .tup [a, b] → flatD a = true
def WfRule (v : D) : Prop := Sm 6 v ∧ ∀ ls b, v = .tup [.tup ls, b] → ∀ l ∈ ls, WfLevel l
/-- a quantum, a boost -/
def QuB (q : D) : Prop := q = .non ∨ ∃ i : Int, q = .int i ∧ 1 ≤ i ∧ i < 10 ^ 31
def LevB (l : D) : Prop := ∃ (k : Str) (q : D), l = .tup [.str k, q] ∧ (k = "queue" ∨ k = "stack") ∧ QuB q
/-- a valid rule -/
def RuleB (v : D) : Prop := ∃ ls b, v = .tup [.tup ls, b] ∧ 1 ≤ ls.length ∧ ls.length ≤ 6 ∧ (∀ l ∈ ls, LevB l) ∧ QuB b
def sp_law_good (_ : Cs) : SpD := fun ds M Q E => ∃ (a : Addr) (n : Nat), ds = [.ref a] ∧ StoreAt M a n ∧ n < 2 ^ 50 ∧ ∀ v M', RuleB v → StoreAt M' a (n + 20) → (∀ b, b ≠ a → M' b = M b) → Q (.d v) M'
theorem len_law_good {cs : Cs} : ∀ ds M Q E, sp_law_good cs ds M Q E → ds.length = 1 := fun _ _ _ _ ⟨_, _, h, _⟩ => by rw [h]; rfl
abbrev sp_law_kind (cs : Cs) : SpD := spKind cs.K (ads cs) cs.c_SlotError
theorem len_law_kind {cs : Cs} : ∀ ds M Q E, sp_law_kind cs ds M Q E → ds.length = 1 := fun _ _ _ _ ⟨_, _, _, _, _, h, _⟩ => by rw [h]; rfl

def sp_is_level (_ : Cs) : SpD := fun ds M Q E => ∃ (v : D), ds = [v] ∧ WfLevel v ∧ Q (.d (.bl (isLevelD v))) M
theorem len_is_level {cs : Cs} : ∀ ds M Q E, sp_is_level cs ds M Q E → ds.length = 1 := fun _ _ _ _ ⟨_, h, _⟩ => by rw [h]; rfl
theorem sp_is_level_eq {cs : Cs} {M : MH} {Q : Sl → MH → Prop} {E : Addr → List (Str × D) → MH → Prop} {v : D} : sp_is_level cs [v] M Q E = (WfLevel v ∧ Q (.d (.bl (isLevelD v))) M) :=
  propext ⟨fun ⟨_, h, q⟩ => by cases h; exact q, fun q => ⟨v, rfl, q⟩⟩
def sp_check_rule (cs : Cs) : SpD := fun ds M Q E => ∃ (v : D), ds = [v] ∧ WfRule v ∧ (faultR v = .non → Q (.d .non) M) ∧ (∀ k : Int, faultR v = .int k → 0 ≤ k → k ≤ 6 → E cs.c_NoRule [("place", .int k)] M)
theorem len_check_rule {cs : Cs} : ∀ ds M Q E, sp_check_rule cs ds M Q E → ds.length = 1 := fun _ _ _ _ ⟨_, h, _⟩ => by rw [h]; rfl
theorem sp_check_rule_eq {cs : Cs} {M : MH} {Q : Sl → MH → Prop} {E : Addr → List (Str × D) → MH → Prop} {v : D} : sp_check_rule cs [v] M Q E = (WfRule v ∧ (faultR v = .non → Q (.d .non) M) ∧ (∀ k : Int, faultR v = .int k → 0 ≤ k → k ≤ 6 → E cs.c_NoRule [("place", .int k)] M)) :=
  propext ⟨fun ⟨_, h, q⟩ => by cases h; exact q, fun q => ⟨v, rfl, q⟩⟩
/-! ### what jobs are -/
def lets : List Nat := List.range' 97 26
def isNameD : D → Bool
  | .str s => decide (1 ≤ s.length ∧ s.length ≤ 8) && s.cps.toList.all fun c => decide (c ∈ lets)
  | _ => false
def isArrD : D → Bool
  | .tup [.str k, x] => if k = "at" then isIntD x 0 else decide (k = "after") && isIntD x 1
  | _ => false
def isDoorD : D → Bool
  | .int i => decide (0 ≤ i) && decide (i ≤ 9)
  | _ => false
def isJobD : D → Bool
  | .tup [n, a, e] => isNameD n && isArrD a && isDoorD e
  | _ => false
def fstD : D → D
  | .tup (x :: _) => x
  | _ => .non
def arrD : D → D
  | .tup [_, a, _] => a
  | _ => .non
def aftA : D → Bool
  | .tup [.str k, _] => !decide (k = "at")
  | _ => false
def numA : D → Int
  | .tup [_, .int m] => m
  | _ => 0
def befA (a : D) (n : Int) : Bool := !aftA a || decide (numA a < n)
def cntB (js : List D) (n : Int) : Nat := js.countP fun j => befA (arrD j) n
def f1 : List D → List D → Nat → Option Nat
  | [], _, _ => none
  | j :: r, seen, i => if (isJobD j && !(seen.any fun z => D.eq z (fstD j))) = true then f1 r (seen ++ [fstD j]) (i + 1) else some i
def f2 : List D → List D → Nat → Option Nat
  | [], _, _ => none
  | j :: r, all, i => if (aftA (arrD j) && decide ((cntB all (numA (arrD j)) : Int) < numA (arrD j))) = true then some i else f2 r all (i + 1)
def faultJ : D → D
  | .tup js => match f1 js [] 0 with
    | some i => .int i
    | none => match f2 js js 0 with
      | some i => .int i
      | none => .non
  | _ => .int 0
def FlatA (v : D) : Prop := ∀ n x y e, v = .tup [n, .tup [x, y], e] → flatD x = true
def WfJ (v : D) : Prop := v.fit = true ∧ ∀ js, v = .tup js → js.length ≤ 1000 ∧ ∀ j ∈ js, FlatA j
/-- valid jobs -/
structure JobsOk (js : List D) : Prop where
  job : ∀ j ∈ js, isJobD j = true
  nd : f1 js [] 0 = none
  wt : f2 js js 0 = none
/-! ### numbers in texts -/
def digs : List Nat := List.range' 48 10
def numB (w : Str) : Bool := decide (1 ≤ w.length ∧ w.length ≤ 31) && (w.cps.toList.all (fun c => decide (c ∈ digs)) && !(decide (w.cps.toList.headD 0 = 48) && !decide (w = "0")))
def numD (w : Str) : D := if numB w = true then .int ((NumText.digitsVal w.cps.toList : Nat) : Int) else .non
/-! the job that words write -/
def ifJ (j : D) : D := if isJobD j = true then j else .non
def jobW : List Str → D
  | [a, b, c] => ifJ (.tup [.str a, .tup [.str b, numD c], .int 0])
  | [a, b, c, d, e] => if (decide (d = "entry") && isIntD (numD e) 1) = true then ifJ (.tup [.str a, .tup [.str b, numD c], numD e]) else .non
  | _ => .non
def lineJ (s : Str) : D := jobW (Txt.split s (" " : Str))
def linesJ (s : Str) : List D := if s = "" then [] else (Txt.split s ("\n" : Str)).map lineJ
def fNon : List D → Nat → Option Nat
  | [], _ => none
  | d :: r, i => if isNon d = true then some i else fNon r (i + 1)
/-! the line of a job -/
def lineD : D → Str
  | .tup [.str s, .tup [.str k, .int m], .int i] => s ++ (" " : Str) ++ k ++ (" " : Str) ++ numI m ++ if i > 0 then (" entry " : Str) ++ numI i else ("" : Str)
  | _ => Str.empty
/-! ### rules as texts -/
def lineR : D → Str
  | .tup [.str k, .int i] => k ++ (" " : Str) ++ numI i
  | .tup [.str k, _] => k
  | _ => Str.empty
def linesR : D → List Str
  | .tup [.tup ls, .int i] => ls.map lineR ++ [("boost " : Str) ++ numI i]
  | .tup [.tup ls, _] => ls.map lineR
  | _ => []
def kindW (w : Str) : Bool := decide (w = "queue") || decide (w = "stack")
def lvW : List Str → D
  | [w] => if kindW w = true then .tup [.str w, .non] else .non
  | [w, n] => if (kindW w && isIntD (numD n) 1) = true then .tup [.str w, numD n] else .non
  | _ => .non
def boW : List Str → D
  | [w, n] => if (decide (w = "boost") && isIntD (numD n) 1) = true then numD n else .non
  | _ => .non
def lv (s : Str) : D := lvW (Txt.split s (" " : Str))
def bo (s : Str) : D := boW (Txt.split s (" " : Str))
def rdR : List D → D → List Str → Nat → D
  | ls, b, [], _ => .tup [.tup ls, b]
  | ls, b, s :: r, row => if (DL.isNon b && !DL.isNon (lv s) && decide (ls.length < 6)) = true then rdR (ls ++ [lv s]) b r (row + 1)
      else if (DL.isNon b && DL.isNon (lv s) && !ls.isEmpty) = true then (if DL.isNon (bo s) = true then .int row else rdR ls (bo s) r (row + 1)) else .int row
def ruleT (s : Str) : D := rdR [] .non (Txt.split s ("\n" : Str)) 0
def sp_rule_lines (_ : Cs) : SpD := fun ds M Q E => ∃ v : D, ds = [v] ∧ RuleB v ∧ Q (.own ((linesR v).map D.str)) M
theorem len_rule_lines {cs : Cs} : ∀ ds M Q E, sp_rule_lines cs ds M Q E → ds.length = 1 := fun _ _ _ _ ⟨_, h, _⟩ => by rw [h]; rfl
theorem sp_rule_lines_eq {cs : Cs} {M : MH} {Q : Sl → MH → Prop} {E : Addr → List (Str × D) → MH → Prop} {v : D} : sp_rule_lines cs [v] M Q E = (RuleB v ∧ Q (.own ((linesR v).map D.str)) M) :=
  propext ⟨fun ⟨_, h, q⟩ => by cases h; exact q, fun q => ⟨v, rfl, q⟩⟩
def sp_show_rule (cs : Cs) : SpD := fun ds M Q E => ∃ v : D, ds = [v] ∧ WfRule v ∧ (faultR v = .non → RuleB v ∧ Q (.d (.str (Txt.join ("\n" : Str) (linesR v)))) M) ∧ (∀ k : Int, faultR v = .int k → 0 ≤ k → k ≤ 6 → E cs.c_NoRule [("place", .int k)] M)
theorem len_show_rule {cs : Cs} : ∀ ds M Q E, sp_show_rule cs ds M Q E → ds.length = 1 := fun _ _ _ _ ⟨_, h, _⟩ => by rw [h]; rfl
theorem sp_show_rule_eq {cs : Cs} {M : MH} {Q : Sl → MH → Prop} {E : Addr → List (Str × D) → MH → Prop} {v : D} : sp_show_rule cs [v] M Q E = (WfRule v ∧ (faultR v = .non → RuleB v ∧ Q (.d (.str (Txt.join ("\n" : Str) (linesR v)))) M) ∧ (∀ k : Int, faultR v = .int k → 0 ≤ k → k ≤ 6 → E cs.c_NoRule [("place", .int k)] M)) :=
  propext ⟨fun ⟨_, h, q⟩ => by cases h; exact q, fun q => ⟨v, rfl, q⟩⟩
def sp_law_list_right (_ : Cs) : SpD := fun ds M Q E => ∃ v : D, ds = [v] ∧ WfRule v ∧ faultR v = .int 0 ∧ ∀ M', (∀ b o, M b = some o → M' b = some o) → Q (.d (.bl true)) M'
theorem len_law_list_right {cs : Cs} : ∀ ds M Q E, sp_law_list_right cs ds M Q E → ds.length = 1 := fun _ _ _ _ ⟨_, h, _⟩ => by rw [h]; rfl
def sp_number_in (_ : Cs) : SpD := fun ds M Q E => ∃ s : Str, ds = [.str s] ∧ PyData.strOk s = true ∧ s.length ≤ 16777216 ∧ Q (.d (numD s)) M
theorem len_number_in {cs : Cs} : ∀ ds M Q E, sp_number_in cs ds M Q E → ds.length = 1 := fun _ _ _ _ ⟨_, h, _⟩ => by rw [h]; rfl
theorem sp_number_in_eq {cs : Cs} {M : MH} {Q : Sl → MH → Prop} {E : Addr → List (Str × D) → MH → Prop} {s : Str} : sp_number_in cs [.str s] M Q E = (PyData.strOk s = true ∧ s.length ≤ 16777216 ∧ Q (.d (numD s)) M) :=
  propext ⟨fun ⟨_, h, q⟩ => by cases h; exact q, fun q => ⟨s, rfl, q⟩⟩
abbrev sp_law_number (cs : Cs) : SpD := sp_number_in cs
theorem len_law_number {cs : Cs} : ∀ ds M Q E, sp_law_number cs ds M Q E → ds.length = 1 := len_number_in
def wdW (hs : List Str) : List Str → Option (Str × D)
  | [w] => if hs.contains w = true then some (w, .non) else none
  | [w, n] => if (hs.contains w && isIntD (numD n) 1) = true then some (w, numD n) else none
  | _ => none
def sp_law_words_read (_ : Cs) : SpD := fun ds M Q E => ∃ (s : Str) (hs : List Str), ds = [.str s, .lst (hs.map D.str)] ∧ PyData.strOk s = true ∧ s.length ≤ 1000000 ∧
  (wdW hs (Txt.split s (" " : Str)) = none → Q (.d .non) M) ∧ (∀ w q, wdW hs (Txt.split s (" " : Str)) = some (w, q) → Q (.own [.str w, q]) M)
theorem len_law_words_read {cs : Cs} : ∀ ds M Q E, sp_law_words_read cs ds M Q E → ds.length = 2 := fun _ _ _ _ ⟨_, _, h, _⟩ => by rw [h]; rfl
def sp_law_due (_ : Cs) : SpD := fun ds M Q E => ∃ s : Str, ds = [.str s] ∧ PyData.strOk s = true ∧ s.length ≤ 1500 ∧ Q (.d (ruleT s)) M
theorem len_law_due {cs : Cs} : ∀ ds M Q E, sp_law_due cs ds M Q E → ds.length = 1 := fun _ _ _ _ ⟨_, h, _⟩ => by rw [h]; rfl
theorem sp_law_due_eq {cs : Cs} {M : MH} {Q : Sl → MH → Prop} {E : Addr → List (Str × D) → MH → Prop} {s : Str} : sp_law_due cs [.str s] M Q E = (PyData.strOk s = true ∧ s.length ≤ 1500 ∧ Q (.d (ruleT s)) M) :=
  propext ⟨fun ⟨_, h, q⟩ => by cases h; exact q, fun q => ⟨s, rfl, q⟩⟩

def sp_read_boost (_ : Cs) : SpD := fun ds M Q E => ∃ s : Str, ds = [.str s] ∧ PyData.strOk s = true ∧ s.length ≤ 1000000 ∧ Q (.d (bo s)) M
theorem len_read_boost {cs : Cs} : ∀ ds M Q E, sp_read_boost cs ds M Q E → ds.length = 1 := fun _ _ _ _ ⟨_, h, _⟩ => by rw [h]; rfl
theorem sp_read_boost_eq {cs : Cs} {M : MH} {Q : Sl → MH → Prop} {E : Addr → List (Str × D) → MH → Prop} {s : Str} : sp_read_boost cs [.str s] M Q E = (PyData.strOk s = true ∧ s.length ≤ 1000000 ∧ Q (.d (bo s)) M) :=
  propext ⟨fun ⟨_, h, q⟩ => by cases h; exact q, fun q => ⟨s, rfl, q⟩⟩
def sp_read_level (_ : Cs) : SpD := fun ds M Q E => ∃ s : Str, ds = [.str s] ∧ PyData.strOk s = true ∧ s.length ≤ 1000000 ∧ Q (.d (lv s)) M
theorem len_read_level {cs : Cs} : ∀ ds M Q E, sp_read_level cs ds M Q E → ds.length = 1 := fun _ _ _ _ ⟨_, h, _⟩ => by rw [h]; rfl
theorem sp_read_level_eq {cs : Cs} {M : MH} {Q : Sl → MH → Prop} {E : Addr → List (Str × D) → MH → Prop} {s : Str} : sp_read_level cs [.str s] M Q E = (PyData.strOk s = true ∧ s.length ≤ 1000000 ∧ Q (.d (lv s)) M) :=
  propext ⟨fun ⟨_, h, q⟩ => by cases h; exact q, fun q => ⟨s, rfl, q⟩⟩
def sp_read_rule (cs : Cs) : SpD := fun ds M Q E => ∃ s : Str, ds = [.str s] ∧ PyData.strOk s = true ∧ s.length ≤ 1500 ∧ (∀ i : Nat, ruleT s = .int i → i ≤ 1501 → E cs.c_NoText [("row", .int i)] M) ∧ (∀ vs, ruleT s = .tup vs → Q (.d (.tup vs)) M)
theorem len_read_rule {cs : Cs} : ∀ ds M Q E, sp_read_rule cs ds M Q E → ds.length = 1 := fun _ _ _ _ ⟨_, h, _⟩ => by rw [h]; rfl
theorem sp_read_rule_eq {cs : Cs} {M : MH} {Q : Sl → MH → Prop} {E : Addr → List (Str × D) → MH → Prop} {s : Str} : sp_read_rule cs [.str s] M Q E = (PyData.strOk s = true ∧ s.length ≤ 1500 ∧ (∀ i : Nat, ruleT s = .int i → i ≤ 1501 → E cs.c_NoText [("row", .int i)] M) ∧ (∀ vs, ruleT s = .tup vs → Q (.d (.tup vs)) M)) :=
  propext ⟨fun ⟨_, h, q⟩ => by cases h; exact q, fun q => ⟨s, rfl, q⟩⟩
def sp_law_right (_ : Cs) : SpD := fun ds M Q E => ∃ s : Str, ds = [.str s] ∧ PyData.strOk s = true ∧ s.length ≤ 1500 ∧ ∀ M', (∀ b o, M b = some o → M' b = some o) → Q (.d (.bl true)) M'
theorem len_law_right {cs : Cs} : ∀ ds M Q E, sp_law_right cs ds M Q E → ds.length = 1 := fun _ _ _ _ ⟨_, h, _⟩ => by rw [h]; rfl
theorem sp_law_right_of {cs : Cs} {M : MH} {Q : Sl → MH → Prop} {E : Addr → List (Str × D) → MH → Prop} {s : Str} (h1 : PyData.strOk s = true) (h2 : s.length ≤ 1500) (k : ∀ M', (∀ b o, M b = some o → M' b = some o) → Q (.d (.bl true)) M') : sp_law_right cs [.str s] M Q E := ⟨s, rfl, h1, h2, k⟩
abbrev sp_law_rule_lines (cs : Cs) : SpD := sp_rule_lines cs
theorem len_law_rule_lines {cs : Cs} : ∀ ds M Q E, sp_law_rule_lines cs ds M Q E → ds.length = 1 := len_rule_lines
/-! ### texts in a row -/
def jl (ws : List Str) : Nat := (ws.map fun w => w.length + 1).sum
def sp_law_spoilt_line (_ : Cs) : SpD := fun ds M Q E => ∃ (a : Addr) (n : Nat) (s : Str), ds = [.ref a, .str s] ∧ StoreAt M a n ∧ n < 2 ^ 52 ∧ PyData.strOk s = true ∧ s.length ≤ 100000 ∧
  ∀ (w : Str) M', PyData.strOk w = true → w.length ≤ s.length + 50 → StoreAt M' a (n + 20) → (∀ b, b ≠ a → M b ≠ none → M' b = M b) → Q (.d (.str w)) M'
theorem len_law_spoilt_line {cs : Cs} : ∀ ds M Q E, sp_law_spoilt_line cs ds M Q E → ds.length = 2 := fun _ _ _ _ ⟨_, _, _, h, _⟩ => by rw [h]; rfl
def sp_law_spoilt (_ : Cs) : SpD := fun ds M Q E => ∃ (a : Addr) (n : Nat) (ls : List Str), ds = [.ref a, .lst (ls.map D.str)] ∧ StoreAt M a n ∧ n < 2 ^ 50 ∧ (∀ w ∈ ls, PyData.strOk w = true ∧ w.length ≤ 40) ∧ 1 ≤ ls.length ∧ ls.length ≤ 7 ∧
  ∀ (w : Str) M', PyData.strOk w = true → w.length ≤ 1500 → StoreAt M' a (n + 200) → (∀ b, b ≠ a → M b ≠ none → M' b = M b) → Q (.d (.str w)) M'
theorem len_law_spoilt {cs : Cs} : ∀ ds M Q E, sp_law_spoilt cs ds M Q E → ds.length = 2 := fun _ _ _ _ ⟨_, _, _, h, _⟩ => by rw [h]; rfl
abbrev sp_law_store (_ : Cs) : SpD := spStore
theorem len_law_store {cs : Cs} : ∀ ds M Q E, sp_law_store cs ds M Q E → ds.length = 1 := fun _ _ _ _ ⟨_, h, _⟩ => by rw [h]; rfl
abbrev sp_law (_ : Cs) : SpD := spLawT
theorem len_law {cs : Cs} : ∀ ds M Q E, sp_law cs ds M Q E → ds.length = 1 := fun _ _ _ _ ⟨_, h, _⟩ => by rw [h]; rfl
end Lw

set_option Elab.async false
set_option linter.all false
set_option maxRecDepth 100000
set_option maxHeartbeats 4000000
namespace Lw
open PySem PySem.Spec PyProof.Rows L2 DL
def td_law_mix (cs : Cs) : DP := (sSeq (sAsg (dBin fMod (dFz (dBin fAdd (dFz (dBin fAdd (dFz (dBin fAdd (dFz (dBin fMod (oPeek 0) (vC (.int 2147483629)))) (dFz (dBin fMul (dFz (dBin fMul (vC (.int 7919)) (oPeek 1))) (oPeek 1))))) (dFz (dBin fMul (vC (.int 104729)) (oPeek 1))))) (vC (.int 13)))) (vC (.int 2147483629))) 2) (sSeq (sAsg (dBin fMod (dFz (dBin fMul (dFz (dBin fMod (dFz (dBin fMul (oPeek 2) (oPeek 2))) (vC (.int 2147483587)))) (oPeek 2))) (vC (.int 2147483563))) 2) (sRet (dBin fDiv (dFz (dBin fMod (dFz (dBin fAdd (dFz (dBin fMul (oPeek 2) (vC (.int 40692)))) (oPeek 1))) (vC (.int 2147483399)))) (vC (.int 16))))))
theorem u_law_mix {cs : Cs} {E : DEnds} {δ : DS} {M : MH} : td_law_mix cs E δ M = (sSeq (sAsg (dBin fMod (dFz (dBin fAdd (dFz (dBin fAdd (dFz (dBin fAdd (dFz (dBin fMod (oPeek 0) (vC (.int 2147483629)))) (dFz (dBin fMul (dFz (dBin fMul (vC (.int 7919)) (oPeek 1))) (oPeek 1))))) (dFz (dBin fMul (vC (.int 104729)) (oPeek 1))))) (vC (.int 13)))) (vC (.int 2147483629))) 2) (sSeq (sAsg (dBin fMod (dFz (dBin fMul (dFz (dBin fMod (dFz (dBin fMul (oPeek 2) (oPeek 2))) (vC (.int 2147483587)))) (oPeek 2))) (vC (.int 2147483563))) 2) (sRet (dBin fDiv (dFz (dBin fMod (dFz (dBin fAdd (dFz (dBin fMul (oPeek 2) (vC (.int 40692)))) (oPeek 1))) (vC (.int 2147483399)))) (vC (.int 16)))))) E δ M := rfl
def td_law_pick (cs : Cs) : DP := (sSeq (sSetM (dFz (dBin fAdd (dFz (dBin fIx (oPeek 0) (vC (.int 4)))) (vC (.int 1)))) (vVar 0) (vC (.int 4))) (sSeq (sIf (tdAnd (dCmp fEq (dFz (dBin fIx (oPeek 0) (vC (.int 2)))) (vC (.int 0))) (dCmp fLt (dFz (dBin fIx (oPeek 0) (vC (.int 1)))) (dFz (dCB fLen (aCons (dFz (dBin fIx (oPeek 0) (vC (.int 0)))) aNil))))) (sSeq (sAsg (dBin fIx (dFz (dBin fIx (oPeek 0) (vC (.int 0)))) (dFz (dBin fIx (oPeek 0) (vC (.int 1))))) 2) (sSeq (sSetM (dFz (dBin fAdd (dFz (dBin fIx (oPeek 0) (vC (.int 1)))) (vC (.int 1)))) (vVar 0) (vC (.int 1))) (sSeq (sIf (dCmp fLt (oPeek 2) (dFz (dBin fPow (vC (.int 10)) (vC (.int 18))))) (sRet (dBin fMod (dFz (dCall (sp_law_mix cs) (aCons (vVar 2) (aCons (dFz (dBin fIx (oPeek 0) (vC (.int 4)))) aNil)))) (oPeek 1))) sNext) (sSetM (vVar 2) (vVar 0) (vC (.int 2)))))) sNext) (sSeq (sIf (dCmp fGt (dFz (dBin fIx (oPeek 0) (vC (.int 2)))) (vC (.int 0))) (sSeq (sAsg (dBin fMod (dFz (dBin fIx (oPeek 0) (vC (.int 2)))) (oPeek 1)) 3) (sSeq (sSetM (dFz (dBin fDiv (dFz (dBin fIx (oPeek 0) (vC (.int 2)))) (oPeek 1))) (vVar 0) (vC (.int 2))) (sRetV 3))) sNext) (sRet (dBin fMod (dFz (dCall (sp_law_mix cs) (aCons (dFz (dBin fIx (oPeek 0) (vC (.int 3)))) (aCons (dFz (dBin fIx (oPeek 0) (vC (.int 4)))) aNil)))) (oPeek 1))))))
theorem u_law_pick {cs : Cs} {E : DEnds} {δ : DS} {M : MH} : td_law_pick cs E δ M = (sSeq (sSetM (dFz (dBin fAdd (dFz (dBin fIx (oPeek 0) (vC (.int 4)))) (vC (.int 1)))) (vVar 0) (vC (.int 4))) (sSeq (sIf (tdAnd (dCmp fEq (dFz (dBin fIx (oPeek 0) (vC (.int 2)))) (vC (.int 0))) (dCmp fLt (dFz (dBin fIx (oPeek 0) (vC (.int 1)))) (dFz (dCB fLen (aCons (dFz (dBin fIx (oPeek 0) (vC (.int 0)))) aNil))))) (sSeq (sAsg (dBin fIx (dFz (dBin fIx (oPeek 0) (vC (.int 0)))) (dFz (dBin fIx (oPeek 0) (vC (.int 1))))) 2) (sSeq (sSetM (dFz (dBin fAdd (dFz (dBin fIx (oPeek 0) (vC (.int 1)))) (vC (.int 1)))) (vVar 0) (vC (.int 1))) (sSeq (sIf (dCmp fLt (oPeek 2) (dFz (dBin fPow (vC (.int 10)) (vC (.int 18))))) (sRet (dBin fMod (dFz (dCall (sp_law_mix cs) (aCons (vVar 2) (aCons (dFz (dBin fIx (oPeek 0) (vC (.int 4)))) aNil)))) (oPeek 1))) sNext) (sSetM (vVar 2) (vVar 0) (vC (.int 2)))))) sNext) (sSeq (sIf (dCmp fGt (dFz (dBin fIx (oPeek 0) (vC (.int 2)))) (vC (.int 0))) (sSeq (sAsg (dBin fMod (dFz (dBin fIx (oPeek 0) (vC (.int 2)))) (oPeek 1)) 3) (sSeq (sSetM (dFz (dBin fDiv (dFz (dBin fIx (oPeek 0) (vC (.int 2)))) (oPeek 1))) (vVar 0) (vC (.int 2))) (sRetV 3))) sNext) (sRet (dBin fMod (dFz (dCall (sp_law_mix cs) (aCons (dFz (dBin fIx (oPeek 0) (vC (.int 3)))) (aCons (dFz (dBin fIx (oPeek 0) (vC (.int 4)))) aNil)))) (oPeek 1)))))) E δ M := rfl
def td_law_good_B3 (cs : Cs) : DP := (sAppOwn 2 (dFz (dTup (aCons (dFz (dBin fIx (dFz (dLst (aCons (vC (.str ("queue" : Str))) (aCons (vC (.str ("stack" : Str))) aNil)))) (dFz (dCall (sp_law_pick cs) (aCons (vVar 0) (aCons (vC (.int 2)) aNil)))))) (aCons (dFz (dBin fIx (oPeek 1) (dFz (dCall (sp_law_pick cs) (aCons (vVar 0) (aCons (vC (.int 4)) aNil)))))) aNil)))))
theorem u_law_good_B3 {cs : Cs} {E : DEnds} {δ : DS} {M : MH} : td_law_good_B3 cs E δ M = (sAppOwn 2 (dFz (dTup (aCons (dFz (dBin fIx (dFz (dLst (aCons (vC (.str ("queue" : Str))) (aCons (vC (.str ("stack" : Str))) aNil)))) (dFz (dCall (sp_law_pick cs) (aCons (vVar 0) (aCons (vC (.int 2)) aNil)))))) (aCons (dFz (dBin fIx (oPeek 1) (dFz (dCall (sp_law_pick cs) (aCons (vVar 0) (aCons (vC (.int 4)) aNil)))))) aNil))))) E δ M := rfl
def td_law_good_L3 (cs : Cs) : DP := (sFor (iRange1 (aCons (dFz (dBin fAdd (vC (.int 1)) (dFz (dCall (sp_law_pick cs) (aCons (vVar 0) (aCons (vC (.int 6)) aNil)))))) aNil)) (gN 3) (td_law_good_B3 cs))
theorem u_law_good_L3 {cs : Cs} {E : DEnds} {δ : DS} {M : MH} : td_law_good_L3 cs E δ M = (sFor (iRange1 (aCons (dFz (dBin fAdd (vC (.int 1)) (dFz (dCall (sp_law_pick cs) (aCons (vVar 0) (aCons (vC (.int 6)) aNil)))))) aNil)) (gN 3) (td_law_good_B3 cs)) E δ M := rfl
def td_law_good_R3 (cs : Cs) : DP := (sRet (dTup (aCons (dFz (dCB fTuple (aCons (oPeek 2) aNil))) (aCons (dFz (dBin fIx (oPeek 1) (dFz (dCall (sp_law_pick cs) (aCons (vVar 0) (aCons (vC (.int 4)) aNil)))))) aNil))))
theorem u_law_good_R3 {cs : Cs} {E : DEnds} {δ : DS} {M : MH} : td_law_good_R3 cs E δ M = (sRet (dTup (aCons (dFz (dCB fTuple (aCons (oPeek 2) aNil))) (aCons (dFz (dBin fIx (oPeek 1) (dFz (dCall (sp_law_pick cs) (aCons (vVar 0) (aCons (vC (.int 4)) aNil)))))) aNil)))) E δ M := rfl
def td_law_good (cs : Cs) : DP := (sSeq (sAsg (dLst (aCons (vC .non) (aCons (vC (.int 1)) (aCons (dFz (dBin fAdd (vC (.int 1)) (dFz (dCall (sp_law_pick cs) (aCons (vVar 0) (aCons (vC (.int 9)) aNil)))))) (aCons (dFz (dBin fPow (vC (.int 10)) (vC (.int 30)))) aNil))))) 1) (sSeq (sAsg (dLst aNil) 2) (sSeq (td_law_good_L3 cs) (td_law_good_R3 cs))))
theorem u_law_good {cs : Cs} {E : DEnds} {δ : DS} {M : MH} : td_law_good cs E δ M = (sSeq (sAsg (dLst (aCons (vC .non) (aCons (vC (.int 1)) (aCons (dFz (dBin fAdd (vC (.int 1)) (dFz (dCall (sp_law_pick cs) (aCons (vVar 0) (aCons (vC (.int 9)) aNil)))))) (aCons (dFz (dBin fPow (vC (.int 10)) (vC (.int 30)))) aNil))))) 1) (sSeq (sAsg (dLst aNil) 2) (sSeq (td_law_good_L3 cs) (td_law_good_R3 cs)))) E δ M := rfl
def td_law_kind (cs : Cs) : DP := (sSeq (sAsg (dLst (aCons (dFz (dOfT (dIsX (IsxC cs.K (.ref cs.c_NoJobs)) (oPeek 0)))) (aCons (dFz (dOfT (dIsX (IsxC cs.K (.ref cs.c_NoRule)) (oPeek 0)))) (aCons (dFz (dOfT (dIsX (IsxC cs.K (.ref cs.c_NoLengths)) (oPeek 0)))) aNil)))) 1) (sSeq (sAsg (dBin fAdd (oPeek 1) (dFz (dLst (aCons (dFz (dOfT (dIsX (IsxC cs.K (.ref cs.c_NoLog)) (oPeek 0)))) (aCons (dFz (dOfT (dIsX (IsxC cs.K (.ref cs.c_NoMarks)) (oPeek 0)))) (aCons (dFz (dOfT (dIsX (IsxC cs.K (.ref cs.c_NoNamed)) (oPeek 0)))) aNil)))))) 1) (sSeq (sAsg (dBin fAdd (oPeek 1) (dFz (dLst (aCons (dFz (dOfT (dIsX (IsxC cs.K (.ref cs.c_NoOrder)) (oPeek 0)))) (aCons (dFz (dOfT (dIsX (IsxC cs.K (.ref cs.c_NoText)) (oPeek 0)))) (aCons (dFz (dOfT (dIsX (IsxC cs.K (.ref cs.c_NoNumber)) (oPeek 0)))) aNil)))))) 1) (sSeq (sAsg (dBin fAdd (oPeek 1) (dFz (dLst (aCons (dFz (dOfT (dIsX (IsxC cs.K (.ref cs.c_NoName)) (oPeek 0)))) (aCons (dFz (dOfT (dIsX (IsxC cs.K (.ref cs.c_NoUndo)) (oPeek 0)))) (aCons (dFz (dOfT (dIsX (IsxC cs.K (.ref cs.c_NoLine)) (oPeek 0)))) aNil)))))) 1) (sSeq (sIf (tdOr (tdNot (dIsX (IsxC cs.K (.ref cs.c_SlotError)) (oPeek 0))) (tdOr (tdNot (dIsX (IsxC cs.K (.type "ValueError")) (oPeek 0))) (dCmp fNe (dFz (dM "list" fCnt (oPeek 1) (aCons (vC (.bl true)) aNil))) (vC (.int 1))))) (sRet (dTup (aCons (vC (.str ("other" : Str))) (aCons (vC (.int 0)) aNil)))) sNext) (sSeq (sAsg (dM "list" fIdx (oPeek 1) (aCons (vC (.bl true)) aNil)) 2) (sSeq (sIf (dCmp fLt (oPeek 2) (vC (.int 7))) (sRet (dTup (aCons (dFz (dBin fIx (dFz (dLst (aCons (vC (.str ("jobs" : Str))) (aCons (vC (.str ("rule" : Str))) (aCons (vC (.str ("lengths" : Str))) (aCons (vC (.str ("log" : Str))) (aCons (vC (.str ("marks" : Str))) (aCons (vC (.str ("named" : Str))) (aCons (vC (.str ("order" : Str))) aNil))))))))) (oPeek 2))) (aCons (dFz (dXk ("place" : Str) (XkC cs.K ("place" : Str)) (oPeek 0))) aNil)))) sNext) (sSeq (sIf (dCmp fEq (oPeek 2) (vC (.int 7))) (sRet (dTup (aCons (vC (.str ("text" : Str))) (aCons (dFz (dXk ("row" : Str) (XkC cs.K ("row" : Str)) (oPeek 0))) aNil)))) sNext) (sSeq (sIf (dCmp fEq (oPeek 2) (vC (.int 8))) (sRet (dTup (aCons (vC (.str ("number" : Str))) (aCons (dFz (dXk ("number" : Str) (XkC cs.K ("number" : Str)) (oPeek 0))) aNil)))) sNext) (sSeq (sIf (dCmp fEq (oPeek 2) (vC (.int 9))) (sRet (dTup (aCons (vC (.str ("name" : Str))) (aCons (dFz (dXk ("name" : Str) (XkC cs.K ("name" : Str)) (oPeek 0))) aNil)))) sNext) (sRet (dTup (aCons (dFz (dBin fIx (dFz (dLst (aCons (vC (.str ("undo" : Str))) (aCons (vC (.str ("line" : Str))) aNil)))) (dFz (dBin fSub (oPeek 2) (vC (.int 10)))))) (aCons (vC (.int 0)) aNil))))))))))))))
theorem u_law_kind {cs : Cs} {E : DEnds} {δ : DS} {M : MH} : td_law_kind cs E δ M = (sSeq (sAsg (dLst (aCons (dFz (dOfT (dIsX (IsxC cs.K (.ref cs.c_NoJobs)) (oPeek 0)))) (aCons (dFz (dOfT (dIsX (IsxC cs.K (.ref cs.c_NoRule)) (oPeek 0)))) (aCons (dFz (dOfT (dIsX (IsxC cs.K (.ref cs.c_NoLengths)) (oPeek 0)))) aNil)))) 1) (sSeq (sAsg (dBin fAdd (oPeek 1) (dFz (dLst (aCons (dFz (dOfT (dIsX (IsxC cs.K (.ref cs.c_NoLog)) (oPeek 0)))) (aCons (dFz (dOfT (dIsX (IsxC cs.K (.ref cs.c_NoMarks)) (oPeek 0)))) (aCons (dFz (dOfT (dIsX (IsxC cs.K (.ref cs.c_NoNamed)) (oPeek 0)))) aNil)))))) 1) (sSeq (sAsg (dBin fAdd (oPeek 1) (dFz (dLst (aCons (dFz (dOfT (dIsX (IsxC cs.K (.ref cs.c_NoOrder)) (oPeek 0)))) (aCons (dFz (dOfT (dIsX (IsxC cs.K (.ref cs.c_NoText)) (oPeek 0)))) (aCons (dFz (dOfT (dIsX (IsxC cs.K (.ref cs.c_NoNumber)) (oPeek 0)))) aNil)))))) 1) (sSeq (sAsg (dBin fAdd (oPeek 1) (dFz (dLst (aCons (dFz (dOfT (dIsX (IsxC cs.K (.ref cs.c_NoName)) (oPeek 0)))) (aCons (dFz (dOfT (dIsX (IsxC cs.K (.ref cs.c_NoUndo)) (oPeek 0)))) (aCons (dFz (dOfT (dIsX (IsxC cs.K (.ref cs.c_NoLine)) (oPeek 0)))) aNil)))))) 1) (sSeq (sIf (tdOr (tdNot (dIsX (IsxC cs.K (.ref cs.c_SlotError)) (oPeek 0))) (tdOr (tdNot (dIsX (IsxC cs.K (.type "ValueError")) (oPeek 0))) (dCmp fNe (dFz (dM "list" fCnt (oPeek 1) (aCons (vC (.bl true)) aNil))) (vC (.int 1))))) (sRet (dTup (aCons (vC (.str ("other" : Str))) (aCons (vC (.int 0)) aNil)))) sNext) (sSeq (sAsg (dM "list" fIdx (oPeek 1) (aCons (vC (.bl true)) aNil)) 2) (sSeq (sIf (dCmp fLt (oPeek 2) (vC (.int 7))) (sRet (dTup (aCons (dFz (dBin fIx (dFz (dLst (aCons (vC (.str ("jobs" : Str))) (aCons (vC (.str ("rule" : Str))) (aCons (vC (.str ("lengths" : Str))) (aCons (vC (.str ("log" : Str))) (aCons (vC (.str ("marks" : Str))) (aCons (vC (.str ("named" : Str))) (aCons (vC (.str ("order" : Str))) aNil))))))))) (oPeek 2))) (aCons (dFz (dXk ("place" : Str) (XkC cs.K ("place" : Str)) (oPeek 0))) aNil)))) sNext) (sSeq (sIf (dCmp fEq (oPeek 2) (vC (.int 7))) (sRet (dTup (aCons (vC (.str ("text" : Str))) (aCons (dFz (dXk ("row" : Str) (XkC cs.K ("row" : Str)) (oPeek 0))) aNil)))) sNext) (sSeq (sIf (dCmp fEq (oPeek 2) (vC (.int 8))) (sRet (dTup (aCons (vC (.str ("number" : Str))) (aCons (dFz (dXk ("number" : Str) (XkC cs.K ("number" : Str)) (oPeek 0))) aNil)))) sNext) (sSeq (sIf (dCmp fEq (oPeek 2) (vC (.int 9))) (sRet (dTup (aCons (vC (.str ("name" : Str))) (aCons (dFz (dXk ("name" : Str) (XkC cs.K ("name" : Str)) (oPeek 0))) aNil)))) sNext) (sRet (dTup (aCons (dFz (dBin fIx (dFz (dLst (aCons (vC (.str ("undo" : Str))) (aCons (vC (.str ("line" : Str))) aNil)))) (dFz (dBin fSub (oPeek 2) (vC (.int 10)))))) (aCons (vC (.int 0)) aNil)))))))))))))) E δ M := rfl
def td_is_integer (cs : Cs) : DP := (sRet (dAnd (dOfT (dIsi .int (oPeek 0))) (dAnd (dNot (dOfT (dIsi .bool (oPeek 0)))) (dOfT (dCmp fGe (oPeek 0) (oPeek 1))))))
theorem u_is_integer {cs : Cs} {E : DEnds} {δ : DS} {M : MH} : td_is_integer cs E δ M = (sRet (dAnd (dOfT (dIsi .int (oPeek 0))) (dAnd (dNot (dOfT (dIsi .bool (oPeek 0)))) (dOfT (dCmp fGe (oPeek 0) (oPeek 1)))))) E δ M := rfl
def td_is_level (cs : Cs) : DP := (sSeq (sIf (tdOr (tdNot (dIsi .tuple (oPeek 0))) (dCmp fNe (dFz (dCB fLen (aCons (oPeek 0) aNil))) (vC (.int 2)))) (sRet (dC (.bl false))) sNext) (sSeq (sIf (tdOr (tdNot (dIsi .str (dFz (dBin fIx (oPeek 0) (vC (.int 0)))))) (dCmp fNotIn (dFz (dBin fIx (oPeek 0) (vC (.int 0)))) (dFz (dTup (aCons (vC (.str ("queue" : Str))) (aCons (vC (.str ("stack" : Str))) aNil)))))) (sRet (dC (.bl false))) sNext) (sRet (dOr (dOfT (dCmp fIs (dFz (dBin fIx (oPeek 0) (vC (.int 1)))) (vC .non))) (dCall (sp_is_integer cs) (aCons (dFz (dBin fIx (oPeek 0) (vC (.int 1)))) (aCons (vC (.int 1)) aNil)))))))
theorem u_is_level {cs : Cs} {E : DEnds} {δ : DS} {M : MH} : td_is_level cs E δ M = (sSeq (sIf (tdOr (tdNot (dIsi .tuple (oPeek 0))) (dCmp fNe (dFz (dCB fLen (aCons (oPeek 0) aNil))) (vC (.int 2)))) (sRet (dC (.bl false))) sNext) (sSeq (sIf (tdOr (tdNot (dIsi .str (dFz (dBin fIx (oPeek 0) (vC (.int 0)))))) (dCmp fNotIn (dFz (dBin fIx (oPeek 0) (vC (.int 0)))) (dFz (dTup (aCons (vC (.str ("queue" : Str))) (aCons (vC (.str ("stack" : Str))) aNil)))))) (sRet (dC (.bl false))) sNext) (sRet (dOr (dOfT (dCmp fIs (dFz (dBin fIx (oPeek 0) (vC (.int 1)))) (vC .non))) (dCall (sp_is_integer cs) (aCons (dFz (dBin fIx (oPeek 0) (vC (.int 1)))) (aCons (vC (.int 1)) aNil))))))) E δ M := rfl
def td_check_rule_B6 (cs : Cs) : DP := (sIf (tdNot (dB (dCall (sp_is_level cs) (aCons (vVar 4) aNil)))) (sRaise cs.c_NoRule ("place" : Str) PrI (vVar 3)) sNext)
theorem u_check_rule_B6 {cs : Cs} {E : DEnds} {δ : DS} {M : MH} : td_check_rule_B6 cs E δ M = (sIf (tdNot (dB (dCall (sp_is_level cs) (aCons (vVar 4) aNil)))) (sRaise cs.c_NoRule ("place" : Str) PrI (vVar 3)) sNext) E δ M := rfl
def td_check_rule_L6 (cs : Cs) : DP := (sFor (iEnumD (aCons (vVar 1) aNil)) (gTupD 2 (gConsD (gN 3) (gConsD (gN 4) gNilD))) (td_check_rule_B6 cs))
theorem u_check_rule_L6 {cs : Cs} {E : DEnds} {δ : DS} {M : MH} : td_check_rule_L6 cs E δ M = (sFor (iEnumD (aCons (vVar 1) aNil)) (gTupD 2 (gConsD (gN 3) (gConsD (gN 4) gNilD))) (td_check_rule_B6 cs)) E δ M := rfl
def td_check_rule_R6 (cs : Cs) : DP := (sIf (tdAnd (dCmp fIsNot (oPeek 2) (vC .non)) (tdNot (dB (dCall (sp_is_integer cs) (aCons (vVar 2) (aCons (vC (.int 1)) aNil)))))) (sRaise cs.c_NoRule ("place" : Str) PrI (dFz (dCB fLen (aCons (oPeek 1) aNil)))) sNext)
theorem u_check_rule_R6 {cs : Cs} {E : DEnds} {δ : DS} {M : MH} : td_check_rule_R6 cs E δ M = (sIf (tdAnd (dCmp fIsNot (oPeek 2) (vC .non)) (tdNot (dB (dCall (sp_is_integer cs) (aCons (vVar 2) (aCons (vC (.int 1)) aNil)))))) (sRaise cs.c_NoRule ("place" : Str) PrI (dFz (dCB fLen (aCons (oPeek 1) aNil)))) sNext) E δ M := rfl
def td_check_rule (cs : Cs) : DP := (sSeq (sIf (tdOr (tdNot (dIsi .tuple (oPeek 0))) (dCmp fNe (dFz (dCB fLen (aCons (oPeek 0) aNil))) (vC (.int 2)))) (sRaise cs.c_NoRule ("place" : Str) PrI (vC (.int 0))) sNext) (sSeq (sAsgT (vVar 0) (gTupD 2 (gConsD (gN 1) (gConsD (gN 2) gNilD)))) (sSeq (sIf (tdOr (tdNot (dIsi .tuple (oPeek 1))) (tdNot (dChain fLe fLe (vC (.int 1)) (dFz (dCB fLen (aCons (oPeek 1) aNil))) (vC (.int 6))))) (sRaise cs.c_NoRule ("place" : Str) PrI (vC (.int 0))) sNext) (sSeq (td_check_rule_L6 cs) (td_check_rule_R6 cs)))))
theorem u_check_rule {cs : Cs} {E : DEnds} {δ : DS} {M : MH} : td_check_rule cs E δ M = (sSeq (sIf (tdOr (tdNot (dIsi .tuple (oPeek 0))) (dCmp fNe (dFz (dCB fLen (aCons (oPeek 0) aNil))) (vC (.int 2)))) (sRaise cs.c_NoRule ("place" : Str) PrI (vC (.int 0))) sNext) (sSeq (sAsgT (vVar 0) (gTupD 2 (gConsD (gN 1) (gConsD (gN 2) gNilD)))) (sSeq (sIf (tdOr (tdNot (dIsi .tuple (oPeek 1))) (tdNot (dChain fLe fLe (vC (.int 1)) (dFz (dCB fLen (aCons (oPeek 1) aNil))) (vC (.int 6))))) (sRaise cs.c_NoRule ("place" : Str) PrI (vC (.int 0))) sNext) (sSeq (td_check_rule_L6 cs) (td_check_rule_R6 cs))))) E δ M := rfl
def td_rule_lines_R2 (cs : Cs) : DP := (sRetV 1)
theorem u_rule_lines_R2 {cs : Cs} {E : DEnds} {δ : DS} {M : MH} : td_rule_lines_R2 cs E δ M = (sRetV 1) E δ M := rfl
def td_rule_lines (cs : Cs) : DP := (sSeq (sAsg (dLc (iAny (dFz (dBin fIx (oPeek 0) (vC (.int 0))))) (gTupD 2 (gConsD (gN 2) (gConsD (gN 3) gNilD))) tdYes (dFz (dIf (dCmp fIs (oPeek 3) (vC .non)) (dVar 2) (dJs [(xFmt (oPeek 2)), (vC (.str (" " : Str))), (xFmt (oPeek 3))]))) [2, 3]) 1) (sSeq (sIf (dCmp fIsNot (dFz (dBin fIx (oPeek 0) (vC (.int 1)))) (vC .non)) (sAppOwn 1 (dFz (dJs [(vC (.str ("boost " : Str))), (xFmt (dFz (dBin fIx (oPeek 0) (vC (.int 1)))))]))) sNext) (td_rule_lines_R2 cs)))
theorem u_rule_lines {cs : Cs} {E : DEnds} {δ : DS} {M : MH} : td_rule_lines cs E δ M = (sSeq (sAsg (dLc (iAny (dFz (dBin fIx (oPeek 0) (vC (.int 0))))) (gTupD 2 (gConsD (gN 2) (gConsD (gN 3) gNilD))) tdYes (dFz (dIf (dCmp fIs (oPeek 3) (vC .non)) (dVar 2) (dJs [(xFmt (oPeek 2)), (vC (.str (" " : Str))), (xFmt (oPeek 3))]))) [2, 3]) 1) (sSeq (sIf (dCmp fIsNot (dFz (dBin fIx (oPeek 0) (vC (.int 1)))) (vC .non)) (sAppOwn 1 (dFz (dJs [(vC (.str ("boost " : Str))), (xFmt (dFz (dBin fIx (oPeek 0) (vC (.int 1)))))]))) sNext) (td_rule_lines_R2 cs))) E δ M := rfl
def td_show_rule (cs : Cs) : DP := (sSeq (sDrop (dCall (sp_check_rule cs) (aCons (vVar 0) aNil))) (sRet (dJn (vC (.str ("\n" : Str))) (dFz (dCall (sp_rule_lines cs) (aCons (vVar 0) aNil))))))
theorem u_show_rule {cs : Cs} {E : DEnds} {δ : DS} {M : MH} : td_show_rule cs E δ M = (sSeq (sDrop (dCall (sp_check_rule cs) (aCons (vVar 0) aNil))) (sRet (dJn (vC (.str ("\n" : Str))) (dFz (dCall (sp_rule_lines cs) (aCons (vVar 0) aNil)))))) E δ M := rfl
def td_law_list_right_R2 (cs : Cs) : DP := (sRet (dAnd (dOfT (dCmp fIsNot (oPeek 1) (vC .non))) (dOfT (dCmp fEq (dFz (dCall (sp_law_kind cs) (aCons (vVar 1) aNil))) (dFz (dTup (aCons (vC (.str ("rule" : Str))) (aCons (vC (.int 0)) aNil))))))))
theorem u_law_list_right_R2 {cs : Cs} {E : DEnds} {δ : DS} {M : MH} : td_law_list_right_R2 cs E δ M = (sRet (dAnd (dOfT (dCmp fIsNot (oPeek 1) (vC .non))) (dOfT (dCmp fEq (dFz (dCall (sp_law_kind cs) (aCons (vVar 1) aNil))) (dFz (dTup (aCons (vC (.str ("rule" : Str))) (aCons (vC (.int 0)) aNil)))))))) E δ M := rfl
def td_law_list_right (cs : Cs) : DP := (sSeq (sAsg (dC .non) 1) (sSeq (sTry (fun C => PySem.W.exmOne cs.K (.ref C) (.ref cs.c_SlotError) = some true) 2 (sDrop (dCall (sp_show_rule cs) (aCons (vVar 0) aNil))) (sAsg (dVar 2) 1)) (td_law_list_right_R2 cs)))
theorem u_law_list_right {cs : Cs} {E : DEnds} {δ : DS} {M : MH} : td_law_list_right cs E δ M = (sSeq (sAsg (dC .non) 1) (sSeq (sTry (fun C => PySem.W.exmOne cs.K (.ref C) (.ref cs.c_SlotError) = some true) 2 (sDrop (dCall (sp_show_rule cs) (aCons (vVar 0) aNil))) (sAsg (dVar 2) 1)) (td_law_list_right_R2 cs))) E δ M := rfl
def td_law_number (cs : Cs) : DP := (sSeq (sIf (tdOr (tdNot (dChain fLe fLe (vC (.int 1)) (dFz (dCB fLen (aCons (oPeek 0) aNil))) (vC (.int 31)))) (dCmp fNe (dFz (dLc (iPk 0) (gN 1) (dCmp fNotIn (oPeek 1) (vC (.str ("0123456789" : Str)))) (vVar 1) [1])) (dFz (dLst aNil)))) (sRet (dC .non)) sNext) (sSeq (sIf (tdAnd (dCmp fEq (dFz (dBin fIx (oPeek 0) (vC (.int 0)))) (vC (.str ("0" : Str)))) (dCmp fNe (oPeek 0) (vC (.str ("0" : Str))))) (sRet (dC .non)) sNext) (sRet (dCB fIntU (aCons (oPeek 0) aNil)))))
theorem u_law_number {cs : Cs} {E : DEnds} {δ : DS} {M : MH} : td_law_number cs E δ M = (sSeq (sIf (tdOr (tdNot (dChain fLe fLe (vC (.int 1)) (dFz (dCB fLen (aCons (oPeek 0) aNil))) (vC (.int 31)))) (dCmp fNe (dFz (dLc (iPk 0) (gN 1) (dCmp fNotIn (oPeek 1) (vC (.str ("0123456789" : Str)))) (vVar 1) [1])) (dFz (dLst aNil)))) (sRet (dC .non)) sNext) (sSeq (sIf (tdAnd (dCmp fEq (dFz (dBin fIx (oPeek 0) (vC (.int 0)))) (vC (.str ("0" : Str)))) (dCmp fNe (oPeek 0) (vC (.str ("0" : Str))))) (sRet (dC .non)) sNext) (sRet (dCB fIntU (aCons (oPeek 0) aNil))))) E δ M := rfl
def td_law_words_read (cs : Cs) : DP := (sSeq (sAsg (dM "str" fSplit (oPeek 0) (aCons (vC (.str (" " : Str))) aNil)) 2) (sSeq (sIf (tdOr (dCmp fNotIn (dFz (dBin fIx (oPeek 2) (vC (.int 0)))) (oPeek 1)) (dCmp fGt (dFz (dCB fLen (aCons (oPeek 2) aNil))) (vC (.int 2)))) (sRet (dC .non)) sNext) (sSeq (sIf (dCmp fEq (dFz (dCB fLen (aCons (oPeek 2) aNil))) (vC (.int 1))) (sRet (dLst (aCons (dFz (dBin fIx (oPeek 2) (vC (.int 0)))) (aCons (vC .non) aNil)))) sNext) (sSeq (sAsg (dCall (sp_law_number cs) (aCons (dFz (dBin fIx (oPeek 2) (vC (.int 1)))) aNil)) 3) (sSeq (sIf (tdOr (dCmp fIs (oPeek 3) (vC .non)) (dCmp fEq (oPeek 3) (vC (.int 0)))) (sRet (dC .non)) sNext) (sRet (dLst (aCons (dFz (dBin fIx (oPeek 2) (vC (.int 0)))) (aCons (vVar 3) aNil)))))))))
theorem u_law_words_read {cs : Cs} {E : DEnds} {δ : DS} {M : MH} : td_law_words_read cs E δ M = (sSeq (sAsg (dM "str" fSplit (oPeek 0) (aCons (vC (.str (" " : Str))) aNil)) 2) (sSeq (sIf (tdOr (dCmp fNotIn (dFz (dBin fIx (oPeek 2) (vC (.int 0)))) (oPeek 1)) (dCmp fGt (dFz (dCB fLen (aCons (oPeek 2) aNil))) (vC (.int 2)))) (sRet (dC .non)) sNext) (sSeq (sIf (dCmp fEq (dFz (dCB fLen (aCons (oPeek 2) aNil))) (vC (.int 1))) (sRet (dLst (aCons (dFz (dBin fIx (oPeek 2) (vC (.int 0)))) (aCons (vC .non) aNil)))) sNext) (sSeq (sAsg (dCall (sp_law_number cs) (aCons (dFz (dBin fIx (oPeek 2) (vC (.int 1)))) aNil)) 3) (sSeq (sIf (tdOr (dCmp fIs (oPeek 3) (vC .non)) (dCmp fEq (oPeek 3) (vC (.int 0)))) (sRet (dC .non)) sNext) (sRet (dLst (aCons (dFz (dBin fIx (oPeek 2) (vC (.int 0)))) (aCons (vVar 3) aNil))))))))) E δ M := rfl
def td_law_due_B3 (cs : Cs) : DP := (sSeq (sAsg (dCall (sp_law_words_read cs) (aCons (vVar 4) (aCons (dFz (dLst (aCons (vC (.str ("queue" : Str))) (aCons (vC (.str ("stack" : Str))) aNil)))) aNil))) 5) (sSeq (sIf (dCmp fIs (oPeek 5) (vC .non)) (sSeq (sAsg (dCall (sp_law_words_read cs) (aCons (vVar 4) (aCons (dFz (dLst (aCons (vC (.str ("boost" : Str))) aNil))) aNil))) 6) (sSeq (sIf (tdOr (dCmp fEq (oPeek 3) (vC (.int 0))) (tdOr (dCmp fIs (oPeek 6) (vC .non)) (dCmp fIs (dFz (dBin fIx (oPeek 6) (vC (.int 1)))) (vC .non)))) (sRetV 3) sNext) (sRet (dIf (dCmp fLt (dFz (dBin fAdd (oPeek 3) (vC (.int 1)))) (dFz (dCB fLen (aCons (oPeek 1) aNil)))) (dBin fAdd (oPeek 3) (vC (.int 1))) (dTup (aCons (dFz (dCB fTuple (aCons (oPeek 2) aNil))) (aCons (dFz (dBin fIx (oPeek 6) (vC (.int 1)))) aNil))))))) sNext) (sSeq (sIf (dCmp fEq (oPeek 3) (vC (.int 6))) (sRetV 3) sNext) (sAppOwn 2 (dFz (dTup (aCons (dFz (dBin fIx (oPeek 5) (vC (.int 0)))) (aCons (dFz (dBin fIx (oPeek 5) (vC (.int 1)))) aNil))))))))
theorem u_law_due_B3 {cs : Cs} {E : DEnds} {δ : DS} {M : MH} : td_law_due_B3 cs E δ M = (sSeq (sAsg (dCall (sp_law_words_read cs) (aCons (vVar 4) (aCons (dFz (dLst (aCons (vC (.str ("queue" : Str))) (aCons (vC (.str ("stack" : Str))) aNil)))) aNil))) 5) (sSeq (sIf (dCmp fIs (oPeek 5) (vC .non)) (sSeq (sAsg (dCall (sp_law_words_read cs) (aCons (vVar 4) (aCons (dFz (dLst (aCons (vC (.str ("boost" : Str))) aNil))) aNil))) 6) (sSeq (sIf (tdOr (dCmp fEq (oPeek 3) (vC (.int 0))) (tdOr (dCmp fIs (oPeek 6) (vC .non)) (dCmp fIs (dFz (dBin fIx (oPeek 6) (vC (.int 1)))) (vC .non)))) (sRetV 3) sNext) (sRet (dIf (dCmp fLt (dFz (dBin fAdd (oPeek 3) (vC (.int 1)))) (dFz (dCB fLen (aCons (oPeek 1) aNil)))) (dBin fAdd (oPeek 3) (vC (.int 1))) (dTup (aCons (dFz (dCB fTuple (aCons (oPeek 2) aNil))) (aCons (dFz (dBin fIx (oPeek 6) (vC (.int 1)))) aNil))))))) sNext) (sSeq (sIf (dCmp fEq (oPeek 3) (vC (.int 6))) (sRetV 3) sNext) (sAppOwn 2 (dFz (dTup (aCons (dFz (dBin fIx (oPeek 5) (vC (.int 0)))) (aCons (dFz (dBin fIx (oPeek 5) (vC (.int 1)))) aNil)))))))) E δ M := rfl
def td_law_due_L3 (cs : Cs) : DP := (sFor (iEnumD (aCons (vVar 1) aNil)) (gTupD 2 (gConsD (gN 3) (gConsD (gN 4) gNilD))) (td_law_due_B3 cs))
theorem u_law_due_L3 {cs : Cs} {E : DEnds} {δ : DS} {M : MH} : td_law_due_L3 cs E δ M = (sFor (iEnumD (aCons (vVar 1) aNil)) (gTupD 2 (gConsD (gN 3) (gConsD (gN 4) gNilD))) (td_law_due_B3 cs)) E δ M := rfl
def td_law_due_R3 (cs : Cs) : DP := (sRet (dTup (aCons (dFz (dCB fTuple (aCons (oPeek 2) aNil))) (aCons (vC .non) aNil))))
theorem u_law_due_R3 {cs : Cs} {E : DEnds} {δ : DS} {M : MH} : td_law_due_R3 cs E δ M = (sRet (dTup (aCons (dFz (dCB fTuple (aCons (oPeek 2) aNil))) (aCons (vC .non) aNil)))) E δ M := rfl
def td_law_due (cs : Cs) : DP := (sSeq (sAsg (dM "str" fSplit (oPeek 0) (aCons (vC (.str ("\n" : Str))) aNil)) 1) (sSeq (sAsg (dLst aNil) 2) (sFrz 1 (sSeq (td_law_due_L3 cs) (td_law_due_R3 cs)))))
theorem u_law_due {cs : Cs} {E : DEnds} {δ : DS} {M : MH} : td_law_due cs E δ M = (sSeq (sAsg (dM "str" fSplit (oPeek 0) (aCons (vC (.str ("\n" : Str))) aNil)) 1) (sSeq (sAsg (dLst aNil) 2) (sFrz 1 (sSeq (td_law_due_L3 cs) (td_law_due_R3 cs))))) E δ M := rfl
def td_number_in (cs : Cs) : DP := (sSeq (sIf (tdOr (tdNot (dChain fLe fLe (vC (.int 1)) (dFz (dCB fLen (aCons (oPeek 0) aNil))) (vC (.int 31)))) (tdNot (dB (dCB fAll (aCons (dFz (dLc (iPk 0) (gN 1) tdYes (dFz (dOfT (dCmp fIn (oPeek 1) (vC (.str ("0123456789" : Str)))))) [1])) aNil))))) (sRet (dC .non)) sNext) (sSeq (sIf (tdAnd (dCmp fEq (dFz (dBin fIx (oPeek 0) (vC (.int 0)))) (vC (.str ("0" : Str)))) (dCmp fNe (oPeek 0) (vC (.str ("0" : Str))))) (sRet (dC .non)) sNext) (sRet (dCB fIntU (aCons (oPeek 0) aNil)))))
theorem u_number_in {cs : Cs} {E : DEnds} {δ : DS} {M : MH} : td_number_in cs E δ M = (sSeq (sIf (tdOr (tdNot (dChain fLe fLe (vC (.int 1)) (dFz (dCB fLen (aCons (oPeek 0) aNil))) (vC (.int 31)))) (tdNot (dB (dCB fAll (aCons (dFz (dLc (iPk 0) (gN 1) tdYes (dFz (dOfT (dCmp fIn (oPeek 1) (vC (.str ("0123456789" : Str)))))) [1])) aNil))))) (sRet (dC .non)) sNext) (sSeq (sIf (tdAnd (dCmp fEq (dFz (dBin fIx (oPeek 0) (vC (.int 0)))) (vC (.str ("0" : Str)))) (dCmp fNe (oPeek 0) (vC (.str ("0" : Str))))) (sRet (dC .non)) sNext) (sRet (dCB fIntU (aCons (oPeek 0) aNil))))) E δ M := rfl
def td_read_boost (cs : Cs) : DP := (sSeq (sAsg (dM "str" fSplit (oPeek 0) (aCons (vC (.str (" " : Str))) aNil)) 1) (sSeq (sIf (tdOr (dCmp fNe (dFz (dCB fLen (aCons (oPeek 1) aNil))) (vC (.int 2))) (dCmp fNe (dFz (dBin fIx (oPeek 1) (vC (.int 0)))) (vC (.str ("boost" : Str))))) (sRet (dC .non)) sNext) (sSeq (sAsg (dCall (sp_number_in cs) (aCons (dFz (dBin fIx (oPeek 1) (vC (.int 1)))) aNil)) 2) (sRet (dIf (dCmp fEq (oPeek 2) (vC (.int 0))) (dC .non) (dVar 2))))))
theorem u_read_boost {cs : Cs} {E : DEnds} {δ : DS} {M : MH} : td_read_boost cs E δ M = (sSeq (sAsg (dM "str" fSplit (oPeek 0) (aCons (vC (.str (" " : Str))) aNil)) 1) (sSeq (sIf (tdOr (dCmp fNe (dFz (dCB fLen (aCons (oPeek 1) aNil))) (vC (.int 2))) (dCmp fNe (dFz (dBin fIx (oPeek 1) (vC (.int 0)))) (vC (.str ("boost" : Str))))) (sRet (dC .non)) sNext) (sSeq (sAsg (dCall (sp_number_in cs) (aCons (dFz (dBin fIx (oPeek 1) (vC (.int 1)))) aNil)) 2) (sRet (dIf (dCmp fEq (oPeek 2) (vC (.int 0))) (dC .non) (dVar 2)))))) E δ M := rfl
def td_read_level (cs : Cs) : DP := (sSeq (sAsg (dM "str" fSplit (oPeek 0) (aCons (vC (.str (" " : Str))) aNil)) 1) (sSeq (sIf (tdOr (dCmp fNotIn (dFz (dBin fIx (oPeek 1) (vC (.int 0)))) (dFz (dTup (aCons (vC (.str ("queue" : Str))) (aCons (vC (.str ("stack" : Str))) aNil))))) (dCmp fGt (dFz (dCB fLen (aCons (oPeek 1) aNil))) (vC (.int 2)))) (sRet (dC .non)) sNext) (sSeq (sIf (dCmp fEq (dFz (dCB fLen (aCons (oPeek 1) aNil))) (vC (.int 1))) (sRet (dTup (aCons (dFz (dBin fIx (oPeek 1) (vC (.int 0)))) (aCons (vC .non) aNil)))) sNext) (sSeq (sAsg (dCall (sp_number_in cs) (aCons (dFz (dBin fIx (oPeek 1) (vC (.int 1)))) aNil)) 2) (sSeq (sIf (tdOr (dCmp fIs (oPeek 2) (vC .non)) (dCmp fLt (oPeek 2) (vC (.int 1)))) (sRet (dC .non)) sNext) (sRet (dTup (aCons (dFz (dBin fIx (oPeek 1) (vC (.int 0)))) (aCons (vVar 2) aNil)))))))))
theorem u_read_level {cs : Cs} {E : DEnds} {δ : DS} {M : MH} : td_read_level cs E δ M = (sSeq (sAsg (dM "str" fSplit (oPeek 0) (aCons (vC (.str (" " : Str))) aNil)) 1) (sSeq (sIf (tdOr (dCmp fNotIn (dFz (dBin fIx (oPeek 1) (vC (.int 0)))) (dFz (dTup (aCons (vC (.str ("queue" : Str))) (aCons (vC (.str ("stack" : Str))) aNil))))) (dCmp fGt (dFz (dCB fLen (aCons (oPeek 1) aNil))) (vC (.int 2)))) (sRet (dC .non)) sNext) (sSeq (sIf (dCmp fEq (dFz (dCB fLen (aCons (oPeek 1) aNil))) (vC (.int 1))) (sRet (dTup (aCons (dFz (dBin fIx (oPeek 1) (vC (.int 0)))) (aCons (vC .non) aNil)))) sNext) (sSeq (sAsg (dCall (sp_number_in cs) (aCons (dFz (dBin fIx (oPeek 1) (vC (.int 1)))) aNil)) 2) (sSeq (sIf (tdOr (dCmp fIs (oPeek 2) (vC .non)) (dCmp fLt (oPeek 2) (vC (.int 1)))) (sRet (dC .non)) sNext) (sRet (dTup (aCons (dFz (dBin fIx (oPeek 1) (vC (.int 0)))) (aCons (vVar 2) aNil))))))))) E δ M := rfl
def td_read_rule_B3 (cs : Cs) : DP := (sSeq (sAsg (dCall (sp_read_level cs) (aCons (vVar 4) aNil)) 5) (sIf (tdAnd (dCmp fIs (oPeek 2) (vC .non)) (tdAnd (dCmp fIsNot (oPeek 5) (vC .non)) (dCmp fLt (dFz (dCB fLen (aCons (oPeek 1) aNil))) (vC (.int 6))))) (sAppOwn 1 (vVar 5)) (sIf (tdAnd (dCmp fIs (oPeek 2) (vC .non)) (tdAnd (dCmp fIs (oPeek 5) (vC .non)) (dCmp fNe (oPeek 1) (dFz (dLst aNil))))) (sSeq (sAsg (dCall (sp_read_boost cs) (aCons (vVar 4) aNil)) 2) (sIf (dCmp fIs (oPeek 2) (vC .non)) (sRaise cs.c_NoText ("row" : Str) PrI (vVar 3)) sNext)) (sRaise cs.c_NoText ("row" : Str) PrI (vVar 3)))))
theorem u_read_rule_B3 {cs : Cs} {E : DEnds} {δ : DS} {M : MH} : td_read_rule_B3 cs E δ M = (sSeq (sAsg (dCall (sp_read_level cs) (aCons (vVar 4) aNil)) 5) (sIf (tdAnd (dCmp fIs (oPeek 2) (vC .non)) (tdAnd (dCmp fIsNot (oPeek 5) (vC .non)) (dCmp fLt (dFz (dCB fLen (aCons (oPeek 1) aNil))) (vC (.int 6))))) (sAppOwn 1 (vVar 5)) (sIf (tdAnd (dCmp fIs (oPeek 2) (vC .non)) (tdAnd (dCmp fIs (oPeek 5) (vC .non)) (dCmp fNe (oPeek 1) (dFz (dLst aNil))))) (sSeq (sAsg (dCall (sp_read_boost cs) (aCons (vVar 4) aNil)) 2) (sIf (dCmp fIs (oPeek 2) (vC .non)) (sRaise cs.c_NoText ("row" : Str) PrI (vVar 3)) sNext)) (sRaise cs.c_NoText ("row" : Str) PrI (vVar 3))))) E δ M := rfl
def td_read_rule_L3 (cs : Cs) : DP := (sFor (iEnumD (aCons (dFz (dM "str" fSplit (oPeek 0) (aCons (vC (.str ("\n" : Str))) aNil))) aNil)) (gTupD 2 (gConsD (gN 3) (gConsD (gN 4) gNilD))) (td_read_rule_B3 cs))
theorem u_read_rule_L3 {cs : Cs} {E : DEnds} {δ : DS} {M : MH} : td_read_rule_L3 cs E δ M = (sFor (iEnumD (aCons (dFz (dM "str" fSplit (oPeek 0) (aCons (vC (.str ("\n" : Str))) aNil))) aNil)) (gTupD 2 (gConsD (gN 3) (gConsD (gN 4) gNilD))) (td_read_rule_B3 cs)) E δ M := rfl
def td_read_rule_R3 (cs : Cs) : DP := (sRet (dTup (aCons (dFz (dCB fTuple (aCons (oPeek 1) aNil))) (aCons (vVar 2) aNil))))
theorem u_read_rule_R3 {cs : Cs} {E : DEnds} {δ : DS} {M : MH} : td_read_rule_R3 cs E δ M = (sRet (dTup (aCons (dFz (dCB fTuple (aCons (oPeek 1) aNil))) (aCons (vVar 2) aNil)))) E δ M := rfl
def td_read_rule (cs : Cs) : DP := (sSeq (sAsg (dLst aNil) 1) (sSeq (sAsg (dC .non) 2) (sSeq (td_read_rule_L3 cs) (td_read_rule_R3 cs))))
theorem u_read_rule {cs : Cs} {E : DEnds} {δ : DS} {M : MH} : td_read_rule cs E δ M = (sSeq (sAsg (dLst aNil) 1) (sSeq (sAsg (dC .non) 2) (sSeq (td_read_rule_L3 cs) (td_read_rule_R3 cs)))) E δ M := rfl
def td_law_right_R4 (cs : Cs) : DP := (sSeq (sIf (dIsi .tuple (oPeek 1)) (sRet (dAnd (dOfT (dCmp fIs (oPeek 2) (vC .non))) (dAnd (dOfT (dCmp fEq (oPeek 3) (oPeek 1))) (dAnd (dOfT (dIsi .tuple (oPeek 3))) (dOfT (dIsi .tuple (dFz (dBin fIx (oPeek 3) (vC (.int 0)))))))))) sNext) (sRet (dAnd (dOfT (dCmp fIsNot (oPeek 2) (vC .non))) (dOfT (dCmp fEq (dFz (dCall (sp_law_kind cs) (aCons (vVar 2) aNil))) (dFz (dTup (aCons (vC (.str ("text" : Str))) (aCons (vVar 1) aNil)))))))))
theorem u_law_right_R4 {cs : Cs} {E : DEnds} {δ : DS} {M : MH} : td_law_right_R4 cs E δ M = (sSeq (sIf (dIsi .tuple (oPeek 1)) (sRet (dAnd (dOfT (dCmp fIs (oPeek 2) (vC .non))) (dAnd (dOfT (dCmp fEq (oPeek 3) (oPeek 1))) (dAnd (dOfT (dIsi .tuple (oPeek 3))) (dOfT (dIsi .tuple (dFz (dBin fIx (oPeek 3) (vC (.int 0)))))))))) sNext) (sRet (dAnd (dOfT (dCmp fIsNot (oPeek 2) (vC .non))) (dOfT (dCmp fEq (dFz (dCall (sp_law_kind cs) (aCons (vVar 2) aNil))) (dFz (dTup (aCons (vC (.str ("text" : Str))) (aCons (vVar 1) aNil))))))))) E δ M := rfl
def td_law_right (cs : Cs) : DP := (sSeq (sAsg (dCall (sp_law_due cs) (aCons (vVar 0) aNil)) 1) (sSeq (sAsg (dC .non) 2) (sSeq (sAsg (dC .non) 3) (sSeq (sTry (fun C => PySem.W.exmOne cs.K (.ref C) (.ref cs.c_SlotError) = some true) 4 (sAsg (dCall (sp_read_rule cs) (aCons (vVar 0) aNil)) 3) (sAsg (dVar 4) 2)) (td_law_right_R4 cs)))))
theorem u_law_right {cs : Cs} {E : DEnds} {δ : DS} {M : MH} : td_law_right cs E δ M = (sSeq (sAsg (dCall (sp_law_due cs) (aCons (vVar 0) aNil)) 1) (sSeq (sAsg (dC .non) 2) (sSeq (sAsg (dC .non) 3) (sSeq (sTry (fun C => PySem.W.exmOne cs.K (.ref C) (.ref cs.c_SlotError) = some true) 4 (sAsg (dCall (sp_read_rule cs) (aCons (vVar 0) aNil)) 3) (sAsg (dVar 4) 2)) (td_law_right_R4 cs))))) E δ M := rfl
def td_law_rule_lines_B2 (cs : Cs) : DP := (sAppOwn 1 (dFz (dBin fAdd (oPeek 2) (dFz (dBin fIx (dFz (dLst (aCons (dFz (dJs [(vC (.str (" " : Str))), (xFmt (oPeek 3))])) (aCons (vC (.str ("" : Str))) aNil)))) (dFz (dCB fIntU (aCons (dFz (dOfT (dCmp fIs (oPeek 3) (vC .non)))) aNil))))))))
theorem u_law_rule_lines_B2 {cs : Cs} {E : DEnds} {δ : DS} {M : MH} : td_law_rule_lines_B2 cs E δ M = (sAppOwn 1 (dFz (dBin fAdd (oPeek 2) (dFz (dBin fIx (dFz (dLst (aCons (dFz (dJs [(vC (.str (" " : Str))), (xFmt (oPeek 3))])) (aCons (vC (.str ("" : Str))) aNil)))) (dFz (dCB fIntU (aCons (dFz (dOfT (dCmp fIs (oPeek 3) (vC .non)))) aNil)))))))) E δ M := rfl
def td_law_rule_lines_L2 (cs : Cs) : DP := (sFor (iAny (dFz (dBin fIx (oPeek 0) (vC (.int 0))))) (gTupD 2 (gConsD (gN 2) (gConsD (gN 3) gNilD))) (td_law_rule_lines_B2 cs))
theorem u_law_rule_lines_L2 {cs : Cs} {E : DEnds} {δ : DS} {M : MH} : td_law_rule_lines_L2 cs E δ M = (sFor (iAny (dFz (dBin fIx (oPeek 0) (vC (.int 0))))) (gTupD 2 (gConsD (gN 2) (gConsD (gN 3) gNilD))) (td_law_rule_lines_B2 cs)) E δ M := rfl
def td_law_rule_lines_R4 (cs : Cs) : DP := (sRetV 1)
theorem u_law_rule_lines_R4 {cs : Cs} {E : DEnds} {δ : DS} {M : MH} : td_law_rule_lines_R4 cs E δ M = (sRetV 1) E δ M := rfl
def td_law_rule_lines_R2 (cs : Cs) : DP := (sSeq (sIf (dCmp fIsNot (dFz (dBin fIx (oPeek 0) (vC (.int 1)))) (vC .non)) (sAppOwn 1 (dFz (dJs [(vC (.str ("boost " : Str))), (xFmt (dFz (dBin fIx (oPeek 0) (vC (.int 1)))))]))) sNext) (td_law_rule_lines_R4 cs))
theorem u_law_rule_lines_R2 {cs : Cs} {E : DEnds} {δ : DS} {M : MH} : td_law_rule_lines_R2 cs E δ M = (sSeq (sIf (dCmp fIsNot (dFz (dBin fIx (oPeek 0) (vC (.int 1)))) (vC .non)) (sAppOwn 1 (dFz (dJs [(vC (.str ("boost " : Str))), (xFmt (dFz (dBin fIx (oPeek 0) (vC (.int 1)))))]))) sNext) (td_law_rule_lines_R4 cs)) E δ M := rfl
def td_law_rule_lines (cs : Cs) : DP := (sSeq (sAsg (dLst aNil) 1) (sSeq (td_law_rule_lines_L2 cs) (td_law_rule_lines_R2 cs)))
theorem u_law_rule_lines {cs : Cs} {E : DEnds} {δ : DS} {M : MH} : td_law_rule_lines cs E δ M = (sSeq (sAsg (dLst aNil) 1) (sSeq (td_law_rule_lines_L2 cs) (td_law_rule_lines_R2 cs))) E δ M := rfl
def td_law_spoilt_line_R16 (cs : Cs) : DP := (sRetV 6)
theorem u_law_spoilt_line_R16 {cs : Cs} {E : DEnds} {δ : DS} {M : MH} : td_law_spoilt_line_R16 cs E δ M = (sRetV 6) E δ M := rfl
def td_law_spoilt_line_R5 (cs : Cs) : DP := (sSeq (sAsg (dJn (vC (.str (" " : Str))) (oPeek 3)) 6) (sSeq (sAsg (dCall (sp_law_pick cs) (aCons (vVar 0) (aCons (dFz (dBin fAdd (dFz (dCB fLen (aCons (oPeek 6) aNil))) (vC (.int 1)))) aNil))) 7) (sSeq (sAsg (dBin fIx (dFz (dLst (aCons (vC (.str (" " : Str))) (aCons (vC (.str ("a" : Str))) (aCons (vC (.str ("0" : Str))) (aCons (vC (.str ("9" : Str))) (aCons (vC (.str ("Q" : Str))) (aCons (vC (.str ("_" : Str))) (aCons (vC (.str ("-" : Str))) (aCons (vC (.str ("\n" : Str))) (aCons (vC (.str (";" : Str))) aNil))))))))))) (dFz (dCall (sp_law_pick cs) (aCons (vVar 0) (aCons (vC (.int 9)) aNil))))) 8) (sSeq (sIf (dCmp fEq (oPeek 5) (vC (.int 4))) (sSeq (sAsg (dLst (aCons (dFz (dBin fAdd (dFz (dBin fAdd (dFz (dSl fSl (oPeek 6) pNone (pSome (dVar 7)))) (oPeek 8))) (dFz (dSl fSl (oPeek 6) (pSome (dVar 7)) pNone)))) (aCons (dFz (dBin fAdd (dFz (dSl fSl (oPeek 6) pNone (pSome (dVar 7)))) (dFz (dSl fSl (oPeek 6) (pSome (dBin fAdd (oPeek 7) (vC (.int 1)))) pNone)))) (aCons (dFz (dBin fAdd (dFz (dBin fAdd (dFz (dSl fSl (oPeek 6) pNone (pSome (dVar 7)))) (oPeek 8))) (dFz (dSl fSl (oPeek 6) (pSome (dBin fAdd (oPeek 7) (vC (.int 1)))) pNone)))) aNil)))) 9) (sAsg (dBin fIx (oPeek 9) (dFz (dCall (sp_law_pick cs) (aCons (vVar 0) (aCons (vC (.int 3)) aNil))))) 6)) sNext) (td_law_spoilt_line_R16 cs)))))
theorem u_law_spoilt_line_R5 {cs : Cs} {E : DEnds} {δ : DS} {M : MH} : td_law_spoilt_line_R5 cs E δ M = (sSeq (sAsg (dJn (vC (.str (" " : Str))) (oPeek 3)) 6) (sSeq (sAsg (dCall (sp_law_pick cs) (aCons (vVar 0) (aCons (dFz (dBin fAdd (dFz (dCB fLen (aCons (oPeek 6) aNil))) (vC (.int 1)))) aNil))) 7) (sSeq (sAsg (dBin fIx (dFz (dLst (aCons (vC (.str (" " : Str))) (aCons (vC (.str ("a" : Str))) (aCons (vC (.str ("0" : Str))) (aCons (vC (.str ("9" : Str))) (aCons (vC (.str ("Q" : Str))) (aCons (vC (.str ("_" : Str))) (aCons (vC (.str ("-" : Str))) (aCons (vC (.str ("\n" : Str))) (aCons (vC (.str (";" : Str))) aNil))))))))))) (dFz (dCall (sp_law_pick cs) (aCons (vVar 0) (aCons (vC (.int 9)) aNil))))) 8) (sSeq (sIf (dCmp fEq (oPeek 5) (vC (.int 4))) (sSeq (sAsg (dLst (aCons (dFz (dBin fAdd (dFz (dBin fAdd (dFz (dSl fSl (oPeek 6) pNone (pSome (dVar 7)))) (oPeek 8))) (dFz (dSl fSl (oPeek 6) (pSome (dVar 7)) pNone)))) (aCons (dFz (dBin fAdd (dFz (dSl fSl (oPeek 6) pNone (pSome (dVar 7)))) (dFz (dSl fSl (oPeek 6) (pSome (dBin fAdd (oPeek 7) (vC (.int 1)))) pNone)))) (aCons (dFz (dBin fAdd (dFz (dBin fAdd (dFz (dSl fSl (oPeek 6) pNone (pSome (dVar 7)))) (oPeek 8))) (dFz (dSl fSl (oPeek 6) (pSome (dBin fAdd (oPeek 7) (vC (.int 1)))) pNone)))) aNil)))) 9) (sAsg (dBin fIx (oPeek 9) (dFz (dCall (sp_law_pick cs) (aCons (vVar 0) (aCons (vC (.int 3)) aNil))))) 6)) sNext) (td_law_spoilt_line_R16 cs))))) E δ M := rfl
def td_law_spoilt_line (cs : Cs) : DP := (sSeq (sAsg (dLst (aCons (vC (.str ("queue" : Str))) (aCons (vC (.str ("stack" : Str))) (aCons (vC (.str ("boost" : Str))) (aCons (vC (.str ("0" : Str))) (aCons (vC (.str ("00" : Str))) (aCons (vC (.str ("01" : Str))) (aCons (vC (.str ("1" : Str))) (aCons (vC (.str ("-1" : Str))) (aCons (vC (.str ("+1" : Str))) (aCons (dFz (dBin fMulS (vC (.str ("1" : Str))) (vC (.int 31)))) (aCons (dFz (dBin fMulS (vC (.str ("1" : Str))) (vC (.int 32)))) (aCons (vC (.str ("" : Str))) (aCons (vC (.str ("Queue" : Str))) (aCons (vC (.str ("heap" : Str))) (aCons (vC (.str ("x" : Str))) aNil)))))))))))))))) 2) (sSeq (sAsg (dM "str" fSplit (oPeek 1) (aCons (vC (.str (" " : Str))) aNil)) 3) (sShare 3 (sSeq (sAsg (dCall (sp_law_pick cs) (aCons (vVar 0) (aCons (dFz (dCB fLen (aCons (oPeek 3) aNil))) aNil))) 4) (sSeq (sAsg (dCall (sp_law_pick cs) (aCons (vVar 0) (aCons (vC (.int 5)) aNil))) 5) (sSeq (sIf (dCmp fEq (oPeek 5) (vC (.int 0))) (sDrop (dM "list" fIns (oPeek 3) (aCons (vVar 4) (aCons (dFz (dBin fIx (oPeek 2) (dFz (dCall (sp_law_pick cs) (aCons (vVar 0) (aCons (vC (.int 15)) aNil)))))) aNil)))) (sIf (tdAnd (dCmp fEq (oPeek 5) (vC (.int 1))) (dCmp fGt (dFz (dCB fLen (aCons (oPeek 3) aNil))) (vC (.int 1)))) (sDrop (dM "list" fPopAt (oPeek 3) (aCons (vVar 4) aNil))) (sIf (dCmp fEq (oPeek 5) (vC (.int 2))) (sSetM (dFz (dBin fIx (oPeek 2) (dFz (dCall (sp_law_pick cs) (aCons (vVar 0) (aCons (vC (.int 15)) aNil)))))) (vVar 3) (vVar 4)) (sIf (dCmp fEq (oPeek 5) (vC (.int 3))) (sSeq (sAsg (dRev (oPeek 3)) 3) (sShare 3 sNext)) sNext)))) (td_law_spoilt_line_R5 cs)))))))
theorem u_law_spoilt_line {cs : Cs} {E : DEnds} {δ : DS} {M : MH} : td_law_spoilt_line cs E δ M = (sSeq (sAsg (dLst (aCons (vC (.str ("queue" : Str))) (aCons (vC (.str ("stack" : Str))) (aCons (vC (.str ("boost" : Str))) (aCons (vC (.str ("0" : Str))) (aCons (vC (.str ("00" : Str))) (aCons (vC (.str ("01" : Str))) (aCons (vC (.str ("1" : Str))) (aCons (vC (.str ("-1" : Str))) (aCons (vC (.str ("+1" : Str))) (aCons (dFz (dBin fMulS (vC (.str ("1" : Str))) (vC (.int 31)))) (aCons (dFz (dBin fMulS (vC (.str ("1" : Str))) (vC (.int 32)))) (aCons (vC (.str ("" : Str))) (aCons (vC (.str ("Queue" : Str))) (aCons (vC (.str ("heap" : Str))) (aCons (vC (.str ("x" : Str))) aNil)))))))))))))))) 2) (sSeq (sAsg (dM "str" fSplit (oPeek 1) (aCons (vC (.str (" " : Str))) aNil)) 3) (sShare 3 (sSeq (sAsg (dCall (sp_law_pick cs) (aCons (vVar 0) (aCons (dFz (dCB fLen (aCons (oPeek 3) aNil))) aNil))) 4) (sSeq (sAsg (dCall (sp_law_pick cs) (aCons (vVar 0) (aCons (vC (.int 5)) aNil))) 5) (sSeq (sIf (dCmp fEq (oPeek 5) (vC (.int 0))) (sDrop (dM "list" fIns (oPeek 3) (aCons (vVar 4) (aCons (dFz (dBin fIx (oPeek 2) (dFz (dCall (sp_law_pick cs) (aCons (vVar 0) (aCons (vC (.int 15)) aNil)))))) aNil)))) (sIf (tdAnd (dCmp fEq (oPeek 5) (vC (.int 1))) (dCmp fGt (dFz (dCB fLen (aCons (oPeek 3) aNil))) (vC (.int 1)))) (sDrop (dM "list" fPopAt (oPeek 3) (aCons (vVar 4) aNil))) (sIf (dCmp fEq (oPeek 5) (vC (.int 2))) (sSetM (dFz (dBin fIx (oPeek 2) (dFz (dCall (sp_law_pick cs) (aCons (vVar 0) (aCons (vC (.int 15)) aNil)))))) (vVar 3) (vVar 4)) (sIf (dCmp fEq (oPeek 5) (vC (.int 3))) (sSeq (sAsg (dRev (oPeek 3)) 3) (sShare 3 sNext)) sNext)))) (td_law_spoilt_line_R5 cs))))))) E δ M := rfl
def td_law_spoilt_B2 (cs : Cs) : DP := (sSeq (sAsg (dCall (sp_law_pick cs) (aCons (vVar 0) (aCons (dFz (dCB fLen (aCons (oPeek 1) aNil))) aNil))) 3) (sSeq (sAsg (dCall (sp_law_pick cs) (aCons (vVar 0) (aCons (dFz (dCB fLen (aCons (oPeek 1) aNil))) aNil))) 4) (sSeq (sAsg (dCall (sp_law_pick cs) (aCons (vVar 0) (aCons (vC (.int 8)) aNil))) 5) (sIf (tdAnd (dCmp fEq (oPeek 5) (vC (.int 0))) (dCmp fGt (dFz (dCB fLen (aCons (oPeek 1) aNil))) (vC (.int 1)))) (sDrop (dM "list" fPopAt (oPeek 1) (aCons (vVar 3) aNil))) (sIf (dCmp fEq (oPeek 5) (vC (.int 1))) (sDrop (dM "list" fIns (oPeek 1) (aCons (vVar 4) (aCons (dFz (dBin fIx (oPeek 1) (oPeek 3))) aNil)))) (sIf (dCmp fEq (oPeek 5) (vC (.int 2))) (sDrop (dM "list" fIns (oPeek 1) (aCons (vVar 3) (aCons (dFz (dBin fIx (dFz (dLst (aCons (vC (.str ("boost 3" : Str))) (aCons (vC (.str ("queue" : Str))) (aCons (vC (.str ("stack 2" : Str))) (aCons (vC (.str ("" : Str))) (aCons (vC (.str ("boost" : Str))) aNil))))))) (dFz (dCall (sp_law_pick cs) (aCons (vVar 0) (aCons (vC (.int 5)) aNil)))))) aNil)))) (sIf (dCmp fEq (oPeek 5) (vC (.int 3))) (sAsgT (dFz (dTup (aCons (dFz (dBin fIx (oPeek 1) (oPeek 4))) (aCons (dFz (dBin fIx (oPeek 1) (oPeek 3))) aNil)))) (gTupD 2 (gConsD (gSubM (oPeek 1) (oPeek 3)) (gConsD (gSubM (oPeek 1) (oPeek 4)) gNilD)))) (sIf (dCmp fEq (oPeek 5) (vC (.int 4))) (sDrop (dM "list" fApp (oPeek 1) (aCons (dFz (dBin fIx (dFz (dLst (aCons (vC (.str ("boost 3" : Str))) (aCons (vC (.str ("queue" : Str))) (aCons (vC (.str ("stack 2" : Str))) (aCons (vC (.str ("" : Str))) (aCons (vC (.str ("boost 0" : Str))) aNil))))))) (dFz (dCall (sp_law_pick cs) (aCons (vVar 0) (aCons (vC (.int 5)) aNil)))))) aNil))) (sSetM (dFz (dCall (sp_law_spoilt_line cs) (aCons (vVar 0) (aCons (dFz (dBin fIx (oPeek 1) (oPeek 3))) aNil)))) (vVar 1) (vVar 3))))))))))
theorem u_law_spoilt_B2 {cs : Cs} {E : DEnds} {δ : DS} {M : MH} : td_law_spoilt_B2 cs E δ M = (sSeq (sAsg (dCall (sp_law_pick cs) (aCons (vVar 0) (aCons (dFz (dCB fLen (aCons (oPeek 1) aNil))) aNil))) 3) (sSeq (sAsg (dCall (sp_law_pick cs) (aCons (vVar 0) (aCons (dFz (dCB fLen (aCons (oPeek 1) aNil))) aNil))) 4) (sSeq (sAsg (dCall (sp_law_pick cs) (aCons (vVar 0) (aCons (vC (.int 8)) aNil))) 5) (sIf (tdAnd (dCmp fEq (oPeek 5) (vC (.int 0))) (dCmp fGt (dFz (dCB fLen (aCons (oPeek 1) aNil))) (vC (.int 1)))) (sDrop (dM "list" fPopAt (oPeek 1) (aCons (vVar 3) aNil))) (sIf (dCmp fEq (oPeek 5) (vC (.int 1))) (sDrop (dM "list" fIns (oPeek 1) (aCons (vVar 4) (aCons (dFz (dBin fIx (oPeek 1) (oPeek 3))) aNil)))) (sIf (dCmp fEq (oPeek 5) (vC (.int 2))) (sDrop (dM "list" fIns (oPeek 1) (aCons (vVar 3) (aCons (dFz (dBin fIx (dFz (dLst (aCons (vC (.str ("boost 3" : Str))) (aCons (vC (.str ("queue" : Str))) (aCons (vC (.str ("stack 2" : Str))) (aCons (vC (.str ("" : Str))) (aCons (vC (.str ("boost" : Str))) aNil))))))) (dFz (dCall (sp_law_pick cs) (aCons (vVar 0) (aCons (vC (.int 5)) aNil)))))) aNil)))) (sIf (dCmp fEq (oPeek 5) (vC (.int 3))) (sAsgT (dFz (dTup (aCons (dFz (dBin fIx (oPeek 1) (oPeek 4))) (aCons (dFz (dBin fIx (oPeek 1) (oPeek 3))) aNil)))) (gTupD 2 (gConsD (gSubM (oPeek 1) (oPeek 3)) (gConsD (gSubM (oPeek 1) (oPeek 4)) gNilD)))) (sIf (dCmp fEq (oPeek 5) (vC (.int 4))) (sDrop (dM "list" fApp (oPeek 1) (aCons (dFz (dBin fIx (dFz (dLst (aCons (vC (.str ("boost 3" : Str))) (aCons (vC (.str ("queue" : Str))) (aCons (vC (.str ("stack 2" : Str))) (aCons (vC (.str ("" : Str))) (aCons (vC (.str ("boost 0" : Str))) aNil))))))) (dFz (dCall (sp_law_pick cs) (aCons (vVar 0) (aCons (vC (.int 5)) aNil)))))) aNil))) (sSetM (dFz (dCall (sp_law_spoilt_line cs) (aCons (vVar 0) (aCons (dFz (dBin fIx (oPeek 1) (oPeek 3))) aNil)))) (vVar 1) (vVar 3)))))))))) E δ M := rfl
def td_law_spoilt_L2 (cs : Cs) : DP := (sFor (iRange1 (aCons (dFz (dBin fAdd (vC (.int 1)) (dFz (dCall (sp_law_pick cs) (aCons (vVar 0) (aCons (vC (.int 3)) aNil)))))) aNil)) (gN 2) (td_law_spoilt_B2 cs))
theorem u_law_spoilt_L2 {cs : Cs} {E : DEnds} {δ : DS} {M : MH} : td_law_spoilt_L2 cs E δ M = (sFor (iRange1 (aCons (dFz (dBin fAdd (vC (.int 1)) (dFz (dCall (sp_law_pick cs) (aCons (vVar 0) (aCons (vC (.int 3)) aNil)))))) aNil)) (gN 2) (td_law_spoilt_B2 cs)) E δ M := rfl
def td_law_spoilt_R2 (cs : Cs) : DP := (sSeq (sAsg (dJn (vC (.str ("\n" : Str))) (oPeek 1)) 6) (sRet (dBin fIx (dFz (dLst (aCons (vVar 6) (aCons (vVar 6) (aCons (vVar 6) (aCons (dFz (dBin fAdd (oPeek 6) (vC (.str ("\n" : Str))))) (aCons (dFz (dBin fAdd (vC (.str ("\n" : Str))) (oPeek 6))) (aCons (dFz (dBin fAdd (vC (.str (" " : Str))) (oPeek 6))) (aCons (dFz (dBin fAdd (oPeek 6) (vC (.str (" " : Str))))) aNil))))))))) (dFz (dCall (sp_law_pick cs) (aCons (vVar 0) (aCons (vC (.int 7)) aNil)))))))
theorem u_law_spoilt_R2 {cs : Cs} {E : DEnds} {δ : DS} {M : MH} : td_law_spoilt_R2 cs E δ M = (sSeq (sAsg (dJn (vC (.str ("\n" : Str))) (oPeek 1)) 6) (sRet (dBin fIx (dFz (dLst (aCons (vVar 6) (aCons (vVar 6) (aCons (vVar 6) (aCons (dFz (dBin fAdd (oPeek 6) (vC (.str ("\n" : Str))))) (aCons (dFz (dBin fAdd (vC (.str ("\n" : Str))) (oPeek 6))) (aCons (dFz (dBin fAdd (vC (.str (" " : Str))) (oPeek 6))) (aCons (dFz (dBin fAdd (oPeek 6) (vC (.str (" " : Str))))) aNil))))))))) (dFz (dCall (sp_law_pick cs) (aCons (vVar 0) (aCons (vC (.int 7)) aNil))))))) E δ M := rfl
def td_law_spoilt (cs : Cs) : DP := (sSeq (sAsg (dCB fList (aCons (oPeek 1) aNil)) 1) (sShare 1 (sSeq (td_law_spoilt_L2 cs) (td_law_spoilt_R2 cs))))
theorem u_law_spoilt {cs : Cs} {E : DEnds} {δ : DS} {M : MH} : td_law_spoilt cs E δ M = (sSeq (sAsg (dCB fList (aCons (oPeek 1) aNil)) 1) (sShare 1 (sSeq (td_law_spoilt_L2 cs) (td_law_spoilt_R2 cs)))) E δ M := rfl
def td_law_store (cs : Cs) : DP := (sSeq (sAsg (dCB fLen (aCons (oPeek 0) aNil)) 1) (sSeq (sFor (iAny (dFz (dSl fSl (oPeek 0) pNone (pSome (dC (.int 63)))))) (gN 2) (sAsg (dBin fMod (dFz (dBin fAdd (dFz (dBin fAdd (dFz (dBin fMul (oPeek 1) (vC (.int 16807)))) (dFz (dBin fMod (oPeek 2) (vC (.int 1000000007)))))) (vC (.int 11)))) (vC (.int 2147483629))) 1)) (sRet (dLst (aCons (dFz (dSl fSl (oPeek 0) pNone (pSome (dC (.int 63))))) (aCons (vC (.int 0)) (aCons (vC (.int 0)) (aCons (vVar 1) (aCons (vC (.int 0)) aNil)))))))))
theorem u_law_store {cs : Cs} {E : DEnds} {δ : DS} {M : MH} : td_law_store cs E δ M = (sSeq (sAsg (dCB fLen (aCons (oPeek 0) aNil)) 1) (sSeq (sFor (iAny (dFz (dSl fSl (oPeek 0) pNone (pSome (dC (.int 63)))))) (gN 2) (sAsg (dBin fMod (dFz (dBin fAdd (dFz (dBin fAdd (dFz (dBin fMul (oPeek 1) (vC (.int 16807)))) (dFz (dBin fMod (oPeek 2) (vC (.int 1000000007)))))) (vC (.int 11)))) (vC (.int 2147483629))) 1)) (sRet (dLst (aCons (dFz (dSl fSl (oPeek 0) pNone (pSome (dC (.int 63))))) (aCons (vC (.int 0)) (aCons (vC (.int 0)) (aCons (vVar 1) (aCons (vC (.int 0)) aNil))))))))) E δ M := rfl
def td_law_B8 (cs : Cs) : DP := (sFrz 4 (sFrz 1 (sIf (tdNot (dB (dCall (sp_law_right cs) (aCons (dFz (dCall (sp_law_spoilt cs) (aCons (vVar 1) (aCons (vVar 4) aNil)))) aNil)))) (sRet (dC (.bl false))) sNext)))
theorem u_law_B8 {cs : Cs} {E : DEnds} {δ : DS} {M : MH} : td_law_B8 cs E δ M = (sFrz 4 (sFrz 1 (sIf (tdNot (dB (dCall (sp_law_right cs) (aCons (dFz (dCall (sp_law_spoilt cs) (aCons (vVar 1) (aCons (vVar 4) aNil)))) aNil)))) (sRet (dC (.bl false))) sNext))) E δ M := rfl
def td_law_L8 (cs : Cs) : DP := (sFor (iRange1 (aCons (vC (.int 3)) aNil)) (gN 6) (td_law_B8 cs))
theorem u_law_L8 {cs : Cs} {E : DEnds} {δ : DS} {M : MH} : td_law_L8 cs E δ M = (sFor (iRange1 (aCons (vC (.int 3)) aNil)) (gN 6) (td_law_B8 cs)) E δ M := rfl
def td_law_R8 (cs : Cs) : DP := (sIf (tdOr (tdNot (dB (dCall (sp_law_list_right cs) (aCons (dFz (dCB fList (aCons (oPeek 3) aNil))) aNil)))) (tdNot (dB (dCall (sp_law_list_right cs) (aCons (dFz (dTup (aCons (dFz (dCB fList (aCons (dFz (dBin fIx (oPeek 3) (vC (.int 0)))) aNil))) (aCons (dFz (dBin fIx (oPeek 3) (vC (.int 1)))) aNil)))) aNil))))) (sRet (dC (.bl false))) sNext)
theorem u_law_R8 {cs : Cs} {E : DEnds} {δ : DS} {M : MH} : td_law_R8 cs E δ M = (sIf (tdOr (tdNot (dB (dCall (sp_law_list_right cs) (aCons (dFz (dCB fList (aCons (oPeek 3) aNil))) aNil)))) (tdNot (dB (dCall (sp_law_list_right cs) (aCons (dFz (dTup (aCons (dFz (dCB fList (aCons (dFz (dBin fIx (oPeek 3) (vC (.int 0)))) aNil))) (aCons (dFz (dBin fIx (oPeek 3) (vC (.int 1)))) aNil)))) aNil))))) (sRet (dC (.bl false))) sNext) E δ M := rfl
def td_law_B2 (cs : Cs) : DP := (sFrz 1 (sSeq (sAsg (dCall (sp_law_good cs) (aCons (vVar 1) aNil)) 3) (sSeq (sAsg (dCall (sp_law_rule_lines cs) (aCons (vVar 3) aNil)) 4) (sSeq (sAsg (dJn (vC (.str ("\n" : Str))) (oPeek 4)) 5) (sSeq (sIf (tdOr (dCmp fNe (dFz (dCall (sp_show_rule cs) (aCons (vVar 3) aNil))) (oPeek 5)) (tdOr (tdNot (dB (dCall (sp_law_right cs) (aCons (vVar 5) aNil)))) (dCmp fNe (dFz (dCall (sp_read_rule cs) (aCons (vVar 5) aNil))) (oPeek 3)))) (sRet (dC (.bl false))) sNext) (sSeq (td_law_L8 cs) (td_law_R8 cs)))))))
theorem u_law_B2 {cs : Cs} {E : DEnds} {δ : DS} {M : MH} : td_law_B2 cs E δ M = (sFrz 1 (sSeq (sAsg (dCall (sp_law_good cs) (aCons (vVar 1) aNil)) 3) (sSeq (sAsg (dCall (sp_law_rule_lines cs) (aCons (vVar 3) aNil)) 4) (sSeq (sAsg (dJn (vC (.str ("\n" : Str))) (oPeek 4)) 5) (sSeq (sIf (tdOr (dCmp fNe (dFz (dCall (sp_show_rule cs) (aCons (vVar 3) aNil))) (oPeek 5)) (tdOr (tdNot (dB (dCall (sp_law_right cs) (aCons (vVar 5) aNil)))) (dCmp fNe (dFz (dCall (sp_read_rule cs) (aCons (vVar 5) aNil))) (oPeek 3)))) (sRet (dC (.bl false))) sNext) (sSeq (td_law_L8 cs) (td_law_R8 cs))))))) E δ M := rfl
def td_law_L2 (cs : Cs) : DP := (sFor (iRange1 (aCons (vC (.int 4)) aNil)) (gN 2) (td_law_B2 cs))
theorem u_law_L2 {cs : Cs} {E : DEnds} {δ : DS} {M : MH} : td_law_L2 cs E δ M = (sFor (iRange1 (aCons (vC (.int 4)) aNil)) (gN 2) (td_law_B2 cs)) E δ M := rfl
def td_law_R2 (cs : Cs) : DP := (sSeq (sAsg (dLst (aCons (vC (.str ("" : Str))) (aCons (vC (.str ("\n" : Str))) (aCons (vC (.str ("boost 3" : Str))) (aCons (vC (.str ("boost 3\nqueue" : Str))) (aCons (vC (.str ("queue\n" : Str))) (aCons (vC (.str ("queue\nboost 3\nboost 3" : Str))) (aCons (vC (.str ("stack 0" : Str))) (aCons (vC (.str ("queue\nboost" : Str))) aNil))))))))) 7) (sSeq (sAsg (dBin fAdd (oPeek 7) (dFz (dLst (aCons (dFz (dJn (vC (.str ("\n" : Str))) (dFz (dBin fMul (dFz (dLst (aCons (vC (.str ("queue" : Str))) aNil))) (vC (.int 7)))))) (aCons (dFz (dJn (vC (.str ("\n" : Str))) (dFz (dBin fAdd (dFz (dBin fMul (dFz (dLst (aCons (vC (.str ("queue" : Str))) aNil))) (vC (.int 6)))) (dFz (dLst (aCons (vC (.str ("boost 1" : Str))) aNil))))))) (aCons (dFz (dJn (vC (.str ("\n" : Str))) (dFz (dBin fMul (dFz (dLst (aCons (vC (.str ("stack" : Str))) aNil))) (vC (.int 6)))))) aNil)))))) 7) (sRet (dOfT (dCmp fEq (dFz (dLc (iPk 7) (gN 5) (tdNot (dB (dCall (sp_law_right cs) (aCons (vVar 5) aNil)))) (vVar 5) [5])) (dFz (dLst aNil)))))))
theorem u_law_R2 {cs : Cs} {E : DEnds} {δ : DS} {M : MH} : td_law_R2 cs E δ M = (sSeq (sAsg (dLst (aCons (vC (.str ("" : Str))) (aCons (vC (.str ("\n" : Str))) (aCons (vC (.str ("boost 3" : Str))) (aCons (vC (.str ("boost 3\nqueue" : Str))) (aCons (vC (.str ("queue\n" : Str))) (aCons (vC (.str ("queue\nboost 3\nboost 3" : Str))) (aCons (vC (.str ("stack 0" : Str))) (aCons (vC (.str ("queue\nboost" : Str))) aNil))))))))) 7) (sSeq (sAsg (dBin fAdd (oPeek 7) (dFz (dLst (aCons (dFz (dJn (vC (.str ("\n" : Str))) (dFz (dBin fMul (dFz (dLst (aCons (vC (.str ("queue" : Str))) aNil))) (vC (.int 7)))))) (aCons (dFz (dJn (vC (.str ("\n" : Str))) (dFz (dBin fAdd (dFz (dBin fMul (dFz (dLst (aCons (vC (.str ("queue" : Str))) aNil))) (vC (.int 6)))) (dFz (dLst (aCons (vC (.str ("boost 1" : Str))) aNil))))))) (aCons (dFz (dJn (vC (.str ("\n" : Str))) (dFz (dBin fMul (dFz (dLst (aCons (vC (.str ("stack" : Str))) aNil))) (vC (.int 6)))))) aNil)))))) 7) (sRet (dOfT (dCmp fEq (dFz (dLc (iPk 7) (gN 5) (tdNot (dB (dCall (sp_law_right cs) (aCons (vVar 5) aNil)))) (vVar 5) [5])) (dFz (dLst aNil))))))) E δ M := rfl
def td_law (cs : Cs) : DP := (sSeq (sAsg (dCall (sp_law_store cs) (aCons (vVar 0) aNil)) 1) (sShare 1 (sSeq (td_law_L2 cs) (td_law_R2 cs))))
theorem u_law {cs : Cs} {E : DEnds} {δ : DS} {M : MH} : td_law cs E δ M = (sSeq (sAsg (dCall (sp_law_store cs) (aCons (vVar 0) aNil)) 1) (sShare 1 (sSeq (td_law_L2 cs) (td_law_R2 cs)))) E δ M := rfl
section
variable {P : Program} {w : World} {mg : Str → Option Value} {base : Heap} {cs : Cs}
theorem ok_law_mix (T : Tx P w mg base cs) (D : Df cs.K mg "_law_mix" "_law_mix" s_law_mix ["number", "turn"]) (rd : ∀ ds M Q E, sp_law_mix cs ds M Q E → td_law_mix cs (endsD Q E) (startD ["number", "turn", "value"] ds) M) : Cal P w cs.K mg base 1 "_law_mix" ["number", "turn"] (sp_law_mix cs) :=
  D.cal sc_law_mix (td_law_mix cs) len_law_mix (fun f cdv A outer s H E G hG hr => have hu := DL.hu_of hr; (ss_cons (s_asg (i := 2) sc_law_mix.nd rfl (Or.inl rfl) (d_mod (o_v (v_fz (d_add hG.symm (o_v (v_fz (d_add hG.symm (o_v (v_fz (d_add hG.symm (o_v (v_fz (d_mod (o_peek (pv 0)) (o_v v_int)))) (o_v (v_fz (d_mul hG.symm (o_v (v_fz (d_mul hG.symm (o_v v_int) (o_peek (pv 1))))) (o_peek (pv 1)))))))) (o_v (v_fz (d_mul hG.symm (o_v v_int) (o_peek (pv 1)))))))) (o_v v_int)))) (o_v v_int)))
(ss_cons (s_asg (i := 2) sc_law_mix.nd rfl (Or.inl rfl) (d_mod (o_v (v_fz (d_mul hG.symm (o_v (v_fz (d_mod (o_v (v_fz (d_mul hG.symm (o_peek (pv 2)) (o_peek (pv 2))))) (o_v v_int)))) (o_peek (pv 2))))) (o_v v_int)))
(ss_one (s_ret (d_div (o_v (v_fz (d_mod (o_v (v_fz (d_add hG.symm (o_v (v_fz (d_mul hG.symm (o_peek (pv 2)) (o_v v_int)))) (o_peek (pv 1))))) (o_v v_int)))) (o_v v_int))))))) rd
theorem ok_law_pick (T : Tx P w mg base cs) (Y_law_mix : Cal P w cs.K mg base 1 "_law_mix" ["number", "turn"] (sp_law_mix cs)) (D : Df cs.K mg "_law_pick" "_law_pick" s_law_pick ["store", "count"]) (rd : ∀ ds M Q E, sp_law_pick cs ds M Q E → td_law_pick cs (endsD Q E) (startD ["store", "count", "cell", "digit"] ds) M) : Cal P w cs.K mg base 2 "_law_pick" ["store", "count"] (sp_law_pick cs) :=
  D.cal sc_law_pick (td_law_pick cs) len_law_pick (fun f cdv A outer s H E G hG hr => have hu := DL.hu_of hr; (ss_cons (s_setM (v_fz (d_add hG.symm (o_v (v_fz (d_ix hG.symm (o_peek (pv 0)) (o_v v_int)))) (o_v v_int))) (v_var (pv 0)) v_int)
(ss_cons (s_if (w_and (t_eq hG.symm hu (o_v (v_fz (d_ix hG.symm (o_peek (pv 0)) (o_v v_int)))) (o_v v_int)) (w_and1 (t_lt (o_v (v_fz (d_ix hG.symm (o_peek (pv 0)) (o_v v_int)))) (o_v (v_fz (d_len hG.symm (by rfl) T.n_len (ao_cons (o_v (v_fz (d_ix hG.symm (o_peek (pv 0)) (o_v v_int)))) ao_nil))))))).pt
(ss_cons (s_asg (i := 2) sc_law_pick.nd rfl (Or.inl rfl) (d_ix hG.symm (o_v (v_fz (d_ix hG.symm (o_peek (pv 0)) (o_v v_int)))) (o_v (v_fz (d_ix hG.symm (o_peek (pv 0)) (o_v v_int))))))
(ss_cons (s_setM (v_fz (d_add hG.symm (o_v (v_fz (d_ix hG.symm (o_peek (pv 0)) (o_v v_int)))) (o_v v_int))) (v_var (pv 0)) v_int)
(ss_cons (s_if (t_lt (o_peek (pv 2)) (o_v (v_fz (d_pow (o_v v_int) (o_v v_int)))))
(ss_one (s_ret (d_mod (o_v (v_fz (d_cal Y_law_mix hG.symm (hr.mono (by decide)) (by rfl) (takes_of rfl rfl rfl rfl) (a_cons (v_var (pv 2)) (a_cons (v_fz (d_ix hG.symm (o_peek (pv 0)) (o_v v_int))) a_nil))))) (o_peek (pv 1)))))
ss_nil)
(ss_one (s_setM (v_var (pv 2)) (v_var (pv 0)) v_int)))))
ss_nil)
(ss_cons (s_if (t_gt (o_v (v_fz (d_ix hG.symm (o_peek (pv 0)) (o_v v_int)))) (o_v v_int))
(ss_cons (s_asg (i := 3) sc_law_pick.nd rfl (Or.inl rfl) (d_mod (o_v (v_fz (d_ix hG.symm (o_peek (pv 0)) (o_v v_int)))) (o_peek (pv 1))))
(ss_cons (s_setM (v_fz (d_div (o_v (v_fz (d_ix hG.symm (o_peek (pv 0)) (o_v v_int)))) (o_peek (pv 1)))) (v_var (pv 0)) v_int)
(ss_one (s_retV (pv 3)))))
ss_nil)
(ss_one (s_ret (d_mod (o_v (v_fz (d_cal Y_law_mix hG.symm (hr.mono (by decide)) (by rfl) (takes_of rfl rfl rfl rfl) (a_cons (v_fz (d_ix hG.symm (o_peek (pv 0)) (o_v v_int))) (a_cons (v_fz (d_ix hG.symm (o_peek (pv 0)) (o_v v_int))) a_nil))))) (o_peek (pv 1))))))))) rd
theorem ok_law_good (T : Tx P w mg base cs) (Y_law_pick : Cal P w cs.K mg base 2 "_law_pick" ["store", "count"] (sp_law_pick cs)) (D : Df cs.K mg "_law_good" "_law_good" s_law_good ["store"]) (rd : ∀ ds M Q E, sp_law_good cs ds M Q E → td_law_good cs (endsD Q E) (startD ["store", "numbers", "levels", "k"] ds) M) : Cal P w cs.K mg base 3 "_law_good" ["store"] (sp_law_good cs) :=
  D.cal sc_law_good (td_law_good cs) len_law_good (fun f cdv A outer s H E G hG hr => have hu := DL.hu_of hr; (ss_cons (s_asg (i := 1) sc_law_good.nd rfl (Or.inl rfl) (d_lst (a_cons v_non (a_cons v_int (a_cons (v_fz (d_add hG.symm (o_v v_int) (o_v (v_fz (d_cal Y_law_pick hG.symm (hr.mono (by decide)) (by rfl) (takes_of rfl rfl rfl rfl) (a_cons (v_var (pv 0)) (a_cons v_int a_nil))))))) (a_cons (v_fz (d_pow (o_v v_int) (o_v v_int))) a_nil))))))
(ss_cons (s_asg (i := 2) sc_law_good.nd rfl (Or.inl rfl) (d_lst a_nil))
(ss_cons (s_for (passes_of rfl) rfl (i_range1 (by rfl) T.n_range (a_cons (v_fz (d_add hG.symm (o_v v_int) (o_v (v_fz (d_cal Y_law_pick hG.symm (hr.mono (by decide)) (by rfl) (takes_of rfl rfl rfl rfl) (a_cons (v_var (pv 0)) (a_cons v_int a_nil))))))) a_nil)) (g_name sc_law_good.nd rfl (Or.inl rfl))
(ss_one (s_app hG.symm (pv 2) (v_fz (d_tup (a_cons (v_fz (d_ix hG.symm (o_v (v_fz (d_lst (a_cons v_str (a_cons v_str a_nil))))) (o_v (v_fz (d_cal Y_law_pick hG.symm (hr.mono (by decide)) (by rfl) (takes_of rfl rfl rfl rfl) (a_cons (v_var (pv 0)) (a_cons v_int a_nil))))))) (a_cons (v_fz (d_ix hG.symm (o_peek (pv 1)) (o_v (v_fz (d_cal Y_law_pick hG.symm (hr.mono (by decide)) (by rfl) (takes_of rfl rfl rfl rfl) (a_cons (v_var (pv 0)) (a_cons v_int a_nil))))))) a_nil)))))))
(ss_one (s_ret (d_tup (a_cons (v_fz (d_tupleOf hG.symm (by rfl) T.n_tuple (ao_cons (o_peek (pv 2)) ao_nil))) (a_cons (v_fz (d_ix hG.symm (o_peek (pv 1)) (o_v (v_fz (d_cal Y_law_pick hG.symm (hr.mono (by decide)) (by rfl) (takes_of rfl rfl rfl rfl) (a_cons (v_var (pv 0)) (a_cons v_int a_nil))))))) a_nil))))))))) rd
theorem ok_law_kind (T : Tx P w mg base cs) (D : Df cs.K mg "_law_kind" "_law_kind" s_law_kind ["caught"]) (rd : ∀ ds M Q E, sp_law_kind cs ds M Q E → td_law_kind cs (endsD Q E) (startD ["caught", "kinds", "at"] ds) M) : Cal P w cs.K mg base 1 "_law_kind" ["caught"] (sp_law_kind cs) :=
  D.cal sc_law_kind (td_law_kind cs) len_law_kind (fun f cdv A outer s H E G hG hr => have hu := DL.hu_of hr; (ss_cons (s_asg (i := 1) sc_law_kind.nd rfl (Or.inl rfl) (d_lst (a_cons (v_fz (is_own hG.symm (by rfl) T.n_isinstance (by rfl) T.c_NoJobs (o_peek (pv 0)))) (a_cons (v_fz (is_own hG.symm (by rfl) T.n_isinstance (by rfl) T.c_NoRule (o_peek (pv 0)))) (a_cons (v_fz (is_own hG.symm (by rfl) T.n_isinstance (by rfl) T.c_NoLengths (o_peek (pv 0)))) a_nil)))))
(ss_cons (s_asg (i := 1) sc_law_kind.nd rfl (Or.inl rfl) (d_add hG.symm (o_peek (pv 1)) (o_v (v_fz (d_lst (a_cons (v_fz (is_own hG.symm (by rfl) T.n_isinstance (by rfl) T.c_NoLog (o_peek (pv 0)))) (a_cons (v_fz (is_own hG.symm (by rfl) T.n_isinstance (by rfl) T.c_NoMarks (o_peek (pv 0)))) (a_cons (v_fz (is_own hG.symm (by rfl) T.n_isinstance (by rfl) T.c_NoNamed (o_peek (pv 0)))) a_nil))))))))
(ss_cons (s_asg (i := 1) sc_law_kind.nd rfl (Or.inl rfl) (d_add hG.symm (o_peek (pv 1)) (o_v (v_fz (d_lst (a_cons (v_fz (is_own hG.symm (by rfl) T.n_isinstance (by rfl) T.c_NoOrder (o_peek (pv 0)))) (a_cons (v_fz (is_own hG.symm (by rfl) T.n_isinstance (by rfl) T.c_NoText (o_peek (pv 0)))) (a_cons (v_fz (is_own hG.symm (by rfl) T.n_isinstance (by rfl) T.c_NoNumber (o_peek (pv 0)))) a_nil))))))))
(ss_cons (s_asg (i := 1) sc_law_kind.nd rfl (Or.inl rfl) (d_add hG.symm (o_peek (pv 1)) (o_v (v_fz (d_lst (a_cons (v_fz (is_own hG.symm (by rfl) T.n_isinstance (by rfl) T.c_NoName (o_peek (pv 0)))) (a_cons (v_fz (is_own hG.symm (by rfl) T.n_isinstance (by rfl) T.c_NoUndo (o_peek (pv 0)))) (a_cons (v_fz (is_own hG.symm (by rfl) T.n_isinstance (by rfl) T.c_NoLine (o_peek (pv 0)))) a_nil))))))))
(ss_cons (s_if (w_or (t_not (t_ofT (is_own hG.symm (by rfl) T.n_isinstance (by rfl) T.c_SlotError (o_peek (pv 0))))) (w_or (t_not (t_ofT (is_ve hG.symm (by rfl) T.n_isinstance (by rfl) T.n_ValueError (o_peek (pv 0))))) (w_or1 (t_ne hG.symm hu (o_v (v_fz (d_count hG.symm hu (o_peek (pv 1)) (ao_cons (o_v v_bl) ao_nil)))) (o_v v_int))))).pt
(ss_one (s_ret (d_tup (a_cons v_str (a_cons v_int a_nil)))))
ss_nil)
(ss_cons (s_asg (i := 2) sc_law_kind.nd rfl (Or.inl rfl) (d_index hG.symm hu (o_peek (pv 1)) (ao_cons (o_v v_bl) ao_nil)))
(ss_cons (s_if (t_lt (o_peek (pv 2)) (o_v v_int))
(ss_one (s_ret (d_tup (a_cons (v_fz (d_ix hG.symm (o_v (v_fz (d_lst (a_cons v_str (a_cons v_str (a_cons v_str (a_cons v_str (a_cons v_str (a_cons v_str (a_cons v_str a_nil)))))))))) (o_peek (pv 2)))) (a_cons (v_fz (xk hG.symm (o_peek (pv 0)))) a_nil)))))
ss_nil)
(ss_cons (s_if (t_eq hG.symm hu (o_peek (pv 2)) (o_v v_int))
(ss_one (s_ret (d_tup (a_cons v_str (a_cons (v_fz (xk hG.symm (o_peek (pv 0)))) a_nil)))))
ss_nil)
(ss_cons (s_if (t_eq hG.symm hu (o_peek (pv 2)) (o_v v_int))
(ss_one (s_ret (d_tup (a_cons v_str (a_cons (v_fz (xk hG.symm (o_peek (pv 0)))) a_nil)))))
ss_nil)
(ss_cons (s_if (t_eq hG.symm hu (o_peek (pv 2)) (o_v v_int))
(ss_one (s_ret (d_tup (a_cons v_str (a_cons (v_fz (xk hG.symm (o_peek (pv 0)))) a_nil)))))
ss_nil)
(ss_one (s_ret (d_tup (a_cons (v_fz (d_ix hG.symm (o_v (v_fz (d_lst (a_cons v_str (a_cons v_str a_nil))))) (o_v (v_fz (d_sub (o_peek (pv 2)) (o_v v_int)))))) (a_cons v_int a_nil)))))))))))))))) rd
theorem ok_is_integer (T : Tx P w mg base cs) (D : Df cs.K mg "is_integer" "is_integer" s_is_integer ["value", "least"]) (rd : ∀ ds M Q E, sp_is_integer cs ds M Q E → td_is_integer cs (endsD Q E) (startD ["value", "least"] ds) M) : Cal P w cs.K mg base 1 "is_integer" ["value", "least"] (sp_is_integer cs) :=
  D.cal sc_is_integer (td_is_integer cs) len_is_integer (fun f cdv A outer s H E G hG hr => have hu := DL.hu_of hr; (ss_one (s_ret (d_and (d_isi .int hG.symm (by rfl) T.n_isinstance (by rfl) T.n_int rfl (o_peek (pv 0))) (d_and (d_not (d_isi .bool hG.symm (by rfl) T.n_isinstance (by rfl) T.n_bool rfl (o_peek (pv 0)))) (d_one (d_ge (o_peek (pv 0)) (o_peek (pv 1))))))))) rd
theorem ok_is_level (T : Tx P w mg base cs) (Y_is_integer : Cal P w cs.K mg base 1 "is_integer" ["value", "least"] (sp_is_integer cs)) (D : Df cs.K mg "is_level" "is_level" s_is_level ["level"]) (rd : ∀ ds M Q E, sp_is_level cs ds M Q E → td_is_level cs (endsD Q E) (startD ["level"] ds) M) : Cal P w cs.K mg base 2 "is_level" ["level"] (sp_is_level cs) :=
  D.cal sc_is_level (td_is_level cs) len_is_level (fun f cdv A outer s H E G hG hr => have hu := DL.hu_of hr; (ss_cons (s_if (w_or (t_not (t_ofT (d_isi .tuple hG.symm (by rfl) T.n_isinstance (by rfl) T.n_tuple rfl (o_peek (pv 0))))) (w_or1 (t_ne hG.symm hu (o_v (v_fz (d_len hG.symm (by rfl) T.n_len (ao_cons (o_peek (pv 0)) ao_nil)))) (o_v v_int)))).pt
(ss_one (s_ret d_bl))
ss_nil)
(ss_cons (s_if (w_or (t_not (t_ofT (d_isi .str hG.symm (by rfl) T.n_isinstance (by rfl) T.n_str rfl (o_v (v_fz (d_ix hG.symm (o_peek (pv 0)) (o_v v_int))))))) (w_or1 (t_notIn hG.symm hu (o_v (v_fz (d_ix hG.symm (o_peek (pv 0)) (o_v v_int)))) (o_v (v_fz (d_tup (a_cons v_str (a_cons v_str a_nil)))))))).pt
(ss_one (s_ret d_bl))
ss_nil)
(ss_one (s_ret (d_or (d_is (o_v (v_fz (d_ix hG.symm (o_peek (pv 0)) (o_v v_int)))) (o_v v_non)) (d_one (d_cal Y_is_integer hG.symm (hr.mono (by decide)) (by rfl) (takes_of rfl rfl rfl rfl) (a_cons (v_fz (d_ix hG.symm (o_peek (pv 0)) (o_v v_int))) (a_cons v_int a_nil)))))))))) rd
theorem ok_check_rule (T : Tx P w mg base cs) (Y_is_integer : Cal P w cs.K mg base 1 "is_integer" ["value", "least"] (sp_is_integer cs)) (Y_is_level : Cal P w cs.K mg base 2 "is_level" ["level"] (sp_is_level cs)) (D : Df cs.K mg "check_rule" "check_rule" s_check_rule ["rule"]) (rd : ∀ ds M Q E, sp_check_rule cs ds M Q E → td_check_rule cs (endsD Q E) (startD ["rule", "levels", "boost", "place", "level"] ds) M) : Cal P w cs.K mg base 3 "check_rule" ["rule"] (sp_check_rule cs) :=
  D.cal sc_check_rule (td_check_rule cs) len_check_rule (fun f cdv A outer s H E G hG hr => have hu := DL.hu_of hr; (ss_cons (s_if (w_or (t_not (t_ofT (d_isi .tuple hG.symm (by rfl) T.n_isinstance (by rfl) T.n_tuple rfl (o_peek (pv 0))))) (w_or1 (t_ne hG.symm hu (o_v (v_fz (d_len hG.symm (by rfl) T.n_len (ao_cons (o_peek (pv 0)) ao_nil)))) (o_v v_int)))).pt
(ss_one (s_rz T.x_NoRule prI (hr.mono (by decide)) rfl (takes_of rfl rfl rfl rfl) (by rfl) v_int))
ss_nil)
(ss_cons (s_asgT (v_var (pv 0)) (g_tup hG.symm rfl (gs_cons (g_name sc_check_rule.nd rfl (Or.inl rfl)) (gs_cons (g_name sc_check_rule.nd rfl (Or.inl rfl)) gs_nil))))
(ss_cons (s_if (w_or (t_not (t_ofT (d_isi .tuple hG.symm (by rfl) T.n_isinstance (by rfl) T.n_tuple rfl (o_peek (pv 1))))) (w_or1 (t_not (t_chain op_le cl_le op_le cl_le (o_v v_int) (o_v (v_fz (d_len hG.symm (by rfl) T.n_len (ao_cons (o_peek (pv 1)) ao_nil)))) (o_v (v_glob (v := .int 6) (by rfl) T.g_MOST_LEVELS.choose_spec ⟨_, rfl⟩ (fun _ _ => .int _))))))).pt
(ss_one (s_rz T.x_NoRule prI (hr.mono (by decide)) rfl (takes_of rfl rfl rfl rfl) (by rfl) v_int))
ss_nil)
(ss_cons (s_for (passes_of rfl) rfl (i_enum hG.symm (by rfl) T.n_enumerate (a_cons (v_var (pv 1)) a_nil)) (g_tup hG.symm rfl (gs_cons (g_name sc_check_rule.nd rfl (Or.inl rfl)) (gs_cons (g_name sc_check_rule.nd rfl (Or.inl rfl)) gs_nil)))
(ss_one (s_if (t_not (t_val (d_cal Y_is_level hG.symm (hr.mono (by decide)) (by rfl) (takes_of rfl rfl rfl rfl) (a_cons (v_var (pv 4)) a_nil))))
(ss_one (s_rz T.x_NoRule prI (hr.mono (by decide)) rfl (takes_of rfl rfl rfl rfl) (by rfl) (v_var (pv 3))))
ss_nil)))
(ss_one (s_if (w_and (t_isNot (o_peek (pv 2)) (o_v v_non)) (w_and1 (t_not (t_val (d_cal Y_is_integer hG.symm (hr.mono (by decide)) (by rfl) (takes_of rfl rfl rfl rfl) (a_cons (v_var (pv 2)) (a_cons v_int a_nil))))))).pt
(ss_one (s_rz T.x_NoRule prI (hr.mono (by decide)) rfl (takes_of rfl rfl rfl rfl) (by rfl) (v_fz (d_len hG.symm (by rfl) T.n_len (ao_cons (o_peek (pv 1)) ao_nil)))))
ss_nil))))))) rd
theorem ok_rule_lines (T : Tx P w mg base cs) (D : Df cs.K mg "rule_lines" "rule_lines" s_rule_lines ["rule"]) (rd : ∀ ds M Q E, sp_rule_lines cs ds M Q E → td_rule_lines cs (endsD Q E) (startD ["rule", "lines", "kind", "quantum"] ds) M) : Cal P w cs.K mg base 1 "rule_lines" ["rule"] (sp_rule_lines cs) :=
  D.cal sc_rule_lines (td_rule_lines cs) len_rule_lines (fun f cdv A outer s H E G hG hr => have hu := DL.hu_of hr; (ss_cons (s_setLc (i := 1) rfl sc_rule_lines.nd rfl rfl (by rfl) (i_p (i_any hG.symm (v_fz (d_ix hG.symm (o_peek (pv 0)) (o_v v_int))))) (blkOk_by (own := [(("kind" : Str), 2), (("quantum" : Str), 3)]) (by rfl)) (by decide) (fun G' hG' s H C cl fp => (g_tup (hG.symm.trans hG'.symm) rfl (gs_cons (g_name sc_rule_lines.nd rfl (by first | exact Or.inl rfl | exact Or.inr rfl)) (gs_cons (g_name sc_rule_lines.nd rfl (by first | exact Or.inl rfl | exact Or.inr rfl)) gs_nil)))) (fun G' hG' s H C cl fp => ts_nil) (fun G' hG' s H C cl fp => (v_fz (d_if (t_is (o_peek (pv 3)) (o_v v_non)) (d_var (pv 2)) (d_js (ts := [(xFmt (oPeek 2)), (vC (.str (" " : Str))), (xFmt (oPeek 3))]) (.cons (v_fmt (o_peek (pv 2))) (.cons v_str (.cons (v_fmt (o_peek (pv 3))) .nil))))))))
(ss_cons (s_if (t_isNot (o_v (v_fz (d_ix hG.symm (o_peek (pv 0)) (o_v v_int)))) (o_v v_non))
(ss_one (s_app hG.symm (pv 1) (v_fz (d_js (ts := [(vC (.str ("boost " : Str))), (xFmt (dFz (dBin fIx (oPeek 0) (vC (.int 1)))))]) (.cons v_str (.cons (v_fmt (o_v (v_fz (d_ix hG.symm (o_peek (pv 0)) (o_v v_int))))) .nil))))))
ss_nil)
(ss_one (s_retV (pv 1)))))) rd
theorem ok_show_rule (T : Tx P w mg base cs) (Y_check_rule : Cal P w cs.K mg base 3 "check_rule" ["rule"] (sp_check_rule cs)) (Y_rule_lines : Cal P w cs.K mg base 1 "rule_lines" ["rule"] (sp_rule_lines cs)) (D : Df cs.K mg "show_rule" "show_rule" s_show_rule ["rule"]) (rd : ∀ ds M Q E, sp_show_rule cs ds M Q E → td_show_rule cs (endsD Q E) (startD ["rule"] ds) M) : Cal P w cs.K mg base 4 "show_rule" ["rule"] (sp_show_rule cs) :=
  D.cal sc_show_rule (td_show_rule cs) len_show_rule (fun f cdv A outer s H E G hG hr => have hu := DL.hu_of hr; (ss_cons (s_expr (d_cal Y_check_rule hG.symm (hr.mono (by decide)) (by rfl) (takes_of rfl rfl rfl rfl) (a_cons (v_var (pv 0)) a_nil)))
(ss_one (s_ret (d_join hG.symm (o_v v_str) (o_v (v_fz (d_cal Y_rule_lines hG.symm (hr.mono (by decide)) (by rfl) (takes_of rfl rfl rfl rfl) (a_cons (v_var (pv 0)) a_nil))))))))) rd
theorem ok_law_list_right (T : Tx P w mg base cs) (Y_law_kind : Cal P w cs.K mg base 1 "_law_kind" ["caught"] (sp_law_kind cs)) (Y_show_rule : Cal P w cs.K mg base 4 "show_rule" ["rule"] (sp_show_rule cs)) (D : Df cs.K mg "_law_list_right" "_law_list_right" s_law_list_right ["policy"]) (rd : ∀ ds M Q E, sp_law_list_right cs ds M Q E → td_law_list_right cs (endsD Q E) (startD ["policy", "caught", "e"] ds) M) : Cal P w cs.K mg base 5 "_law_list_right" ["policy"] (sp_law_list_right cs) :=
  D.cal sc_law_list_right (td_law_list_right cs) len_law_list_right (fun f cdv A outer s H E G hG hr => have hu := DL.hu_of hr; (ss_cons (s_asg (i := 1) sc_law_list_right.nd rfl (Or.inl rfl) d_non)
(ss_cons (s_try (i := 2) rfl rfl rfl sc_law_list_right.nd rfl rfl ⟨rfl, by decide, Or.inl T.c_SlotError⟩
(fun G' hG' W' pn xe tk ps => (ss_one (s_expr (d_cal Y_show_rule (hG.symm.trans hG'.symm) (hr.mono (by decide)) (by rfl) tk (a_cons (v_var (pv 0)) a_nil)))))
(fun a oe pn => (ss_one (s_asg (i := 1) sc_law_list_right.nd rfl (Or.inl rfl) (d_var (pv 2))))))
(ss_one (s_ret (d_and (d_isNot (o_peek (pv 1)) (o_v v_non)) (d_one (d_eq hG.symm hu (o_v (v_fz (d_cal Y_law_kind hG.symm (hr.mono (by decide)) (by rfl) (takes_of rfl rfl rfl rfl) (a_cons (v_var (pv 1)) a_nil)))) (o_v (v_fz (d_tup (a_cons v_str (a_cons v_int a_nil))))))))))))) rd
theorem ok_law_number (T : Tx P w mg base cs) (D : Df cs.K mg "_law_number" "_law_number" s_law_number ["word"]) (rd : ∀ ds M Q E, sp_law_number cs ds M Q E → td_law_number cs (endsD Q E) (startD ["word", "char"] ds) M) : Cal P w cs.K mg base 1 "_law_number" ["word"] (sp_law_number cs) :=
  D.cal sc_law_number (td_law_number cs) len_law_number (fun f cdv A outer s H E G hG hr => have hu := DL.hu_of hr; (ss_cons (s_if (w_or (t_not (t_chain op_le cl_le op_le cl_le (o_v v_int) (o_v (v_fz (d_len hG.symm (by rfl) T.n_len (ao_cons (o_peek (pv 0)) ao_nil)))) (o_v v_int))) (w_or1 (t_ne hG.symm hu (o_v (v_fz (d_lc rfl sc_law_number.nd (i_pk hG.symm (pv 0)) (blkOk_by (own := [(("char" : Str), 1)]) (by rfl)) (by decide) (fun G' hG' s H C cl fp => (g_name sc_law_number.nd rfl (by first | exact Or.inl rfl | exact Or.inr rfl))) (fun G' hG' s H C cl fp => (ts_one (t_notIn (hG.symm.trans hG'.symm) hu (o_peek (pv 1)) (o_v v_str)))) (fun G' hG' s H C cl fp => (v_var (pv 1)))))) (o_v (v_fz (d_lst a_nil)))))).pt
(ss_one (s_ret d_non))
ss_nil)
(ss_cons (s_if (w_and (t_eq hG.symm hu (o_v (v_fz (d_ix hG.symm (o_peek (pv 0)) (o_v v_int)))) (o_v v_str)) (w_and1 (t_ne hG.symm hu (o_peek (pv 0)) (o_v v_str)))).pt
(ss_one (s_ret d_non))
ss_nil)
(ss_one (s_ret (d_intU (by rfl) T.n_int (ao_cons (o_peek (pv 0)) ao_nil))))))) rd
theorem ok_law_words_read (T : Tx P w mg base cs) (Y_law_number : Cal P w cs.K mg base 1 "_law_number" ["word"] (sp_law_number cs)) (D : Df cs.K mg "_law_words_read" "_law_words_read" s_law_words_read ["line", "heads"]) (rd : ∀ ds M Q E, sp_law_words_read cs ds M Q E → td_law_words_read cs (endsD Q E) (startD ["line", "heads", "words", "number"] ds) M) : Cal P w cs.K mg base 2 "_law_words_read" ["line", "heads"] (sp_law_words_read cs) :=
  D.cal sc_law_words_read (td_law_words_read cs) len_law_words_read (fun f cdv A outer s H E G hG hr => have hu := DL.hu_of hr; (ss_cons (s_asg (i := 2) sc_law_words_read.nd rfl (Or.inl rfl) (d_split hG.symm (o_peek (pv 0)) (ao_cons (o_v v_str) ao_nil)))
(ss_cons (s_if (w_or (t_notIn hG.symm hu (o_v (v_fz (d_ix hG.symm (o_peek (pv 2)) (o_v v_int)))) (o_peek (pv 1))) (w_or1 (t_gt (o_v (v_fz (d_len hG.symm (by rfl) T.n_len (ao_cons (o_peek (pv 2)) ao_nil)))) (o_v v_int)))).pt
(ss_one (s_ret d_non))
ss_nil)
(ss_cons (s_if (t_eq hG.symm hu (o_v (v_fz (d_len hG.symm (by rfl) T.n_len (ao_cons (o_peek (pv 2)) ao_nil)))) (o_v v_int))
(ss_one (s_ret (d_lst (a_cons (v_fz (d_ix hG.symm (o_peek (pv 2)) (o_v v_int))) (a_cons v_non a_nil)))))
ss_nil)
(ss_cons (s_asg (i := 3) sc_law_words_read.nd rfl (Or.inl rfl) (d_cal Y_law_number hG.symm (hr.mono (by decide)) (by rfl) (takes_of rfl rfl rfl rfl) (a_cons (v_fz (d_ix hG.symm (o_peek (pv 2)) (o_v v_int))) a_nil)))
(ss_cons (s_if (w_or (t_is (o_peek (pv 3)) (o_v v_non)) (w_or1 (t_eq hG.symm hu (o_peek (pv 3)) (o_v v_int)))).pt
(ss_one (s_ret d_non))
ss_nil)
(ss_one (s_ret (d_lst (a_cons (v_fz (d_ix hG.symm (o_peek (pv 2)) (o_v v_int))) (a_cons (v_var (pv 3)) a_nil))))))))))) rd
theorem ok_law_due (T : Tx P w mg base cs) (Y_law_words_read : Cal P w cs.K mg base 2 "_law_words_read" ["line", "heads"] (sp_law_words_read cs)) (D : Df cs.K mg "_law_due" "_law_due" s_law_due ["text"]) (rd : ∀ ds M Q E, sp_law_due cs ds M Q E → td_law_due cs (endsD Q E) (startD ["text", "lines", "levels", "row", "line", "level", "last"] ds) M) : Cal P w cs.K mg base 3 "_law_due" ["text"] (sp_law_due cs) :=
  D.cal sc_law_due (td_law_due cs) len_law_due (fun f cdv A outer s H E G hG hr => have hu := DL.hu_of hr; (ss_cons (s_asg (i := 1) sc_law_due.nd rfl (Or.inl rfl) (d_split hG.symm (o_peek (pv 0)) (ao_cons (o_v v_str) ao_nil)))
(ss_cons (s_asg (i := 2) sc_law_due.nd rfl (Or.inl rfl) (d_lst a_nil))
(ss_frz 1 (ss_cons (s_for (passes_of rfl) rfl (i_enum hG.symm (by rfl) T.n_enumerate (a_cons (v_var (pv 1)) a_nil)) (g_tup hG.symm rfl (gs_cons (g_name sc_law_due.nd rfl (Or.inl rfl)) (gs_cons (g_name sc_law_due.nd rfl (Or.inl rfl)) gs_nil)))
(ss_cons (s_asg (i := 5) sc_law_due.nd rfl (Or.inl rfl) (d_cal Y_law_words_read hG.symm (hr.mono (by decide)) (by rfl) (takes_of rfl rfl rfl rfl) (a_cons (v_var (pv 4)) (a_cons (v_fz (d_lst (a_cons v_str (a_cons v_str a_nil)))) a_nil))))
(ss_cons (s_if (t_is (o_peek (pv 5)) (o_v v_non))
(ss_cons (s_asg (i := 6) sc_law_due.nd rfl (Or.inl rfl) (d_cal Y_law_words_read hG.symm (hr.mono (by decide)) (by rfl) (takes_of rfl rfl rfl rfl) (a_cons (v_var (pv 4)) (a_cons (v_fz (d_lst (a_cons v_str a_nil))) a_nil))))
(ss_cons (s_if (w_or (t_eq hG.symm hu (o_peek (pv 3)) (o_v v_int)) (w_or (t_is (o_peek (pv 6)) (o_v v_non)) (w_or1 (t_is (o_v (v_fz (d_ix hG.symm (o_peek (pv 6)) (o_v v_int)))) (o_v v_non))))).pt
(ss_one (s_retV (pv 3)))
ss_nil)
(ss_one (s_ret (d_if (t_lt (o_v (v_fz (d_add hG.symm (o_peek (pv 3)) (o_v v_int)))) (o_v (v_fz (d_len hG.symm (by rfl) T.n_len (ao_cons (o_peek (pv 1)) ao_nil))))) (d_add hG.symm (o_peek (pv 3)) (o_v v_int)) (d_tup (a_cons (v_fz (d_tupleOf hG.symm (by rfl) T.n_tuple (ao_cons (o_peek (pv 2)) ao_nil))) (a_cons (v_fz (d_ix hG.symm (o_peek (pv 6)) (o_v v_int))) a_nil))))))))
ss_nil)
(ss_cons (s_if (t_eq hG.symm hu (o_peek (pv 3)) (o_v v_int))
(ss_one (s_retV (pv 3)))
ss_nil)
(ss_one (s_app hG.symm (pv 2) (v_fz (d_tup (a_cons (v_fz (d_ix hG.symm (o_peek (pv 5)) (o_v v_int))) (a_cons (v_fz (d_ix hG.symm (o_peek (pv 5)) (o_v v_int))) a_nil))))))))))
(ss_one (s_ret (d_tup (a_cons (v_fz (d_tupleOf hG.symm (by rfl) T.n_tuple (ao_cons (o_peek (pv 2)) ao_nil))) (a_cons v_non a_nil)))))))))) rd
theorem ok_number_in (T : Tx P w mg base cs) (D : Df cs.K mg "number_in" "number_in" s_number_in ["word"]) (rd : ∀ ds M Q E, sp_number_in cs ds M Q E → td_number_in cs (endsD Q E) (startD ["word", "char"] ds) M) : Cal P w cs.K mg base 1 "number_in" ["word"] (sp_number_in cs) :=
  D.cal sc_number_in (td_number_in cs) len_number_in (fun f cdv A outer s H E G hG hr => have hu := DL.hu_of hr; (ss_cons (s_if (w_or (t_not (t_chain op_le cl_le op_le cl_le (o_v v_int) (o_v (v_fz (d_len hG.symm (by rfl) T.n_len (ao_cons (o_peek (pv 0)) ao_nil)))) (o_v (v_glob (v := .int 31) (by rfl) T.g_MOST_DIGITS.choose_spec ⟨_, rfl⟩ (fun _ _ => .int _))))) (w_or1 (t_not (t_val (d_all hG.symm rfl (by rfl) T.n_all (ao_cons (o_v (v_fz (d_lc rfl sc_number_in.nd (i_pk hG.symm (pv 0)) (blkOk_by (own := [(("char" : Str), 1)]) (by rfl)) (by decide) (fun G' hG' s H C cl fp => (g_name sc_number_in.nd rfl (by first | exact Or.inl rfl | exact Or.inr rfl))) (fun G' hG' s H C cl fp => ts_nil) (fun G' hG' s H C cl fp => (v_fz (d_in (hG.symm.trans hG'.symm) hu (o_peek (pv 1)) (o_v (v_glob (v := .str ("0123456789" : Str)) (by rfl) T.g_DIGITS.choose_spec ⟨_, rfl⟩ (fun _ _ => .str _))))))))) ao_nil)))))).pt
(ss_one (s_ret d_non))
ss_nil)
(ss_cons (s_if (w_and (t_eq hG.symm hu (o_v (v_fz (d_ix hG.symm (o_peek (pv 0)) (o_v v_int)))) (o_v v_str)) (w_and1 (t_ne hG.symm hu (o_peek (pv 0)) (o_v v_str)))).pt
(ss_one (s_ret d_non))
ss_nil)
(ss_one (s_ret (d_intU (by rfl) T.n_int (ao_cons (o_peek (pv 0)) ao_nil))))))) rd
theorem ok_read_boost (T : Tx P w mg base cs) (Y_number_in : Cal P w cs.K mg base 1 "number_in" ["word"] (sp_number_in cs)) (D : Df cs.K mg "read_boost" "read_boost" s_read_boost ["line"]) (rd : ∀ ds M Q E, sp_read_boost cs ds M Q E → td_read_boost cs (endsD Q E) (startD ["line", "words", "boost"] ds) M) : Cal P w cs.K mg base 2 "read_boost" ["line"] (sp_read_boost cs) :=
  D.cal sc_read_boost (td_read_boost cs) len_read_boost (fun f cdv A outer s H E G hG hr => have hu := DL.hu_of hr; (ss_cons (s_asg (i := 1) sc_read_boost.nd rfl (Or.inl rfl) (d_split hG.symm (o_peek (pv 0)) (ao_cons (o_v v_str) ao_nil)))
(ss_cons (s_if (w_or (t_ne hG.symm hu (o_v (v_fz (d_len hG.symm (by rfl) T.n_len (ao_cons (o_peek (pv 1)) ao_nil)))) (o_v v_int)) (w_or1 (t_ne hG.symm hu (o_v (v_fz (d_ix hG.symm (o_peek (pv 1)) (o_v v_int)))) (o_v v_str)))).pt
(ss_one (s_ret d_non))
ss_nil)
(ss_cons (s_asg (i := 2) sc_read_boost.nd rfl (Or.inl rfl) (d_cal Y_number_in hG.symm (hr.mono (by decide)) (by rfl) (takes_of rfl rfl rfl rfl) (a_cons (v_fz (d_ix hG.symm (o_peek (pv 1)) (o_v v_int))) a_nil)))
(ss_one (s_ret (d_if (t_eq hG.symm hu (o_peek (pv 2)) (o_v v_int)) d_non (d_var (pv 2))))))))) rd
theorem ok_read_level (T : Tx P w mg base cs) (Y_number_in : Cal P w cs.K mg base 1 "number_in" ["word"] (sp_number_in cs)) (D : Df cs.K mg "read_level" "read_level" s_read_level ["line"]) (rd : ∀ ds M Q E, sp_read_level cs ds M Q E → td_read_level cs (endsD Q E) (startD ["line", "words", "quantum"] ds) M) : Cal P w cs.K mg base 2 "read_level" ["line"] (sp_read_level cs) :=
  D.cal sc_read_level (td_read_level cs) len_read_level (fun f cdv A outer s H E G hG hr => have hu := DL.hu_of hr; (ss_cons (s_asg (i := 1) sc_read_level.nd rfl (Or.inl rfl) (d_split hG.symm (o_peek (pv 0)) (ao_cons (o_v v_str) ao_nil)))
(ss_cons (s_if (w_or (t_notIn hG.symm hu (o_v (v_fz (d_ix hG.symm (o_peek (pv 1)) (o_v v_int)))) (o_v (v_fz (d_tup (a_cons v_str (a_cons v_str a_nil)))))) (w_or1 (t_gt (o_v (v_fz (d_len hG.symm (by rfl) T.n_len (ao_cons (o_peek (pv 1)) ao_nil)))) (o_v v_int)))).pt
(ss_one (s_ret d_non))
ss_nil)
(ss_cons (s_if (t_eq hG.symm hu (o_v (v_fz (d_len hG.symm (by rfl) T.n_len (ao_cons (o_peek (pv 1)) ao_nil)))) (o_v v_int))
(ss_one (s_ret (d_tup (a_cons (v_fz (d_ix hG.symm (o_peek (pv 1)) (o_v v_int))) (a_cons v_non a_nil)))))
ss_nil)
(ss_cons (s_asg (i := 2) sc_read_level.nd rfl (Or.inl rfl) (d_cal Y_number_in hG.symm (hr.mono (by decide)) (by rfl) (takes_of rfl rfl rfl rfl) (a_cons (v_fz (d_ix hG.symm (o_peek (pv 1)) (o_v v_int))) a_nil)))
(ss_cons (s_if (w_or (t_is (o_peek (pv 2)) (o_v v_non)) (w_or1 (t_lt (o_peek (pv 2)) (o_v v_int)))).pt
(ss_one (s_ret d_non))
ss_nil)
(ss_one (s_ret (d_tup (a_cons (v_fz (d_ix hG.symm (o_peek (pv 1)) (o_v v_int))) (a_cons (v_var (pv 2)) a_nil))))))))))) rd
theorem ok_read_rule (T : Tx P w mg base cs) (Y_read_boost : Cal P w cs.K mg base 2 "read_boost" ["line"] (sp_read_boost cs)) (Y_read_level : Cal P w cs.K mg base 2 "read_level" ["line"] (sp_read_level cs)) (D : Df cs.K mg "read_rule" "read_rule" s_read_rule ["text"]) (rd : ∀ ds M Q E, sp_read_rule cs ds M Q E → td_read_rule cs (endsD Q E) (startD ["text", "levels", "boost", "row", "line", "level"] ds) M) : Cal P w cs.K mg base 3 "read_rule" ["text"] (sp_read_rule cs) :=
  D.cal sc_read_rule (td_read_rule cs) len_read_rule (fun f cdv A outer s H E G hG hr => have hu := DL.hu_of hr; (ss_cons (s_asg (i := 1) sc_read_rule.nd rfl (Or.inl rfl) (d_lst a_nil))
(ss_cons (s_asg (i := 2) sc_read_rule.nd rfl (Or.inl rfl) d_non)
(ss_cons (s_for (passes_of rfl) rfl (i_enum hG.symm (by rfl) T.n_enumerate (a_cons (v_fz (d_split hG.symm (o_peek (pv 0)) (ao_cons (o_v v_str) ao_nil))) a_nil)) (g_tup hG.symm rfl (gs_cons (g_name sc_read_rule.nd rfl (Or.inl rfl)) (gs_cons (g_name sc_read_rule.nd rfl (Or.inl rfl)) gs_nil)))
(ss_cons (s_asg (i := 5) sc_read_rule.nd rfl (Or.inl rfl) (d_cal Y_read_level hG.symm (hr.mono (by decide)) (by rfl) (takes_of rfl rfl rfl rfl) (a_cons (v_var (pv 4)) a_nil)))
(ss_one (s_if (w_and (t_is (o_peek (pv 2)) (o_v v_non)) (w_and (t_isNot (o_peek (pv 5)) (o_v v_non)) (w_and1 (t_lt (o_v (v_fz (d_len hG.symm (by rfl) T.n_len (ao_cons (o_peek (pv 1)) ao_nil)))) (o_v (v_glob (v := .int 6) (by rfl) T.g_MOST_LEVELS.choose_spec ⟨_, rfl⟩ (fun _ _ => .int _))))))).pt
(ss_one (s_app hG.symm (pv 1) (v_var (pv 5))))
(ss_one (s_if (w_and (t_is (o_peek (pv 2)) (o_v v_non)) (w_and (t_is (o_peek (pv 5)) (o_v v_non)) (w_and1 (t_ne hG.symm hu (o_peek (pv 1)) (o_v (v_fz (d_lst a_nil))))))).pt
(ss_cons (s_asg (i := 2) sc_read_rule.nd rfl (Or.inl rfl) (d_cal Y_read_boost hG.symm (hr.mono (by decide)) (by rfl) (takes_of rfl rfl rfl rfl) (a_cons (v_var (pv 4)) a_nil)))
(ss_one (s_if (t_is (o_peek (pv 2)) (o_v v_non))
(ss_one (s_rz T.x_NoText prI (hr.mono (by decide)) rfl (takes_of rfl rfl rfl rfl) (by rfl) (v_var (pv 3))))
ss_nil)))
(ss_one (s_rz T.x_NoText prI (hr.mono (by decide)) rfl (takes_of rfl rfl rfl rfl) (by rfl) (v_var (pv 3))))))))))
(ss_one (s_ret (d_tup (a_cons (v_fz (d_tupleOf hG.symm (by rfl) T.n_tuple (ao_cons (o_peek (pv 1)) ao_nil))) (a_cons (v_var (pv 2)) a_nil))))))))) rd
theorem ok_law_right (T : Tx P w mg base cs) (Y_law_due : Cal P w cs.K mg base 3 "_law_due" ["text"] (sp_law_due cs)) (Y_law_kind : Cal P w cs.K mg base 1 "_law_kind" ["caught"] (sp_law_kind cs)) (Y_read_rule : Cal P w cs.K mg base 3 "read_rule" ["text"] (sp_read_rule cs)) (D : Df cs.K mg "_law_right" "_law_right" s_law_right ["text"]) (rd : ∀ ds M Q E, sp_law_right cs ds M Q E → td_law_right cs (endsD Q E) (startD ["text", "due", "caught", "found", "e"] ds) M) : Cal P w cs.K mg base 4 "_law_right" ["text"] (sp_law_right cs) :=
  D.cal sc_law_right (td_law_right cs) len_law_right (fun f cdv A outer s H E G hG hr => have hu := DL.hu_of hr; (ss_cons (s_asg (i := 1) sc_law_right.nd rfl (Or.inl rfl) (d_cal Y_law_due hG.symm (hr.mono (by decide)) (by rfl) (takes_of rfl rfl rfl rfl) (a_cons (v_var (pv 0)) a_nil)))
(ss_cons (s_asg (i := 2) sc_law_right.nd rfl (Or.inl rfl) d_non)
(ss_cons (s_asg (i := 3) sc_law_right.nd rfl (Or.inl rfl) d_non)
(ss_cons (s_try (i := 4) rfl rfl rfl sc_law_right.nd rfl rfl ⟨rfl, by decide, Or.inl T.c_SlotError⟩
(fun G' hG' W' pn xe tk ps => (ss_one (s_asg (i := 3) sc_law_right.nd rfl (Or.inl rfl) (d_cal Y_read_rule (hG.symm.trans hG'.symm) (hr.mono (by decide)) (by rfl) tk (a_cons (v_var (pv 0)) a_nil)))))
(fun a oe pn => (ss_one (s_asg (i := 2) sc_law_right.nd rfl (Or.inl rfl) (d_var (pv 4))))))
(ss_cons (s_if (t_ofT (d_isi .tuple hG.symm (by rfl) T.n_isinstance (by rfl) T.n_tuple rfl (o_peek (pv 1))))
(ss_one (s_ret (d_and (d_is (o_peek (pv 2)) (o_v v_non)) (d_and (d_eq hG.symm hu (o_peek (pv 3)) (o_peek (pv 1))) (d_and (d_isi .tuple hG.symm (by rfl) T.n_isinstance (by rfl) T.n_tuple rfl (o_peek (pv 3))) (d_one (d_isi .tuple hG.symm (by rfl) T.n_isinstance (by rfl) T.n_tuple rfl (o_v (v_fz (d_ix hG.symm (o_peek (pv 3)) (o_v v_int)))))))))))
ss_nil)
(ss_one (s_ret (d_and (d_isNot (o_peek (pv 2)) (o_v v_non)) (d_one (d_eq hG.symm hu (o_v (v_fz (d_cal Y_law_kind hG.symm (hr.mono (by decide)) (by rfl) (takes_of rfl rfl rfl rfl) (a_cons (v_var (pv 2)) a_nil)))) (o_v (v_fz (d_tup (a_cons v_str (a_cons (v_var (pv 1)) a_nil)))))))))))))))) rd
theorem ok_law_rule_lines (T : Tx P w mg base cs) (D : Df cs.K mg "_law_rule_lines" "_law_rule_lines" s_law_rule_lines ["policy"]) (rd : ∀ ds M Q E, sp_law_rule_lines cs ds M Q E → td_law_rule_lines cs (endsD Q E) (startD ["policy", "lines", "kind", "quantum"] ds) M) : Cal P w cs.K mg base 1 "_law_rule_lines" ["policy"] (sp_law_rule_lines cs) :=
  D.cal sc_law_rule_lines (td_law_rule_lines cs) len_law_rule_lines (fun f cdv A outer s H E G hG hr => have hu := DL.hu_of hr; (ss_cons (s_asg (i := 1) sc_law_rule_lines.nd rfl (Or.inl rfl) (d_lst a_nil))
(ss_cons (s_for (passes_of rfl) rfl (i_any hG.symm (v_fz (d_ix hG.symm (o_peek (pv 0)) (o_v v_int)))) (g_tup hG.symm rfl (gs_cons (g_name sc_law_rule_lines.nd rfl (Or.inl rfl)) (gs_cons (g_name sc_law_rule_lines.nd rfl (Or.inl rfl)) gs_nil)))
(ss_one (s_app hG.symm (pv 1) (v_fz (d_add hG.symm (o_peek (pv 2)) (o_v (v_fz (d_ix hG.symm (o_v (v_fz (d_lst (a_cons (v_fz (d_js (ts := [(vC (.str (" " : Str))), (xFmt (oPeek 3))]) (.cons v_str (.cons (v_fmt (o_peek (pv 3))) .nil)))) (a_cons v_str a_nil))))) (o_v (v_fz (d_intU (by rfl) T.n_int (ao_cons (o_v (v_fz (d_is (o_peek (pv 3)) (o_v v_non)))) ao_nil))))))))))))
(ss_cons (s_if (t_isNot (o_v (v_fz (d_ix hG.symm (o_peek (pv 0)) (o_v v_int)))) (o_v v_non))
(ss_one (s_app hG.symm (pv 1) (v_fz (d_js (ts := [(vC (.str ("boost " : Str))), (xFmt (dFz (dBin fIx (oPeek 0) (vC (.int 1)))))]) (.cons v_str (.cons (v_fmt (o_v (v_fz (d_ix hG.symm (o_peek (pv 0)) (o_v v_int))))) .nil))))))
ss_nil)
(ss_one (s_retV (pv 1))))))) rd
theorem ok_law_spoilt_line (T : Tx P w mg base cs) (Y_law_pick : Cal P w cs.K mg base 2 "_law_pick" ["store", "count"] (sp_law_pick cs)) (D : Df cs.K mg "_law_spoilt_line" "_law_spoilt_line" s_law_spoilt_line ["store", "line"]) (rd : ∀ ds M Q E, sp_law_spoilt_line cs ds M Q E → td_law_spoilt_line cs (endsD Q E) (startD ["store", "line", "some", "words", "at", "way", "text", "cut", "char", "forms"] ds) M) : Cal P w cs.K mg base 3 "_law_spoilt_line" ["store", "line"] (sp_law_spoilt_line cs) :=
  D.cal sc_law_spoilt_line (td_law_spoilt_line cs) len_law_spoilt_line (fun f cdv A outer s H E G hG hr => have hu := DL.hu_of hr; (ss_cons (s_asg (i := 2) sc_law_spoilt_line.nd rfl (Or.inl rfl) (d_lst (a_cons v_str (a_cons v_str (a_cons v_str (a_cons v_str (a_cons v_str (a_cons v_str (a_cons v_str (a_cons v_str (a_cons v_str (a_cons (v_fz (d_mulS (o_v v_str) (o_v v_int))) (a_cons (v_fz (d_mulS (o_v v_str) (o_v v_int))) (a_cons v_str (a_cons v_str (a_cons v_str (a_cons v_str a_nil)))))))))))))))))
(ss_cons (s_asg (i := 3) sc_law_spoilt_line.nd rfl (Or.inl rfl) (d_split hG.symm (o_peek (pv 1)) (ao_cons (o_v v_str) ao_nil)))
(ss_share 3 (ss_cons (s_asg (i := 4) sc_law_spoilt_line.nd rfl (Or.inl rfl) (d_cal Y_law_pick hG.symm (hr.mono (by decide)) (by rfl) (takes_of rfl rfl rfl rfl) (a_cons (v_var (pv 0)) (a_cons (v_fz (d_len hG.symm (by rfl) T.n_len (ao_cons (o_peek (pv 3)) ao_nil))) a_nil))))
(ss_cons (s_asg (i := 5) sc_law_spoilt_line.nd rfl (Or.inl rfl) (d_cal Y_law_pick hG.symm (hr.mono (by decide)) (by rfl) (takes_of rfl rfl rfl rfl) (a_cons (v_var (pv 0)) (a_cons v_int a_nil))))
(ss_cons (s_if (t_eq hG.symm hu (o_peek (pv 5)) (o_v v_int))
(ss_one (s_expr (d_insert hG.symm (o_peek (pv 3)) (a_cons (v_var (pv 4)) (a_cons (v_fz (d_ix hG.symm (o_peek (pv 2)) (o_v (v_fz (d_cal Y_law_pick hG.symm (hr.mono (by decide)) (by rfl) (takes_of rfl rfl rfl rfl) (a_cons (v_var (pv 0)) (a_cons v_int a_nil))))))) a_nil)))))
(ss_one (s_if (w_and (t_eq hG.symm hu (o_peek (pv 5)) (o_v v_int)) (w_and1 (t_gt (o_v (v_fz (d_len hG.symm (by rfl) T.n_len (ao_cons (o_peek (pv 3)) ao_nil)))) (o_v v_int)))).pt
(ss_one (s_expr (d_popAt hG.symm (o_peek (pv 3)) (a_cons (v_var (pv 4)) a_nil))))
(ss_one (s_if (t_eq hG.symm hu (o_peek (pv 5)) (o_v v_int))
(ss_one (s_setM (v_fz (d_ix hG.symm (o_peek (pv 2)) (o_v (v_fz (d_cal Y_law_pick hG.symm (hr.mono (by decide)) (by rfl) (takes_of rfl rfl rfl rfl) (a_cons (v_var (pv 0)) (a_cons v_int a_nil))))))) (v_var (pv 3)) (v_var (pv 4))))
(ss_one (s_if (t_eq hG.symm hu (o_peek (pv 5)) (o_v v_int))
(ss_cons (s_asg (i := 3) sc_law_spoilt_line.nd rfl (Or.inl rfl) (d_rev hG.symm (o_peek (pv 3)))) (ss_share 3 ss_nil))
ss_nil)))))))
(ss_cons (s_asg (i := 6) sc_law_spoilt_line.nd rfl (Or.inl rfl) (d_join hG.symm (o_v v_str) (o_peek (pv 3))))
(ss_cons (s_asg (i := 7) sc_law_spoilt_line.nd rfl (Or.inl rfl) (d_cal Y_law_pick hG.symm (hr.mono (by decide)) (by rfl) (takes_of rfl rfl rfl rfl) (a_cons (v_var (pv 0)) (a_cons (v_fz (d_add hG.symm (o_v (v_fz (d_len hG.symm (by rfl) T.n_len (ao_cons (o_peek (pv 6)) ao_nil)))) (o_v v_int))) a_nil))))
(ss_cons (s_asg (i := 8) sc_law_spoilt_line.nd rfl (Or.inl rfl) (d_ix hG.symm (o_v (v_fz (d_lst (a_cons v_str (a_cons v_str (a_cons v_str (a_cons v_str (a_cons v_str (a_cons v_str (a_cons v_str (a_cons v_str (a_cons v_str a_nil)))))))))))) (o_v (v_fz (d_cal Y_law_pick hG.symm (hr.mono (by decide)) (by rfl) (takes_of rfl rfl rfl rfl) (a_cons (v_var (pv 0)) (a_cons v_int a_nil)))))))
(ss_cons (s_if (t_eq hG.symm hu (o_peek (pv 5)) (o_v v_int))
(ss_cons (s_asg (i := 9) sc_law_spoilt_line.nd rfl (Or.inl rfl) (d_lst (a_cons (v_fz (d_add hG.symm (o_v (v_fz (d_add hG.symm (o_v (v_fz (d_slice hG.symm (o_peek (pv 6)) p_none (p_some (d_var (pv 7)))))) (o_peek (pv 8))))) (o_v (v_fz (d_slice hG.symm (o_peek (pv 6)) (p_some (d_var (pv 7))) p_none))))) (a_cons (v_fz (d_add hG.symm (o_v (v_fz (d_slice hG.symm (o_peek (pv 6)) p_none (p_some (d_var (pv 7)))))) (o_v (v_fz (d_slice hG.symm (o_peek (pv 6)) (p_some (d_add hG.symm (o_peek (pv 7)) (o_v v_int))) p_none))))) (a_cons (v_fz (d_add hG.symm (o_v (v_fz (d_add hG.symm (o_v (v_fz (d_slice hG.symm (o_peek (pv 6)) p_none (p_some (d_var (pv 7)))))) (o_peek (pv 8))))) (o_v (v_fz (d_slice hG.symm (o_peek (pv 6)) (p_some (d_add hG.symm (o_peek (pv 7)) (o_v v_int))) p_none))))) a_nil)))))
(ss_one (s_asg (i := 6) sc_law_spoilt_line.nd rfl (Or.inl rfl) (d_ix hG.symm (o_peek (pv 9)) (o_v (v_fz (d_cal Y_law_pick hG.symm (hr.mono (by decide)) (by rfl) (takes_of rfl rfl rfl rfl) (a_cons (v_var (pv 0)) (a_cons v_int a_nil)))))))))
ss_nil)
(ss_one (s_retV (pv 6)))))))))))))) rd
theorem ok_law_spoilt (T : Tx P w mg base cs) (Y_law_pick : Cal P w cs.K mg base 2 "_law_pick" ["store", "count"] (sp_law_pick cs)) (Y_law_spoilt_line : Cal P w cs.K mg base 3 "_law_spoilt_line" ["store", "line"] (sp_law_spoilt_line cs)) (D : Df cs.K mg "_law_spoilt" "_law_spoilt" s_law_spoilt ["store", "lines"]) (rd : ∀ ds M Q E, sp_law_spoilt cs ds M Q E → td_law_spoilt cs (endsD Q E) (startD ["store", "lines", "k", "at", "there", "way", "text"] ds) M) : Cal P w cs.K mg base 4 "_law_spoilt" ["store", "lines"] (sp_law_spoilt cs) :=
  D.cal sc_law_spoilt (td_law_spoilt cs) len_law_spoilt (fun f cdv A outer s H E G hG hr => have hu := DL.hu_of hr; (ss_cons (s_asg (i := 1) sc_law_spoilt.nd rfl (Or.inl rfl) (d_listOf hG.symm (by rfl) T.n_list (ao_cons (o_peek (pv 1)) ao_nil)))
(ss_share 1 (ss_cons (s_for (passes_of rfl) rfl (i_range1 (by rfl) T.n_range (a_cons (v_fz (d_add hG.symm (o_v v_int) (o_v (v_fz (d_cal Y_law_pick hG.symm (hr.mono (by decide)) (by rfl) (takes_of rfl rfl rfl rfl) (a_cons (v_var (pv 0)) (a_cons v_int a_nil))))))) a_nil)) (g_name sc_law_spoilt.nd rfl (Or.inl rfl))
(ss_cons (s_asg (i := 3) sc_law_spoilt.nd rfl (Or.inl rfl) (d_cal Y_law_pick hG.symm (hr.mono (by decide)) (by rfl) (takes_of rfl rfl rfl rfl) (a_cons (v_var (pv 0)) (a_cons (v_fz (d_len hG.symm (by rfl) T.n_len (ao_cons (o_peek (pv 1)) ao_nil))) a_nil))))
(ss_cons (s_asg (i := 4) sc_law_spoilt.nd rfl (Or.inl rfl) (d_cal Y_law_pick hG.symm (hr.mono (by decide)) (by rfl) (takes_of rfl rfl rfl rfl) (a_cons (v_var (pv 0)) (a_cons (v_fz (d_len hG.symm (by rfl) T.n_len (ao_cons (o_peek (pv 1)) ao_nil))) a_nil))))
(ss_cons (s_asg (i := 5) sc_law_spoilt.nd rfl (Or.inl rfl) (d_cal Y_law_pick hG.symm (hr.mono (by decide)) (by rfl) (takes_of rfl rfl rfl rfl) (a_cons (v_var (pv 0)) (a_cons v_int a_nil))))
(ss_one (s_if (w_and (t_eq hG.symm hu (o_peek (pv 5)) (o_v v_int)) (w_and1 (t_gt (o_v (v_fz (d_len hG.symm (by rfl) T.n_len (ao_cons (o_peek (pv 1)) ao_nil)))) (o_v v_int)))).pt
(ss_one (s_expr (d_popAt hG.symm (o_peek (pv 1)) (a_cons (v_var (pv 3)) a_nil))))
(ss_one (s_if (t_eq hG.symm hu (o_peek (pv 5)) (o_v v_int))
(ss_one (s_expr (d_insert hG.symm (o_peek (pv 1)) (a_cons (v_var (pv 4)) (a_cons (v_fz (d_ix hG.symm (o_peek (pv 1)) (o_peek (pv 3)))) a_nil)))))
(ss_one (s_if (t_eq hG.symm hu (o_peek (pv 5)) (o_v v_int))
(ss_one (s_expr (d_insert hG.symm (o_peek (pv 1)) (a_cons (v_var (pv 3)) (a_cons (v_fz (d_ix hG.symm (o_v (v_fz (d_lst (a_cons v_str (a_cons v_str (a_cons v_str (a_cons v_str (a_cons v_str a_nil)))))))) (o_v (v_fz (d_cal Y_law_pick hG.symm (hr.mono (by decide)) (by rfl) (takes_of rfl rfl rfl rfl) (a_cons (v_var (pv 0)) (a_cons v_int a_nil))))))) a_nil)))))
(ss_one (s_if (t_eq hG.symm hu (o_peek (pv 5)) (o_v v_int))
(ss_one (s_asgTM (v_fz (d_tup (a_cons (v_fz (d_ix hG.symm (o_peek (pv 1)) (o_peek (pv 4)))) (a_cons (v_fz (d_ix hG.symm (o_peek (pv 1)) (o_peek (pv 3)))) a_nil)))) (gM_tup hG.symm rfl (gMs_cons (gM_sub (o_peek (pv 1)) (o_peek (pv 3))) (gMs_cons (gM_sub (o_peek (pv 1)) (o_peek (pv 4))) gMs_nil)))))
(ss_one (s_if (t_eq hG.symm hu (o_peek (pv 5)) (o_v v_int))
(ss_one (s_expr (d_append hG.symm (o_peek (pv 1)) (a_cons (v_fz (d_ix hG.symm (o_v (v_fz (d_lst (a_cons v_str (a_cons v_str (a_cons v_str (a_cons v_str (a_cons v_str a_nil)))))))) (o_v (v_fz (d_cal Y_law_pick hG.symm (hr.mono (by decide)) (by rfl) (takes_of rfl rfl rfl rfl) (a_cons (v_var (pv 0)) (a_cons v_int a_nil))))))) a_nil))))
(ss_one (s_setM (v_fz (d_cal Y_law_spoilt_line hG.symm (hr.mono (by decide)) (by rfl) (takes_of rfl rfl rfl rfl) (a_cons (v_var (pv 0)) (a_cons (v_fz (d_ix hG.symm (o_peek (pv 1)) (o_peek (pv 3)))) a_nil)))) (v_var (pv 1)) (v_var (pv 3))))))))))))))))))
(ss_cons (s_asg (i := 6) sc_law_spoilt.nd rfl (Or.inl rfl) (d_join hG.symm (o_v v_str) (o_peek (pv 1))))
(ss_one (s_ret (d_ix hG.symm (o_v (v_fz (d_lst (a_cons (v_var (pv 6)) (a_cons (v_var (pv 6)) (a_cons (v_var (pv 6)) (a_cons (v_fz (d_add hG.symm (o_peek (pv 6)) (o_v v_str))) (a_cons (v_fz (d_add hG.symm (o_v v_str) (o_peek (pv 6)))) (a_cons (v_fz (d_add hG.symm (o_v v_str) (o_peek (pv 6)))) (a_cons (v_fz (d_add hG.symm (o_peek (pv 6)) (o_v v_str))) a_nil)))))))))) (o_v (v_fz (d_cal Y_law_pick hG.symm (hr.mono (by decide)) (by rfl) (takes_of rfl rfl rfl rfl) (a_cons (v_var (pv 0)) (a_cons v_int a_nil))))))))))))) rd
theorem ok_law_store (T : Tx P w mg base cs) (D : Df cs.K mg "_law_store" "_law_store" s_law_store ["script"]) (rd : ∀ ds M Q E, sp_law_store cs ds M Q E → td_law_store cs (endsD Q E) (startD ["script", "mixed", "cell"] ds) M) : Cal P w cs.K mg base 1 "_law_store" ["script"] (sp_law_store cs) :=
  D.cal sc_law_store (td_law_store cs) len_law_store (fun f cdv A outer s H E G hG hr => have hu := DL.hu_of hr; (ss_cons (s_asg (i := 1) sc_law_store.nd rfl (Or.inl rfl) (d_len hG.symm (by rfl) T.n_len (ao_cons (o_peek (pv 0)) ao_nil)))
(ss_cons (s_for (passes_of rfl) rfl (i_any hG.symm (v_fz (d_slice hG.symm (o_peek (pv 0)) p_none (p_some d_int)))) (g_name sc_law_store.nd rfl (Or.inl rfl))
(ss_one (s_asg (i := 1) sc_law_store.nd rfl (Or.inl rfl) (d_mod (o_v (v_fz (d_add hG.symm (o_v (v_fz (d_add hG.symm (o_v (v_fz (d_mul hG.symm (o_peek (pv 1)) (o_v v_int)))) (o_v (v_fz (d_mod (o_peek (pv 2)) (o_v v_int))))))) (o_v v_int)))) (o_v v_int)))))
(ss_one (s_ret (d_lst (a_cons (v_fz (d_slice hG.symm (o_peek (pv 0)) p_none (p_some d_int))) (a_cons v_int (a_cons v_int (a_cons (v_var (pv 1)) (a_cons v_int a_nil))))))))))) rd
theorem ok_law (T : Tx P w mg base cs) (Y_law_good : Cal P w cs.K mg base 3 "_law_good" ["store"] (sp_law_good cs)) (Y_law_list_right : Cal P w cs.K mg base 5 "_law_list_right" ["policy"] (sp_law_list_right cs)) (Y_law_right : Cal P w cs.K mg base 4 "_law_right" ["text"] (sp_law_right cs)) (Y_law_rule_lines : Cal P w cs.K mg base 1 "_law_rule_lines" ["policy"] (sp_law_rule_lines cs)) (Y_law_spoilt : Cal P w cs.K mg base 4 "_law_spoilt" ["store", "lines"] (sp_law_spoilt cs)) (Y_law_store : Cal P w cs.K mg base 1 "_law_store" ["script"] (sp_law_store cs)) (Y_read_rule : Cal P w cs.K mg base 3 "read_rule" ["text"] (sp_read_rule cs)) (Y_show_rule : Cal P w cs.K mg base 4 "show_rule" ["rule"] (sp_show_rule cs)) {f : Addr} {fd : FuncData} (F : Fun cs.K "law" "law" s_law f fd) (rd : ∀ ds M Q E, sp_law cs ds M Q E → td_law cs (endsD Q E) (startD ["script", "store", "turn", "policy", "lines", "text", "k", "fixed"] ds) M) : FnOk P w cs.K mg base (L2.CX P w) 6 f fd ["script"] (LSp cs.K (sp_law cs)) :=
  DL.Fun.okD F sc_law (td_law cs) len_law (fun cdv A outer s H E G hG hr => have hu := DL.hu_of hr; (ss_cons (s_asg (i := 1) sc_law.nd rfl (Or.inl rfl) (d_cal Y_law_store hG.symm (hr.mono (by decide)) (by rfl) (takes_of rfl rfl rfl rfl) (a_cons (v_var (pv 0)) a_nil)))
(ss_share 1 (ss_cons (s_for (passes_of rfl) rfl (i_range1 (by rfl) T.n_range (a_cons v_int a_nil)) (g_name sc_law.nd rfl (Or.inl rfl))
(ss_frz 1 (ss_cons (s_asg (i := 3) sc_law.nd rfl (Or.inl rfl) (d_cal Y_law_good hG.symm (hr.mono (by decide)) (by rfl) (takes_of rfl rfl rfl rfl) (a_cons (v_var (pv 1)) a_nil)))
(ss_cons (s_asg (i := 4) sc_law.nd rfl (Or.inl rfl) (d_cal Y_law_rule_lines hG.symm (hr.mono (by decide)) (by rfl) (takes_of rfl rfl rfl rfl) (a_cons (v_var (pv 3)) a_nil)))
(ss_cons (s_asg (i := 5) sc_law.nd rfl (Or.inl rfl) (d_join hG.symm (o_v v_str) (o_peek (pv 4))))
(ss_cons (s_if (w_or (t_ne hG.symm hu (o_v (v_fz (d_cal Y_show_rule hG.symm (hr.mono (by decide)) (by rfl) (takes_of rfl rfl rfl rfl) (a_cons (v_var (pv 3)) a_nil)))) (o_peek (pv 5))) (w_or (t_not (t_val (d_cal Y_law_right hG.symm (hr.mono (by decide)) (by rfl) (takes_of rfl rfl rfl rfl) (a_cons (v_var (pv 5)) a_nil)))) (w_or1 (t_ne hG.symm hu (o_v (v_fz (d_cal Y_read_rule hG.symm (hr.mono (by decide)) (by rfl) (takes_of rfl rfl rfl rfl) (a_cons (v_var (pv 5)) a_nil)))) (o_peek (pv 3)))))).pt
(ss_one (s_ret d_bl))
ss_nil)
(ss_cons (s_for (passes_of rfl) rfl (i_range1 (by rfl) T.n_range (a_cons v_int a_nil)) (g_name sc_law.nd rfl (Or.inl rfl))
(ss_frz 4 (ss_frz 1 (ss_one (s_if (t_not (t_val (d_cal Y_law_right hG.symm (hr.mono (by decide)) (by rfl) (takes_of rfl rfl rfl rfl) (a_cons (v_fz (d_cal Y_law_spoilt hG.symm (hr.mono (by decide)) (by rfl) (takes_of rfl rfl rfl rfl) (a_cons (v_var (pv 1)) (a_cons (v_var (pv 4)) a_nil)))) a_nil))))
(ss_one (s_ret d_bl))
ss_nil)))))
(ss_one (s_if (w_or (t_not (t_val (d_cal Y_law_list_right hG.symm (hr.mono (by decide)) (by rfl) (takes_of rfl rfl rfl rfl) (a_cons (v_fz (d_listOf hG.symm (by rfl) T.n_list (ao_cons (o_peek (pv 3)) ao_nil))) a_nil)))) (w_or1 (t_not (t_val (d_cal Y_law_list_right hG.symm (hr.mono (by decide)) (by rfl) (takes_of rfl rfl rfl rfl) (a_cons (v_fz (d_tup (a_cons (v_fz (d_listOf hG.symm (by rfl) T.n_list (ao_cons (o_v (v_fz (d_ix hG.symm (o_peek (pv 3)) (o_v v_int)))) ao_nil))) (a_cons (v_fz (d_ix hG.symm (o_peek (pv 3)) (o_v v_int))) a_nil)))) a_nil)))))).pt
(ss_one (s_ret d_bl))
ss_nil)))))))))
(ss_cons (s_asg (i := 7) sc_law.nd rfl (Or.inl rfl) (d_lst (a_cons v_str (a_cons v_str (a_cons v_str (a_cons v_str (a_cons v_str (a_cons v_str (a_cons v_str (a_cons v_str a_nil))))))))))
(ss_cons (s_asg (i := 7) sc_law.nd rfl (Or.inl rfl) (d_add hG.symm (o_peek (pv 7)) (o_v (v_fz (d_lst (a_cons (v_fz (d_join hG.symm (o_v v_str) (o_v (v_fz (d_mul hG.symm (o_v (v_fz (d_lst (a_cons v_str a_nil)))) (o_v v_int)))))) (a_cons (v_fz (d_join hG.symm (o_v v_str) (o_v (v_fz (d_add hG.symm (o_v (v_fz (d_mul hG.symm (o_v (v_fz (d_lst (a_cons v_str a_nil)))) (o_v v_int)))) (o_v (v_fz (d_lst (a_cons v_str a_nil))))))))) (a_cons (v_fz (d_join hG.symm (o_v v_str) (o_v (v_fz (d_mul hG.symm (o_v (v_fz (d_lst (a_cons v_str a_nil)))) (o_v v_int)))))) a_nil))))))))
(ss_one (s_ret (d_eq hG.symm hu (o_v (v_fz (d_lc rfl sc_law.nd (i_pk hG.symm (pv 7)) (blkOk_by (own := [(("text" : Str), 5)]) (by rfl)) (by decide) (fun G' hG' s H C cl fp => (g_name sc_law.nd rfl (by first | exact Or.inl rfl | exact Or.inr rfl))) (fun G' hG' s H C cl fp => (ts_one (t_not (t_val (d_cal Y_law_right (hG.symm.trans hG'.symm) (hr.mono (by decide)) (by rfl) takes0 (a_cons (v_var (pv 5)) a_nil)))))) (fun G' hG' s H C cl fp => (v_var (pv 5)))))) (o_v (v_fz (d_lst a_nil)))))))))))) rd
end
end Lw

set_option Elab.async false
set_option linter.all false
set_option maxRecDepth 100000
set_option maxHeartbeats 4000000
namespace Lw
open PySem PySem.Spec PyProof.Rows L2 DL
section
variable {cs : Cs} {M : MH} {Q : Sl → MH → Prop} {E : Addr → List (Str × D) → MH → Prop}
theorem rd_law_mix : ∀ ds M Q E, sp_law_mix cs ds M Q E → td_law_mix cs (endsD Q E) (startD ["number", "turn", "value"] ds) M := rd_mix
theorem store_mono {M : MH} {a : Addr} {n m : Nat} (h : StoreAt M a n) (hm : n ≤ m) : StoreAt M a m := by
  obtain ⟨cs, i, l, x, d, h1, h2, h3, h4, h5⟩ := h
  exact ⟨cs, i, l, x, d, h1, h2, h3, h4, by omega⟩
theorem store_ext {M M' : MH} {a : Addr} {n : Nat} (h : StoreAt M a n) (e : ∀ b o, M b = some o → M' b = some o) : StoreAt M' a n := by
  obtain ⟨cs, i, l, x, d, h1, h2⟩ := h
  exact ⟨cs, i, l, x, d, e _ _ h1, h2⟩
theorem rd_law_pick : ∀ ds M Q E, sp_law_pick cs ds M Q E → td_law_pick cs (endsD Q E) (startD ["store", "count", "cell", "digit"] ds) M := rd_pick
/-- a draw -/
theorem pick_at {a : Addr} {c : Int} {n : Nat} (h : StoreAt M a n) (h1 : 0 < c) (h2 : c < 1073741824) (h3 : n < 2 ^ 62) (k : ∀ r M', 0 ≤ r → r < c → StoreAt M' a (n + 1) → (∀ b, b ≠ a → M' b = M b) → Q (.d (.int r)) M') : sp_law_pick cs [.ref a, .int c] M Q E :=
  ⟨a, c, n, rfl, h, h1, h2, h3, k⟩
theorem Sm.mono {n m : Nat} {v : D} (h : Sm n v) (hm : n ≤ m) : Sm m v := ⟨h.1, by have := h.2; omega⟩
theorem sm_tup {n : Nat} {xs : List D} (h : ∀ x ∈ xs, Sm n x) : Sm (n + 1) (.tup xs) :=
  ⟨by simp only [D.nr]; exact nrs_iff.mpr fun x hx => (h x hx).1, by simp only [D.dp]; have := dps_le.mpr fun x hx => (h x hx).2; omega⟩
theorem sm_lst {n : Nat} {xs : List D} (h : ∀ x ∈ xs, Sm n x) : Sm (n + 1) (.lst xs) :=
  ⟨by simp only [D.nr]; exact nrs_iff.mpr fun x hx => (h x hx).1, by simp only [D.dp]; have := dps_le.mpr fun x hx => (h x hx).2; omega⟩
theorem sm_non {n : Nat} : Sm n .non := ⟨by simp [D.nr], by simp [D.dp]⟩
theorem sm_int {n : Nat} {i : Int} : Sm n (.int i) := ⟨by simp [D.nr], by simp [D.dp]⟩
theorem sm_bl {n : Nat} {i : Bool} : Sm n (.bl i) := ⟨by simp [D.nr], by simp [D.dp]⟩
theorem sm_str {n : Nat} {s : Str} (h : PyData.strOk s = true) : Sm n (.str s) := ⟨by simp [D.nr, h], by simp [D.dp]⟩
theorem sm2 {n : Nat} {a b : D} (h1 : Sm n a) (h2 : Sm n b) : ∀ x ∈ [a, b], Sm n x := by
  intro x hx
  simp at hx
  rcases hx with rfl | rfl <;> assumption
theorem wf_rule {ls : List D} {b : D} (hb : Sm 3 b) (h : ∀ l ∈ ls, WfLevel l) : WfRule (.tup [.tup ls, b]) :=
  ⟨sm_tup fun x hx => by
    simp at hx
    rcases hx with rfl | rfl
    · exact sm_tup fun l hl => (h l hl).1
    · exact hb.mono (by decide), fun ls' b' e => by cases e; exact h⟩
theorem so_qs : PyData.strOk (Str.ofString "queue") = true ∧ PyData.strOk (Str.ofString "stack") = true := by decide +kernel
theorem QuB.sm {n : Nat} {q : D} (h : QuB q) : Sm n q := by
  rcases h with rfl | ⟨i, rfl, _⟩
  · exact sm_non
  · exact sm_int
theorem LevB.wf {l : D} (h : LevB l) : WfLevel l := by
  obtain ⟨k, q, rfl, hk, hq⟩ := h
  refine ⟨sm_tup (n := 3) (sm2 (sm_str ?_) hq.sm), fun a b e => by cases e; rfl⟩
  rcases hk with rfl | rfl
  · exact so_qs.1
  · exact so_qs.2
theorem LevB.lev {l : D} (h : LevB l) : isLevelD l = true := by
  obtain ⟨k, q, rfl, hk, hq⟩ := h
  have e : isLevelD (.tup [.str k, q]) = ((D.eq (.str "queue") (.str k) || D.eq (.str "stack") (.str k)) && (DL.isNon q || isIntD q 1)) := rfl
  rw [e, eq_ss, eq_ss]
  have h1 : (DL.isNon q || isIntD q 1) = true := by
    rcases hq with rfl | ⟨i, rfl, hi, _⟩
    · rfl
    · simp [isIntD, hi]
  rw [h1, Bool.and_true]
  rcases hk with rfl | rfl <;> simp
theorem RuleB.wf {v : D} (h : RuleB v) : WfRule v := by
  obtain ⟨ls, b, rfl, _, _, hl, hb⟩ := h
  exact wf_rule hb.sm fun l hl' => (hl l hl').wf
theorem firstBad_none : ∀ {ls : List D} {k : Nat}, (∀ l ∈ ls, isLevelD l = true) → firstBad ls k = none
  | [], _, _ => rfl
  | l :: r, k, h => by
    have e : firstBad (l :: r) k = if isLevelD l = true then firstBad r (k + 1) else some k := rfl
    rw [e, if_pos (h l (List.mem_cons_self ..))]
    exact firstBad_none fun l hl => h l (List.mem_cons_of_mem _ hl)
theorem faultR_eq {ls : List D} {b : D} : faultR (.tup [.tup ls, b]) = if 1 ≤ ls.length ∧ ls.length ≤ 6 then (match firstBad ls 0 with
      | some i => .int i
      | none => if (DL.isNon b || isIntD b 1) = true then .non else .int ls.length) else .int 0 := rfl
theorem RuleB.ok {v : D} (h : RuleB v) : faultR v = .non := by
  obtain ⟨ls, b, rfl, h1, h2, hl, hb⟩ := h
  rw [faultR_eq, if_pos ⟨h1, h2⟩, firstBad_none fun l h => (hl l h).lev]
  rcases hb with rfl | ⟨i, rfl, hi, _⟩
  · rfl
  · simp [isIntD, hi]
theorem wf_parts {ls : List D} {b : D} (h : WfRule (.tup [.tup ls, b])) : (∀ l ∈ ls, WfLevel l) ∧ b.nr = true := by
  refine ⟨h.2 ls b rfl, ?_⟩
  have := h.1.1
  simp [D.nr, D.nrs] at this
  exact this.2
theorem lp_good {a : Addr} {num : List D} {n0 : Nat} {M0 : MH} {E0 : DEnds} (hnum : ∀ d ∈ num, QuB d) (hl : num.length = 4) (hn : n0 < 2 ^ 51) : ∀ (xs : List D) (ls : List D) (o3 : Option Sl) (M : MH) (d : Nat), StoreAt M a (n0 + d) → d + 2 * xs.length ≤ 12 → ls.length + xs.length ≤ 6 → (∀ l ∈ ls, LevB l) → (∀ b, b ≠ a → M b = M0 b) →
    (∀ ls' o3 M', ls'.length = ls.length + xs.length → (∀ l ∈ ls', LevB l) → StoreAt M' a (n0 + 12) → (∀ b, b ≠ a → M' b = M0 b) → E0.nx [some (.d (.ref a)), some (.own num), some (.own ls'), o3] M') →
    forD (gN 3) (td_law_good_B3 cs) E0 xs [some (.d (.ref a)), some (.own num), some (.own ls), o3] M
  | [], ls, o3, M, d, hs, hd, hc, hw, hf, k => by simpa using k ls o3 M rfl hw (store_mono hs (by omega)) hf
  | x :: r, ls, o3, M, d, hs, hd, hc, hw, hf, k => by
    have szl := sizeLine_eq
    simp only [List.length_cons] at hd hc
    simp [↓u_law_good_B3]
    refine ⟨a, 2, n0 + d, rfl, hs, by decide, by decide, by omega, fun i M1 i0 i1 hs1 fr1 => ?_⟩
    try simp
    refine ixI_mem i0 (by simpa using i1) fun y hy => ?_
    refine ⟨a, 4, n0 + d + 1, rfl, hs1, by decide, by decide, by omega, fun j M2 j0 j1 hs2 fr2 => ?_⟩
    try simp
    refine ixI_mem j0 (by rw [hl]; exact j1) fun z hz => ?_
    have hz := hnum z hz
    have hL : LevB (.tup [y, z]) := by
      simp at hy
      rcases hy with rfl | rfl
      · exact ⟨_, z, rfl, .inl rfl, hz⟩
      · exact ⟨_, z, rfl, .inr rfl, hz⟩
    try simp
    refine ⟨by omega, lp_good hnum hl hn r (ls ++ [.tup [y, z]]) _ M2 (d + 2) hs2 (by omega) (by simp; omega) (fun l h => ?_) (fun b hb => by rw [fr2 b hb, fr1 b hb, hf b hb]) fun ls' o3 M' e1 e2 e3 e4 => k ls' o3 M' (by simp at e1 ⊢; omega) e2 e3 e4⟩
    rcases List.mem_append.mp h with h | h
    · exact hw l h
    · simp at h
      subst h
      exact hL
theorem rd_law_good : ∀ ds M Q E, sp_law_good cs ds M Q E → td_law_good cs (endsD Q E) (startD ["store", "numbers", "levels", "k"] ds) M := by
  rintro ds M Q E ⟨a, n, rfl, hs, hn, k⟩
  show td_law_good cs (endsD Q E) [some (.d (.ref a)), none, none, none] M
  have p30 : CPow 10 30 := by unfold CPow; decide
  simp [td_law_good]
  refine ⟨a, 9, n, rfl, hs, by decide, by decide, by omega, fun q M1 q0 q1 hs1 fr1 => ?_⟩
  simp [↓u_law_good_L3, p30]
  refine ⟨a, 6, n + 1, rfl, hs1, by decide, by decide, by omega, fun c M2 c0 c1 hs2 fr2 => ?_⟩
  try simp
  refine ⟨by omega, by omega, ?_⟩
  have hnum : ∀ d ∈ [D.non, D.int 1, D.int (1 + q), D.int 1000000000000000000000000000000], QuB d := by
    intro d hd
    simp at hd
    rcases hd with rfl | rfl | rfl | rfl
    · exact .inl rfl
    · exact .inr ⟨1, rfl, by decide, by decide⟩
    · exact .inr ⟨1 + q, rfl, by omega, by omega⟩
    · exact .inr ⟨_, rfl, by decide, by decide⟩
  refine lp_good (n0 := n + 1 + 1) (M0 := M) hnum rfl (by omega) _ [] _ M2 0 hs2 (by rw [rgD_len]; omega) (by rw [rgD_len]; simp; omega) (fun l hl => by cases hl) (fun b hb => by rw [fr2 b hb, fr1 b hb]) fun ls o3 M3 h1 h2 hs3 fr3 => ?_
  simp [↓u_law_good_R3]
  refine ⟨a, 4, n + 1 + 1 + 12, rfl, hs3, by decide, by decide, by omega, fun j M4 j0 j1 hs4 fr4 => ?_⟩
  try simp
  refine ixI_mem j0 j1 fun z hz => ?_
  rw [rgD_len] at h1
  simp at h1
  exact k _ M4 ⟨ls, z, rfl, by omega, by omega, h2, hnum z hz⟩ (store_mono hs4 (by omega)) fun b hb => by rw [fr4 b hb, fr3 b hb]
theorem rd_law_kind : ∀ ds M Q E, sp_law_kind cs ds M Q E → td_law_kind cs (endsD Q E) (startD ["caught", "kinds", "at"] ds) M := rd_kind
theorem rd_is_integer : ∀ ds M Q E, sp_is_integer cs ds M Q E → td_is_integer cs (endsD Q E) (startD ["value", "least"] ds) M := by
  rintro ds M Q E ⟨v, l, rfl, hn, k⟩
  show td_is_integer cs (endsD Q E) [some (.d v), some (.d (.int l))] M
  cases v with
  | int i => simpa [td_is_integer, isIntD] using k
  | ref a => simp [D.nr] at hn
  | lsk a => simp [D.nr] at hn
  | _ => simpa [td_is_integer, isIntD] using k
end
end Lw

set_option Elab.async false
set_option linter.all false
set_option maxRecDepth 100000
set_option maxHeartbeats 4000000
namespace Lw
open PySem PySem.Spec PyProof.Rows L2 DL
section
variable {cs : Cs} {M : MH} {Q : Sl → MH → Prop} {E : Addr → List (Str × D) → MH → Prop}
theorem rd_is_level : ∀ ds M Q E, sp_is_level cs ds M Q E → td_is_level cs (endsD Q E) (startD ["level"] ds) M := by
  rintro ds M Q E ⟨v, rfl, ⟨hs, hf⟩, k⟩
  show td_is_level cs (endsD Q E) [some (.d v)] M
  cases v with
  | tup xs =>
    match xs with
    | [a, b] =>
      have ha := hf a b rfl
      have hb : b.nr = true := by have := hs.1; simp [D.nr, D.nrs] at this; exact this.2
      have fin : ∀ a, isLevelD (.tup [a, b]) = ((D.eq (.str "queue") a || D.eq (.str "stack") a) && (isNon b || isIntD b 1)) := fun _ => rfl
      rw [fin] at k
      cases a with
      | str z =>
        simp [td_is_level, ↓sp_is_integer_eq, hb]
        cases h1 : D.eq (.str "queue") (.str z) <;> cases h2 : D.eq (.str "stack") (.str z) <;> cases h3 : isNon b <;> simp_all
      | tup _ => cases ha
      | lst _ => cases ha
      | ref _ => cases ha
      | lsk _ => cases ha
      | _ =>
        rw [DL.eq_str (fun _ h => by cases h), DL.eq_str (fun _ h => by cases h)] at k
        simpa [td_is_level, ↓sp_is_integer_eq, hb] using k
    | [] => simpa [td_is_level, isLevelD] using k
    | [a] => simpa [td_is_level, isLevelD] using k
    | a :: b :: c :: r =>
      have : ¬ ((r.length : Int) + 1 + 1 + 1 = 2) := by omega
      simpa [td_is_level, isLevelD, this] using k
  | ref a => have := hs.1; simp [D.nr] at this
  | lsk a => have := hs.1; simp [D.nr] at this
  | _ => simpa [td_is_level, isLevelD] using k
theorem firstBad_lt : ∀ (ls : List D) (k i : Nat), firstBad ls k = some i → i < k + ls.length
  | [], _, _, h => by cases h
  | x :: r, k, i, h => by
    unfold firstBad at h
    split at h
    · have := firstBad_lt r (k + 1) i h
      simp only [List.length_cons]
      omega
    · cases h
      simp only [List.length_cons]
      omega
theorem log_six {n : Nat} (h : n ≤ 6) : (n : Int).natAbs.log2 < 1920 := by
  rw [Int.natAbs_natCast]
  exact Nat.lt_of_le_of_lt (Nat.log2_le_self n) (by omega)
theorem lp_crule {E0 : DEnds} {v l b : Option Sl} : ∀ (ls : List D) (k : Nat) (o1 o2 : Option Sl), k + ls.length ≤ 6 → (∀ l ∈ ls, WfLevel l) → (firstBad ls k = none → ∀ o1 o2, E0.nx [v, l, b, o1, o2] M) → (∀ i : Nat, firstBad ls k = some i → ∀ δ, E0.ex cs.c_NoRule [("place", .int i)] δ M) →
    forD (gTupD 2 (gConsD (gN 3) (gConsD (gN 4) gNilD))) (td_check_rule_B6 cs) E0 (enF k ls) [v, l, b, o1, o2] M
  | [], k, o1, o2, hk, hw, h1, h2 => by simpa using h1 rfl o1 o2
  | x :: r, k, o1, o2, hk, hw, h1, h2 => by
    have hx := hw x (List.mem_cons_self ..)
    simp only [List.length_cons] at hk
    simp [↓u_check_rule_B6, ↓sp_is_level_eq, hx]
    unfold firstBad at h1 h2
    cases h : isLevelD x with
    | true =>
      rw [h, if_pos rfl] at h1 h2
      simpa using lp_crule r (k + 1) _ _ (by omega) (fun l hl => hw l (List.mem_cons_of_mem _ hl)) h1 h2
    | false =>
      rw [h, if_neg (by decide)] at h2
      have hl : (Nat.log2 k) < 1920 := by have := log_six (n := k) (by omega); simpa using this
      simpa [hl] using h2 k rfl _
theorem rd_check_rule : ∀ ds M Q E, sp_check_rule cs ds M Q E → td_check_rule cs (endsD Q E) (startD ["rule", "levels", "boost", "place", "level"] ds) M := by
  rintro ds M Q E ⟨v, rfl, hw, k1, k2⟩
  show td_check_rule cs (endsD Q E) [some (.d v), none, none, none, none] M
  cases v with
  | tup xs =>
    match xs with
    | [.tup ls, b] =>
      obtain ⟨hl, hb⟩ := wf_parts hw
      rw [faultR_eq] at k1 k2
      by_cases c : 1 ≤ ls.length ∧ ls.length ≤ 6
      · rw [if_pos c] at k1 k2
        have c1 : (1 : Int) ≤ ls.length := by omega
        have c2 : (ls.length : Int) ≤ 6 := by omega
        simp [td_check_rule, c1, c2, ↓u_check_rule_L6, enD_enF]
        refine lp_crule ls 0 _ _ (by omega) hl (fun h o1 o2 => ?_) fun i h δ => ?_
        · rw [h] at k1 k2
          have hlog : (Nat.log2 ls.length) < 1920 := by have := log_six (n := ls.length) (by omega); simpa using this
          simp [↓u_check_rule_R6, ↓sp_is_integer_eq, hb, hlog]
          have k2 := k2 ls.length
          cases h1 : isNon b <;> cases h2 : isIntD b 1 <;> simp_all
        · rw [h] at k2
          have := firstBad_lt ls 0 i h
          exact k2 i rfl (by omega) (by omega)
      · rw [if_neg c] at k1 k2
        have k2 := k2 0 rfl (by decide) (by decide)
        have l0 : Nat.log2 0 < 1920 := by decide
        by_cases c1 : (1 : Int) ≤ ls.length
        · have c2 : ¬ (ls.length : Int) ≤ 6 := by omega
          simpa [td_check_rule, c1, c2, l0] using k2
        · simpa [td_check_rule, c1, l0] using k2
    | [.non, b] => simpa [td_check_rule] using k2 0 rfl (by decide) (by decide)
    | [.int _, b] => simpa [td_check_rule] using k2 0 rfl (by decide) (by decide)
    | [.bl _, b] => simpa [td_check_rule] using k2 0 rfl (by decide) (by decide)
    | [.str _, b] => simpa [td_check_rule] using k2 0 rfl (by decide) (by decide)
    | [.lst _, b] => simpa [td_check_rule] using k2 0 rfl (by decide) (by decide)
    | [.ref _, b] => have := hw.1.1; simp [D.nr, D.nrs] at this
    | [.lsk _, b] => have := hw.1.1; simp [D.nr, D.nrs] at this
    | [] => simpa [td_check_rule] using k2 0 rfl (by decide) (by decide)
    | [a] => simpa [td_check_rule] using k2 0 (by cases a <;> rfl) (by decide) (by decide)
    | a :: b :: c :: r =>
      have : ¬ ((r.length : Int) + 1 + 1 + 1 = 2) := by omega
      have e : faultR (.tup (a :: b :: c :: r)) = .int 0 := by cases a <;> rfl
      simpa [td_check_rule, this] using k2 0 e (by decide) (by decide)
  | ref a => have := hw.1.1; simp [D.nr] at this
  | lsk a => have := hw.1.1; simp [D.nr] at this
  | _ => simpa [td_check_rule] using k2 0 rfl (by decide) (by decide)
end
end Lw

set_option Elab.async false
set_option linter.all false
set_option maxRecDepth 100000
set_option maxHeartbeats 4000000
namespace Lw
open PySem PySem.Spec PyProof.Rows L2 DL
section
variable {cs : Cs} {M : MH} {Q : Sl → MH → Prop} {E : Addr → List (Str × D) → MH → Prop}
theorem lets_tx : Str.ofString "abcdefghijklmnopqrstuvwxyz" = tx lets := by decide +kernel
theorem so_at : PyData.strOk (Str.ofString "at") = true := by decide +kernel
theorem so_after : PyData.strOk (Str.ofString "after") = true := by decide +kernel
theorem ne_aft : Str.ofString "after" ≠ Str.ofString "at" := by decide +kernel
theorem befA_eq {k : Str} {m n : Int} : befA (.tup [.str k, .int m]) n = (decide (k = "at") || decide (m < n)) := by
  show (!(!decide (k = "at")) || decide (m < n)) = _
  rw [Bool.not_not]
theorem isArrD_eq {s : Str} {b : D} : isArrD (.tup [.str s, b]) = if s = "at" then isIntD b 0 else decide (s = "after") && isIntD b 1 := rfl
theorem isNameD_eq {s : Str} : isNameD (.str s) = (decide (1 ≤ s.length ∧ s.length ≤ 8) && s.cps.toList.all fun c => decide (c ∈ lets)) := rfl
/-- a sign of a text -/
def chD : D → Nat
  | .str s => s.cps.toList.headD 0
  | _ => 0
theorem mem_sgD {s : Str} {x : D} (h : x ∈ sgD s) : ∃ c, c ∈ s.cps.toList ∧ x = .str ⟨#[c]⟩ := by
  obtain ⟨c, hc, e⟩ := List.mem_map.mp h
  exact ⟨c, hc, e.symm⟩
theorem sgD_len {s : Str} : (sgD s).length = s.length := by simp [sgD, Str.length]
theorem bad_signs {s : Str} (h : PyData.strOk s = true) : D.Ok (.lst (([] : List D) ++ ((sgD s).filter fun d => !decide (chD d ∈ lets)).map fun d => d)) ∧
    (([] : List D) ++ ((sgD s).filter fun d => !decide (chD d ∈ lets)).map fun d => d).isEmpty = s.cps.toList.all fun c => decide (c ∈ lets) := by
  refine ⟨ok_flatL fun x hx => ?_, ?_⟩
  · simp only [List.nil_append, List.map_id'] at hx
    obtain ⟨c, hc, rfl⟩ := mem_sgD (List.mem_filter.mp hx).1
    refine ⟨rfl, ?_⟩
    have h' : ∀ c ∈ s.cps.toList, c < 0x110000 := by
      have h0 : (s.cps.all fun c => decide (c < 0x110000)) = true := h
      rw [← Array.all_toList] at h0
      intro c hc
      simpa using List.all_eq_true.mp h0 c hc
    simp only [D.nr, PyData.strOk]
    simpa using h' c hc
  · simp only [List.nil_append, List.map_id']
    rw [Bool.eq_iff_iff, List.isEmpty_iff, List.filter_eq_nil_iff, List.all_eq_true]
    constructor
    · intro h c hc
      have := h (.str ⟨#[c]⟩) (List.mem_map.mpr ⟨c, hc, rfl⟩)
      simpa [chD] using this
    · intro h d hd
      obtain ⟨c, hc, rfl⟩ := mem_sgD hd
      simpa [chD] using h c hc
theorem name_parts {v : D} (h : isNameD v = true) : ∃ s, v = .str s ∧ (1 ≤ s.length ∧ s.length ≤ 8) ∧ ∀ c ∈ s.cps.toList, c ∈ lets := by
  cases v with
  | str s =>
    rw [isNameD_eq, Bool.and_eq_true] at h
    exact ⟨s, rfl, of_decide_eq_true h.1, fun c hc => by simpa using List.all_eq_true.mp h.2 c hc⟩
  | _ => cases h
theorem int_parts {v : D} {l : Int} (h : isIntD v l = true) : ∃ i, v = .int i ∧ l ≤ i := by
  cases v with
  | int i => exact ⟨i, rfl, of_decide_eq_true h⟩
  | _ => cases h
theorem arr_parts {v : D} (h : isArrD v = true) : ∃ k m, v = .tup [.str k, .int m] ∧ PyData.strOk k = true ∧ (k = "at" ∧ 0 ≤ m ∨ k = "after" ∧ 1 ≤ m) := by
  unfold isArrD at h
  split at h
  · rename_i k x
    split at h
    · rename_i e
      obtain ⟨i, rfl, hi⟩ := int_parts h
      exact ⟨k, i, rfl, by rw [e]; exact so_at, .inl ⟨e, hi⟩⟩
    · rw [Bool.and_eq_true] at h
      obtain ⟨i, rfl, hi⟩ := int_parts h.2
      have e := of_decide_eq_true h.1
      exact ⟨k, i, rfl, by rw [e]; exact so_after, .inr ⟨e, hi⟩⟩
  · cases h
theorem job_parts {v : D} (h : isJobD v = true) : ∃ s k m i, v = .tup [.str s, .tup [.str k, .int m], .int i] ∧ isNameD (.str s) = true ∧ PyData.strOk k = true ∧ (k = "at" ∧ 0 ≤ m ∨ k = "after" ∧ 1 ≤ m) ∧ 0 ≤ i ∧ i ≤ 9 := by
  unfold isJobD at h
  split at h
  · rename_i n a e
    rw [Bool.and_eq_true, Bool.and_eq_true] at h
    obtain ⟨s, rfl, _⟩ := name_parts h.1.1
    obtain ⟨k, m, rfl, hk, hm⟩ := arr_parts h.1.2
    have h2 := h.2
    cases e with
    | int i =>
      have h3 : (decide (0 ≤ i) && decide (i ≤ 9)) = true := h2
      rw [Bool.and_eq_true] at h3
      exact ⟨s, k, m, i, rfl, h.1.1, hk, hm, of_decide_eq_true h3.1, of_decide_eq_true h3.2⟩
    | _ => cases h2
  · cases h
theorem name_ok {s : Str} (h : isNameD (.str s) = true) : PyData.strOk s = true ∧ s.length ≤ 8 := by
  obtain ⟨s', e, hl, hc⟩ := name_parts h
  cases e
  refine ⟨?_, hl.2⟩
  have h0 : (s.cps.all fun c => decide (c < 0x110000)) = true := by
    rw [← Array.all_toList, List.all_eq_true]
    intro c h
    have := hc c h
    have := List.mem_range'.mp this
    obtain ⟨i, hi, rfl⟩ := this
    exact decide_eq_true (by omega)
  exact h0
theorem job_fit {v : D} (h : isJobD v = true) : v.fit = true ∧ FlatA v ∧ v.dp ≤ 2 := by
  obtain ⟨s, k, m, i, rfl, hn, hk, hm, _⟩ := job_parts h
  obtain ⟨h1, h2⟩ := name_ok hn
  have hl : k.length ≤ 1000 := by rcases hm with ⟨rfl, _⟩ | ⟨rfl, _⟩ <;> decide +kernel
  refine ⟨?_, fun n x y e he => ?_, by simp [D.dp, D.dps]⟩
  · simp [D.fit, D.fits, h1, hk, hl]
    omega
  · cases he
    rfl
theorem f1_cons {j : D} {r seen : List D} {i : Nat} : f1 (j :: r) seen i = if (isJobD j && !(seen.any fun z => D.eq z (fstD j))) = true then f1 r (seen ++ [fstD j]) (i + 1) else some i := rfl
theorem f2_cons {j : D} {r all : List D} {i : Nat} : f2 (j :: r) all i = if (aftA (arrD j) && decide ((cntB all (numA (arrD j)) : Int) < numA (arrD j))) = true then some i else f2 r all (i + 1) := rfl
theorem fst_job {v : D} (h : isJobD v = true) : ∃ s r, v = .tup (.str s :: r) ∧ fstD v = .str s ∧ PyData.strOk s = true := by
  obtain ⟨s, k, m, i, rfl, hn, _⟩ := job_parts h
  exact ⟨s, _, rfl, rfl, (name_ok hn).1⟩
theorem cnt_len {all : List D} {n : Int} : (([] : List D) ++ (all.filter fun j => befA (arrD j) n).map fun d => d).length = cntB all n := by
  rw [List.nil_append, List.map_id', cntB, List.countP_eq_length_filter]
theorem f1_none : ∀ (r seen : List D) (i : Nat), f1 r seen i = none → ∀ j ∈ r, isJobD j = true
  | [], _, _, _, j, hj => by cases hj
  | x :: r, seen, i, h, j, hj => by
    rw [f1_cons] at h
    split at h
    · rename_i hc
      rw [Bool.and_eq_true] at hc
      rcases List.mem_cons.mp hj with rfl | hj
      · exact hc.1
      · exact f1_none r _ _ h j hj
    · cases h
theorem faultJ_tup {js : List D} : faultJ (.tup js) = match f1 js [] 0 with
    | some i => .int i
    | none => match f2 js js 0 with
      | some i => .int i
      | none => .non := rfl
theorem valid_fit {js : List D} (h : ∀ j ∈ js, isJobD j = true) : D.fit (.tup js) = true := fit_tup.mpr fun j hj => (job_fit (h j hj)).1
theorem valid_wf {js : List D} (h : ∀ j ∈ js, isJobD j = true) (hl : js.length ≤ 1000) : WfJ (.tup js) := ⟨valid_fit h, fun js' e => by cases e; exact ⟨hl, fun j hj => (job_fit (h j hj)).2.1⟩⟩
theorem fault_cases (v : D) : faultJ v = .non ∨ ∃ k : Int, faultJ v = .int k := by
  unfold faultJ
  split
  · split
    · exact .inr ⟨_, rfl⟩
    · split
      · exact .inr ⟨_, rfl⟩
      · exact .inl rfl
  · exact .inr ⟨_, rfl⟩
theorem fault_tup {v : D} (h : faultJ v = .non) : ∃ js, v = .tup js ∧ JobsOk js := by
  cases v with
  | tup js =>
    rw [faultJ_tup] at h
    cases h1 : f1 js [] 0 with
    | some i => rw [h1] at h; cases h
    | none =>
      rw [h1] at h
      cases h2 : f2 js js 0 with
      | some i => rw [h2] at h; cases h
      | none => exact ⟨js, rfl, f1_none _ _ _ h1, h1, h2⟩
  | _ => cases h
theorem strOk_cps {s : Str} : PyData.strOk s = true ↔ ∀ c ∈ s.cps.toList, c < 0x110000 := by
  have h : PyData.strOk s = (s.cps.all fun c => decide (c < 0x110000)) := rfl
  rw [h, ← Array.all_toList, List.all_eq_true]
  exact ⟨fun h c hc => of_decide_eq_true (h c hc), fun h c hc => decide_eq_true (h c hc)⟩
theorem app_cps {a b : Str} : (a ++ b).cps.toList = a.cps.toList ++ b.cps.toList := by
  show (a.cps ++ b.cps).toList = _
  simp
theorem app_len {a b : Str} : (a ++ b).length = a.length + b.length := by
  show (a.cps ++ b.cps).size = _
  simp [Str.length]
theorem strOk_app {a b : Str} (h1 : PyData.strOk a = true) (h2 : PyData.strOk b = true) : PyData.strOk (a ++ b) = true := by
  rw [strOk_cps, app_cps]
  intro c hc
  rcases List.mem_append.mp hc with h | h
  · exact strOk_cps.mp h1 c h
  · exact strOk_cps.mp h2 c h
theorem cut_cps {a : Str} {lo hi : Option Int} : (cutS a lo hi).cps.toList = cutA a.cps.toList lo hi := by
  unfold cutS cutA
  simp [Str.length]
theorem strOk_cut {a : Str} {lo hi : Option Int} (h : PyData.strOk a = true) : PyData.strOk (cutS a lo hi) = true := by
  rw [strOk_cps, cut_cps]
  exact fun c hc => strOk_cps.mp h c (cutA_mem hc)
theorem cut_len {a : Str} {lo hi : Option Int} : (cutS a lo hi).length ≤ a.length := by
  have e : ∀ s : Str, s.length = s.cps.toList.length := fun s => by simp [Str.length]
  rw [e, e, cut_cps]
  exact cutA_len
theorem strOk_one {c : Nat} (h : c < 0x110000) : PyData.strOk ⟨#[c]⟩ = true := by
  rw [strOk_cps]
  intro d hd
  simp at hd
  omega
/-- a comprehension over all items -/
theorem lcD_map {g : DG} {te : DX} {vs : List Nat} {δ : DS} {Z : List D → MH → Prop} (f : D → D) {xs : List D} (h : ∀ x ∈ xs, ∀ Y : D → MH → Prop, Y (f x) M → wpK δ vs fun δ0 => g x δ0 M fun δ2 M2 => te δ2 M2 Y NoX)
    (hl : xs.length ≤ 16777216) (q : Z (xs.map f) M) : lcD g tdYes te vs δ Z xs [] M := by
  refine lcD_pure (fun _ => true) f xs [] (fun x hx Y N z => ?_) (by simpa using hl) (by rw [List.filter_eq_self.mpr fun _ _ => rfl]; simpa using q)
  rw [if_pos rfl] at z
  simpa using h x hx Y z
/-- a comprehension of ints -/
theorem lcD_ints {g : DG} {te : DX} {vs : List Nat} {δ : DS} {Z : List D → MH → Prop} (f : D → Int) {xs : List D} (h : ∀ x ∈ xs, ∀ Y : D → MH → Prop, Y (.int (f x)) M → wpK δ vs fun δ0 => g x δ0 M fun δ2 M2 => te δ2 M2 Y NoX)
    (hl : xs.length ≤ 16777216) (q : ∀ ms : List Int, ms.length = xs.length → ms = xs.map f → Z (ms.map D.int) M) : lcD g tdYes te vs δ Z xs [] M := by
  refine lcD_map (fun x => .int (f x)) h hl ?_
  have := q (xs.map f) (by simp) rfl
  rw [List.map_map] at this
  exact this
def toI : D → Int
  | .int i => i
  | _ => 0
theorem digs_tx : Str.ofString "0123456789" = tx digs := by decide +kernel
theorem so_0 : PyData.strOk (Str.ofString "0") = true := by decide +kernel
theorem so_entry : PyData.strOk (Str.ofString "entry") = true := by decide +kernel
theorem so_nil : PyData.strOk (Str.ofString "") = true := by decide +kernel
theorem mem_digs {c : Nat} : c ∈ digs ↔ 48 ≤ c ∧ c ≤ 57 := by
  unfold digs
  rw [List.mem_range'_1]
  omega
theorem numB_parts {w : Str} (h : numB w = true) : (1 ≤ w.length ∧ w.length ≤ 31) ∧ NumText.AllDigits w.cps.toList ∧ w.cps.toList ≠ [] := by
  unfold numB at h
  rw [Bool.and_eq_true, Bool.and_eq_true] at h
  have h1 := of_decide_eq_true h.1
  refine ⟨h1, fun c hc => mem_digs.mp (of_decide_eq_true (List.all_eq_true.mp h.2.1 c hc)), fun e => ?_⟩
  have : w.length = w.cps.toList.length := by simp [Str.length]
  rw [e] at this
  simp at this
  omega
theorem numD_int {w : Str} (h : numB w = true) : PySem.intText? w = some ((NumText.digitsVal w.cps.toList : Nat) : Int) := by
  obtain ⟨h1, h2, h3⟩ := numB_parts h
  exact intText_digits h2 h3 (by omega)
theorem log_small {m : Int} (h0 : 0 ≤ m) (h : m < 10 ^ 31) : m.natAbs.log2 < 1920 := by
  by_cases hz : m.natAbs = 0
  · rw [hz]; decide
  · rw [Nat.log2_lt hz]
    have h1 : m.natAbs < 10 ^ 31 := by omega
    have h2 : (10 : Nat) ^ 31 ≤ 2 ^ 1920 := by decide +kernel
    omega
theorem numI_tl {m : Int} (h : 0 ≤ m) : (numI m).cps.toList = TL.numL m.toNat := by
  have e : m = ((m.toNat : Nat) : Int) := by omega
  have := TL.tl_num m.toNat
  rw [← e] at this
  exact this
theorem numI_len {m : Int} (h : 0 ≤ m) (h1 : m < 10 ^ 31) : 1 ≤ (numI m).length ∧ (numI m).length ≤ 31 := by
  have e : (numI m).length = (TL.numL m.toNat).length := by rw [← numI_tl h]; simp [Str.length]
  rw [e]
  refine ⟨?_, TL.numL_len (by decide) (by omega)⟩
  have := TL.numL_ne m.toNat
  exact Nat.pos_of_ne_zero fun z => this (List.length_eq_zero_iff.mp z)
theorem numL_head {n : Nat} (h : 0 < n) : ∃ c r, TL.numL n = c :: r ∧ c ≠ 48 := by
  induction n using Nat.strongRecOn with
  | _ n ih =>
    by_cases h9 : n < 10
    · exact ⟨48 + n, [], TL.numL_lt h9, by omega⟩
    · obtain ⟨c, r, e, hc⟩ := ih (n / 10) (by omega) (by omega)
      exact ⟨c, r ++ [48 + n % 10], by rw [TL.numL_step (by omega), e]; rfl, hc⟩
/-- reading a written number -/
theorem numD_numI {m : Int} (h : 0 ≤ m) (h1 : m < 10 ^ 31) : numD (numI m) = .int m := by
  have hl := numI_len h h1
  have hd := numI_tl h
  have hb : numB (numI m) = true := by
    unfold numB
    rw [Bool.and_eq_true, Bool.and_eq_true]
    refine ⟨decide_eq_true hl, ?_, ?_⟩
    · rw [hd, List.all_eq_true]
      intro c hc
      exact decide_eq_true (mem_digs.mpr (TL.numL_digits _ c hc))
    · rw [hd]
      by_cases hz : m = 0
      · subst hz
        have : numI 0 = "0" := by decide +kernel
        simp [this]
      · obtain ⟨c, r, e, hc⟩ := numL_head (n := m.toNat) (by omega)
        rw [e]
        simp [hc]
  unfold numD
  rw [if_pos hb, hd, TL.numL_val]
  congr 1
  omega
theorem numI_strOk {m : Int} (h : 0 ≤ m) : PyData.strOk (numI m) = true := by
  rw [strOk_cps, numI_tl h]
  intro c hc
  have := TL.numL_digits _ c hc
  omega
/-! parts of a text -/
theorem spl_mem {S : List Nat} : ∀ (l : List Nat) (k : Nat) (acc : List Nat), ∀ p ∈ TL.spl S k acc l, ∀ c ∈ p, c ∈ acc ∨ c ∈ l
  | [], k, acc, p, hp, c, hc => by
    rw [TL.spl_nil] at hp
    simp at hp
    subst hp
    exact .inl hc
  | x :: r, k, acc, p, hp, c, hc => by
    cases k with
    | zero =>
      cases hpre : TL.pre S (x :: r) with
      | true =>
        rw [TL.spl_hit hpre] at hp
        rcases List.mem_cons.mp hp with rfl | hp
        · exact .inl hc
        · rcases spl_mem r _ _ p hp c hc with h | h
          · cases h
          · exact .inr (List.mem_cons_of_mem _ h)
      | false =>
        rw [TL.spl_miss hpre] at hp
        rcases spl_mem r _ _ p hp c hc with h | h
        · rcases List.mem_append.mp h with h | h
          · exact .inl h
          · simp at h; exact .inr (by simp [h])
        · exact .inr (List.mem_cons_of_mem _ h)
    | succ k =>
      have hp' : p ∈ TL.spl S k acc r := hp
      rcases spl_mem r k acc p hp' c hc with h | h
      · exact .inl h
      · exact .inr (List.mem_cons_of_mem _ h)
theorem spl_len {S : List Nat} : ∀ (l : List Nat) (k : Nat) (acc : List Nat), (TL.spl S k acc l).length ≤ l.length + 1
  | [], k, acc => by rw [TL.spl_nil]; simp
  | x :: r, k, acc => by
    cases k with
    | zero =>
      cases hpre : TL.pre S (x :: r) with
      | true =>
        rw [TL.spl_hit hpre]
        have := spl_len (S := S) r (S.length - 1) []
        simp only [List.length_cons]
        omega
      | false =>
        rw [TL.spl_miss hpre]
        have := spl_len (S := S) r 0 (acc ++ [x])
        simp only [List.length_cons]
        omega
    | succ k =>
      have : (TL.spl S k acc r).length ≤ r.length + 1 := spl_len r k acc
      show (TL.spl S k acc r).length ≤ _
      simp only [List.length_cons]
      omega
theorem spl_part_len {S : List Nat} : ∀ (l : List Nat) (k : Nat) (acc : List Nat), ∀ p ∈ TL.spl S k acc l, p.length ≤ acc.length + l.length
  | [], k, acc, p, hp => by
    rw [TL.spl_nil] at hp
    simp at hp
    subst hp
    omega
  | x :: r, k, acc, p, hp => by
    cases k with
    | zero =>
      cases hpre : TL.pre S (x :: r) with
      | true =>
        rw [TL.spl_hit hpre] at hp
        rcases List.mem_cons.mp hp with rfl | hp
        · omega
        · have := spl_part_len r _ _ p hp
          simp only [List.length_cons, List.length_nil] at this ⊢
          omega
      | false =>
        rw [TL.spl_miss hpre] at hp
        have := spl_part_len r _ _ p hp
        simp only [List.length_cons, List.length_append, List.length_nil] at this ⊢
        omega
    | succ k =>
      have hp' : p ∈ TL.spl S k acc r := hp
      have := spl_part_len r k acc p hp'
      simp only [List.length_cons]
      omega
/-- a separator of one sign below 256 -/
theorem split_parts {s y : Str} {c : Nat} (hy : y = ⟨#[c]⟩) (hc : c < 256) : (∀ w ∈ Txt.split s y, (∀ x ∈ w.cps.toList, x ∈ s.cps.toList) ∧ w.length ≤ s.length) ∧ (Txt.split s y).length ≤ s.length + 1 := by
  subst hy
  have e := TL.split_spl s ⟨#[c]⟩ (by show [c] ≠ []; simp) (TL.kind_ok (by simp [hc]))
  have ls : s.length = s.cps.toList.length := by simp [Str.length]
  refine ⟨fun w hw => ?_, ?_⟩
  · have hm : TL.tl w ∈ (Txt.split s ⟨#[c]⟩).map TL.tl := List.mem_map.mpr ⟨w, hw, rfl⟩
    rw [e] at hm
    refine ⟨fun x hx => ?_, ?_⟩
    · rcases spl_mem _ _ _ _ hm x hx with h | h
      · cases h
      · exact h
    · have := spl_part_len _ _ _ _ hm
      have lw : w.length = (TL.tl w).length := TL.len_tl w
      simp only [List.length_nil] at this
      rw [lw, ls]
      simpa using this
  · have := congrArg List.length e
    rw [List.length_map] at this
    rw [this, ls]
    exact spl_len _ _ _
theorem split_ok {s y : Str} {c : Nat} (hy : y = ⟨#[c]⟩) (hc : c < 256) (hs : PyData.strOk s = true) : ∀ w ∈ Txt.split s y, PyData.strOk w = true := fun w hw => by
  rw [strOk_cps]
  exact fun x hx => strOk_cps.mp hs x (((split_parts hy hc).1 w hw).1 x hx)
theorem sp_str : (Str.ofString " ") = ⟨#[32]⟩ := by decide +kernel
theorem nl_str : (Str.ofString "\n") = ⟨#[10]⟩ := by decide +kernel
theorem flat_s {s : Str} : flatD (.str s) = true := rfl
theorem ifJ_eq {a b : Str} {c e : D} : ifJ (.tup [.str a, .tup [.str b, c], e]) = if (isNameD (.str a) && isArrD (.tup [.str b, c]) && isDoorD e) = true then (.tup [.str a, .tup [.str b, c], e]) else .non := rfl
theorem numD_cases (w : Str) : numD w = .non ∨ ∃ n : Nat, numD w = .int n := by
  unfold numD
  split
  · exact .inr ⟨_, rfl⟩
  · exact .inl rfl
theorem door_int {n : Nat} : isDoorD (.int n) = decide ((n : Int) ≤ 9) := by simp [isDoorD]
theorem ifJ_cases (j : D) : ifJ j = .non ∨ isJobD (ifJ j) = true := by
  unfold ifJ
  cases h : isJobD j with
  | true => rw [if_pos rfl]; exact .inr h
  | false => exact .inl rfl
theorem jobW_cases (ws : List Str) : jobW ws = .non ∨ isJobD (jobW ws) = true := by
  unfold jobW
  split
  · exact ifJ_cases _
  · split
    · exact ifJ_cases _
    · exact .inl rfl
  · exact .inl rfl
theorem fNon_none : ∀ {ds : List D} {i : Nat}, fNon ds i = none → ∀ d ∈ ds, isNon d = false
  | [], _, _, d, hd => by cases hd
  | x :: r, i, h, d, hd => by
    unfold fNon at h
    cases hx : isNon x with
    | true => rw [hx, if_pos rfl] at h; cases h
    | false =>
      rw [hx, if_neg (by decide)] at h
      rcases List.mem_cons.mp hd with rfl | hd
      · exact hx
      · exact fNon_none h d hd
theorem lines_jobs {s : Str} (h : fNon (linesJ s) 0 = none) : ∀ j ∈ linesJ s, isJobD j = true := fun j hj => by
  have h1 := fNon_none h j hj
  unfold linesJ at hj
  split at hj
  · cases hj
  · obtain ⟨l, _, rfl⟩ := List.mem_map.mp hj
    rcases jobW_cases (Txt.split l (" " : Str)) with e | e
    · have e' : lineJ l = .non := e
      rw [e'] at h1
      cases h1
    · exact e
theorem app_nil {s : Str} : s ++ ("" : Str) = s := TL.ext_tl (by rw [TL.tl_append]; exact List.append_nil _)
theorem nil_app {s : Str} : Str.empty ++ s = s := TL.ext_tl (by rw [TL.tl_append]; rfl)
theorem app_assoc {a b c : Str} : a ++ b ++ c = a ++ (b ++ c) := TL.ext_tl (by simp only [TL.tl_append, List.append_assoc])
theorem lit_len : (Str.ofString " ").length = 1 ∧ (Str.ofString " entry ").length = 7 ∧ (Str.ofString "").length = 0 ∧ (Str.ofString "at").length = 2 ∧ (Str.ofString "after").length = 5 ∧ Str.empty.length = 0 := by decide +kernel
theorem jl_nil : jl [] = 0 := rfl
theorem jl_cons {w : Str} {ws : List Str} : jl (w :: ws) = w.length + 1 + jl ws := by simp [jl]
theorem jl_app {a b : List Str} : jl (a ++ b) = jl a + jl b := by simp [jl, List.sum_append]
theorem jl_mem {w : Str} : ∀ {ws : List Str}, w ∈ ws → w.length + 1 ≤ jl ws
  | [], h => by cases h
  | x :: r, h => by
    rw [jl_cons]
    rcases List.mem_cons.mp h with rfl | h
    · omega
    · have := jl_mem h; omega
theorem jl_len : ∀ {ws : List Str}, ws.length ≤ jl ws
  | [] => Nat.le_refl _
  | x :: r => by
    rw [jl_cons, List.length_cons]
    have := jl_len (ws := r)
    omega
theorem jl_set {w : Str} : ∀ {ws : List Str} {i : Nat} (h : i < ws.length), jl (ws.set i w) + ws[i].length = jl ws + w.length
  | x :: r, 0, _ => by simp [jl_cons]; omega
  | x :: r, i + 1, h => by
    have := jl_set (w := w) (ws := r) (i := i) (by simpa using h)
    simp [jl_cons] at this ⊢
    omega
theorem jl_erase : ∀ {ws : List Str} {i : Nat}, jl (ws.eraseIdx i) ≤ jl ws
  | [], i => by simp
  | x :: r, 0 => by simp [jl_cons]
  | x :: r, i + 1 => by
    have := jl_erase (ws := r) (i := i)
    simp [jl_cons] at this ⊢
    omega
theorem jl_ins {w : Str} {ws : List Str} {i : Nat} : jl (ws.take i ++ [w] ++ ws.drop i) = jl ws + (w.length + 1) := by
  rw [jl_app, jl_app, jl_cons, jl_nil]
  have : jl ws = jl (ws.take i) + jl (ws.drop i) := by rw [← jl_app, List.take_append_drop]
  omega
theorem join_jl {y : Str} (h1 : y.length = 1) : ∀ {ws : List Str}, ws ≠ [] → (Str.join y ws).length + 1 = jl ws
  | [], h => absurd rfl h
  | [w], _ => by rw [jl_cons, jl_nil]; rfl
  | w :: x :: r, _ => by
    have e : Str.join y (w :: x :: r) = w ++ y ++ Str.join y (x :: r) := rfl
    have := join_jl h1 (ws := x :: r) (by simp)
    rw [e, app_len, app_len, jl_cons, ← this]
    omega
theorem join_le {y : Str} (h1 : y.length = 1) {ws : List Str} : (Txt.join y ws).length ≤ jl ws := by
  rw [TL.join_eq]
  by_cases h : ws = []
  · subst h; exact Nat.le_refl _
  · have := join_jl h1 h; omega
theorem spl_ne {S : List Nat} : ∀ (l : List Nat) (k : Nat) (acc : List Nat), TL.spl S k acc l ≠ []
  | [], k, acc => by rw [TL.spl_nil]; simp
  | x :: r, k, acc => by
    cases k with
    | zero =>
      cases hpre : TL.pre S (x :: r) with
      | true => rw [TL.spl_hit hpre]; simp
      | false => rw [TL.spl_miss hpre]; exact spl_ne r 0 _
    | succ k => exact spl_ne r k acc
theorem split_ne {s y : Str} {c : Nat} (hy : y = ⟨#[c]⟩) (hc : c < 256) : Txt.split s y ≠ [] := fun h => by
  subst hy
  have e := TL.split_spl s ⟨#[c]⟩ (by show [c] ≠ []; simp) (TL.kind_ok (by simp [hc]))
  rw [h] at e
  exact spl_ne _ _ _ e.symm
theorem split_jl {s y : Str} {c : Nat} (hy : y = ⟨#[c]⟩) (hc : c < 256) : jl (Txt.split s y) = s.length + 1 := by
  have h1 := join_jl (y := y) (by rw [hy]; rfl) (split_ne (s := s) hy hc)
  rw [StrLaws.join_split] at h1
  exact h1.symm
theorem join_ok {y : Str} (hy : PyData.strOk y = true) : ∀ {ws : List Str}, (∀ w ∈ ws, PyData.strOk w = true) → PyData.strOk (Str.join y ws) = true
  | [], _ => (by decide +kernel : PyData.strOk Str.empty = true)
  | [w], h => h w (by simp)
  | w :: x :: r, h => strOk_app (strOk_app (h w (by simp)) hy) (join_ok hy fun z hz => h z (List.mem_cons_of_mem _ hz))
theorem sum_jl {ws : List Str} : (ws.map (·.length)).sum + ws.length = jl ws := by
  induction ws with
  | nil => rfl
  | cons w ws ih =>
    rw [jl_cons, ← ih]
    simp
    omega
theorem jn_r {a : Str} {b : Addr} {ys : List Str} {A : Sl → MH → Prop} (h : M b = some (.lst (ys.map D.str))) : fJn (.str a) (.ref b) M A = ((ys.map (·.length)).sum + ys.length * a.length ≤ 16777216 ∧ A (.d (.str (Txt.join a ys))) M) := by
  have hs : seqOf M (.ref b) = some (ys.map D.str) := seq_ref.mpr h
  refine propext ⟨fun ⟨a', ys', h1, h2, h3, q⟩ => ?_, fun ⟨h1, q⟩ => ⟨a, ys, rfl, .inr hs, h1, q⟩⟩
  cases h1
  rcases h2 with h2 | h2
  · cases h2
  · rw [hs] at h2
    have : ys = ys' := by
      have := Option.some.inj h2
      exact List.map_inj_right (fun x y h => by cases h; rfl) |>.mp this
    subst this
    exact ⟨h3, q⟩
/-- short texts -/
def ShortS (L : List D) (k : Nat) : Prop := ∀ d ∈ L, ∃ w : Str, d = .str w ∧ PyData.strOk w = true ∧ w.length ≤ k
theorem short_of {L : List D} {k : Nat} (h : (L.all fun d => match d with | .str w => PyData.strOk w && decide (w.length ≤ k) | _ => false) = true) : ShortS L k := fun d hd => by
  have := List.all_eq_true.mp h d hd
  cases d with
  | str w =>
    simp at this
    exact ⟨w, rfl, this⟩
  | _ => cases this
theorem er_map {α β : Type} (f : α → β) : ∀ (l : List α) (i : Nat), (l.map f).eraseIdx i = (l.eraseIdx i).map f
  | [], _ => rfl
  | x :: r, 0 => rfl
  | x :: r, i + 1 => by
    have := er_map f r i
    simp [this]
theorem er_mem {α : Type} {x : α} : ∀ {l : List α} {i : Nat}, x ∈ l.eraseIdx i → x ∈ l
  | [], _, h => h
  | y :: r, 0, h => List.mem_cons_of_mem _ h
  | y :: r, i + 1, h => by
    simp at h
    rcases h with rfl | h
    · exact List.mem_cons_self ..
    · exact List.mem_cons_of_mem _ (er_mem h)
theorem set_mem {α : Type} {x y : α} : ∀ {l : List α} {i : Nat}, x ∈ l.set i y → x = y ∨ x ∈ l
  | [], _, h => .inr h
  | z :: r, 0, h => by
    simp at h
    rcases h with rfl | h
    · exact .inl rfl
    · exact .inr (List.mem_cons_of_mem _ h)
  | z :: r, i + 1, h => by
    simp at h
    rcases h with rfl | h
    · exact .inr (List.mem_cons_self ..)
    · rcases set_mem h with h | h
      · exact .inl h
      · exact .inr (List.mem_cons_of_mem _ h)
theorem sum_le {α : Type} {f : α → Nat} {b : Nat} : ∀ {l : List α}, (∀ x ∈ l, f x ≤ b) → (l.map f).sum ≤ l.length * b
  | [], _ => by simp
  | x :: r, h => by
    have := sum_le (l := r) fun y hy => h y (List.mem_cons_of_mem _ hy)
    have := h x (List.mem_cons_self ..)
    simp only [List.map_cons, List.sum_cons, List.length_cons, Nat.add_mul]
    omega
theorem kindW_eq {w : Str} : kindW w = (decide (w = "queue") || decide (w = "stack")) := rfl
theorem lv_cases (s : Str) : lv s = .non ∨ ∃ (w : Str) (q : D), lv s = .tup [.str w, q] ∧ kindW w = true ∧ (q = .non ∨ ∃ i : Int, q = .int i ∧ 1 ≤ i) := by
  unfold lv
  generalize Txt.split s (" " : Str) = ws
  match ws with
  | [] => exact .inl rfl
  | [w] =>
    show (if kindW w = true then D.tup [.str w, .non] else .non) = _ ∨ _
    by_cases h : kindW w = true
    · rw [if_pos h]
      refine .inr ⟨w, .non, ?_, h, .inl rfl⟩
      show (if kindW w = true then D.tup [.str w, .non] else .non) = _
      rw [if_pos h]
    · rw [if_neg h]; exact .inl rfl
  | [w, n] =>
    show (if (kindW w && isIntD (numD n) 1) = true then D.tup [.str w, numD n] else .non) = _ ∨ _
    by_cases h : (kindW w && isIntD (numD n) 1) = true
    · rw [if_pos h]
      have h' := h
      rw [Bool.and_eq_true] at h'
      obtain ⟨i, e, hi⟩ := int_parts h'.2
      refine .inr ⟨w, numD n, ?_, h'.1, .inr ⟨i, e, hi⟩⟩
      show (if (kindW w && isIntD (numD n) 1) = true then D.tup [.str w, numD n] else .non) = _
      rw [if_pos h]
    · rw [if_neg h]; exact .inl rfl
  | a :: b :: c :: r => exact .inl rfl
theorem bo_cases (s : Str) : bo s = .non ∨ ∃ i : Int, bo s = .int i ∧ 1 ≤ i := by
  unfold bo
  generalize Txt.split s (" " : Str) = ws
  match ws with
  | [] => exact .inl rfl
  | [w] => exact .inl rfl
  | [w, n] =>
    show (if (decide (w = "boost") && isIntD (numD n) 1) = true then numD n else .non) = _ ∨ _
    by_cases h : (decide (w = "boost") && isIntD (numD n) 1) = true
    · rw [if_pos h]
      have h' := h
      rw [Bool.and_eq_true] at h'
      obtain ⟨i, e, hi⟩ := int_parts h'.2
      refine .inr ⟨i, ?_, hi⟩
      show (if (decide (w = "boost") && isIntD (numD n) 1) = true then numD n else .non) = _
      rw [if_pos h]
      exact e
    · rw [if_neg h]; exact .inl rfl
  | a :: b :: c :: r => exact .inl rfl
theorem rdR_cons {ls : List D} {b : D} {s : Str} {r : List Str} {row : Nat} : rdR ls b (s :: r) row = if (DL.isNon b && !DL.isNon (lv s) && decide (ls.length < 6)) = true then rdR (ls ++ [lv s]) b r (row + 1)
      else if (DL.isNon b && DL.isNon (lv s) && !ls.isEmpty) = true then (if DL.isNon (bo s) = true then .int row else rdR ls (bo s) r (row + 1)) else .int row := rfl
theorem RuleB.ok' {v : D} (h : RuleB v) : v.Ok := by
  have hw := h.wf
  exact ⟨hw.1.1, by have := hw.1.2; omega⟩
theorem fit_kind {k : Str} (h : k = "queue" ∨ k = "stack") : PyData.strOk k = true ∧ k.length = 5 ∧ kindW k = true ∧ (∀ c ∈ k.cps.toList, 97 ≤ c ∧ c < 123) := by
  rcases h with rfl | rfl <;> decide +kernel
theorem qu_cases {q : D} (h : QuB q) : q = .non ∨ ∃ i : Int, q = .int i ∧ 1 ≤ i ∧ i < 10 ^ 31 := h
theorem linesR_i {ls : List D} {i : Int} : linesR (.tup [.tup ls, .int i]) = ls.map lineR ++ [("boost " : Str) ++ numI i] := rfl
theorem linesR_n {ls : List D} : linesR (.tup [.tup ls, .non]) = ls.map lineR := rfl
theorem lineR_i {k : Str} {i : Int} : lineR (.tup [.str k, .int i]) = k ++ (" " : Str) ++ numI i := rfl
theorem lineR_n {k : Str} : lineR (.tup [.str k, .non]) = k := rfl
theorem lit_b : (Str.ofString "boost ").length = 6 ∧ (Str.ofString "None").length = 4 := by decide +kernel
theorem rd_rule_lines : ∀ ds M Q E, sp_rule_lines cs ds M Q E → td_rule_lines cs (endsD Q E) (startD ["rule", "lines", "kind", "quantum"] ds) M := by
  rintro ds M Q E ⟨v, rfl, ⟨ls, b, rfl, h1, h2, hl, hb⟩, k⟩
  have szl := sizeLine_eq
  show td_rule_lines cs (endsD Q E) [some (.d (.tup [.tup ls, b])), none, none, none] M
  obtain ⟨l1, l2, l3, l4, l5, l6⟩ := lit_len
  obtain ⟨b1, b2⟩ := lit_b
  simp [td_rule_lines]
  refine ⟨by simp [NoOwn], lcD_map (fun l => .str (lineR l)) (fun y hy Y z => ?_) (by omega) ?_⟩
  · obtain ⟨kk, q, rfl, hk, hq⟩ := hl y hy
    have hk5 := (fit_kind hk).2.1
    rcases hq with rfl | ⟨i, rfl, hi1, hi2⟩
    · simpa [lineR_n] using z
    · have lm := numI_len (m := i) (by omega) hi2
      have g1 := log_small (m := i) (by omega) hi2
      simp [app_len, l1, l6, g1]
      repeat refine And.intro (by omega) ?_
      simpa [nil_app, lineR_i] using z
  · have e1 : ls.map (fun l => D.str (lineR l)) = (ls.map lineR).map D.str := by rw [List.map_map]; rfl
    rw [e1]
    rcases hb with rfl | ⟨i, rfl, hi1, hi2⟩
    · rw [linesR_n] at k
      simpa [↓u_rule_lines_R2] using k
    · rw [linesR_i] at k
      have lm := numI_len (m := i) (by omega) hi2
      have g1 := log_small (m := i) (by omega) hi2
      simp [app_len, b1, l6, g1, ↓u_rule_lines_R2]
      repeat refine And.intro (by omega) ?_
      simpa [nil_app] using k
theorem linesR_le {v : D} (h : RuleB v) : (∀ w ∈ linesR v, PyData.strOk w = true ∧ w.length ≤ 40 ∧ ∀ c ∈ w.cps.toList, c ≠ 10) ∧ 1 ≤ (linesR v).length ∧ (linesR v).length ≤ 7 := by
  obtain ⟨ls, b, rfl, h1, h2, hl, hb⟩ := h
  obtain ⟨l1, l2, l3, l4, l5, l6⟩ := lit_len
  obtain ⟨b1, b2⟩ := lit_b
  have o1 : PyData.strOk (Str.ofString " ") = true ∧ PyData.strOk (Str.ofString "boost ") = true := by decide +kernel
  have sp : ∀ c ∈ (Str.ofString " ").cps.toList, c ≠ 10 := by decide +kernel
  have sb : ∀ c ∈ (Str.ofString "boost ").cps.toList, c ≠ 10 := by decide +kernel
  have hline : ∀ w ∈ ls.map lineR, PyData.strOk w = true ∧ w.length ≤ 40 ∧ ∀ c ∈ w.cps.toList, c ≠ 10 := fun w hw => by
    obtain ⟨l, hl', rfl⟩ := List.mem_map.mp hw
    obtain ⟨kk, q, rfl, hk, hq⟩ := hl l hl'
    obtain ⟨k1, k2, k3, k4⟩ := fit_kind hk
    rcases hq with rfl | ⟨i, rfl, hi1, hi2⟩
    · rw [lineR_n]
      exact ⟨k1, by omega, fun c hc => by have := k4 c hc; omega⟩
    · rw [lineR_i]
      have lm := numI_len (m := i) (by omega) hi2
      refine ⟨strOk_app (strOk_app k1 o1.1) (numI_strOk (by omega)), by simp only [app_len]; omega, fun c hc => ?_⟩
      rw [app_cps, app_cps] at hc
      rcases List.mem_append.mp hc with hc | hc
      · rcases List.mem_append.mp hc with hc | hc
        · have := k4 c hc; omega
        · exact sp c hc
      · rw [numI_tl (by omega)] at hc
        have := TL.numL_digits _ c hc
        omega
  rcases hb with rfl | ⟨i, rfl, hi1, hi2⟩
  · rw [linesR_n]
    exact ⟨hline, by simpa using h1, by simp; omega⟩
  · rw [linesR_i]
    have lm := numI_len (m := i) (by omega) hi2
    refine ⟨fun w hw => ?_, by simp, by simp; omega⟩
    rcases List.mem_append.mp hw with hw | hw
    · exact hline w hw
    · simp at hw
      subst hw
      refine ⟨strOk_app o1.2 (numI_strOk (by omega)), by simp only [app_len]; omega, fun c hc => ?_⟩
      rw [app_cps] at hc
      rcases List.mem_append.mp hc with hc | hc
      · exact sb c hc
      · rw [numI_tl (by omega)] at hc
        have := TL.numL_digits _ c hc
        omega
theorem rd_show_rule : ∀ ds M Q E, sp_show_rule cs ds M Q E → td_show_rule cs (endsD Q E) (startD ["rule"] ds) M := by
  rintro ds M Q E ⟨v, rfl, hw, q, e⟩
  show td_show_rule cs (endsD Q E) [some (.d v)] M
  simp [td_show_rule, ↓sp_check_rule_eq, hw]
  refine ⟨fun h => ?_, e⟩
  obtain ⟨hR, q⟩ := q h
  simp [↓sp_rule_lines_eq, hR]
  rw [jn_l rfl]
  refine ⟨?_, q⟩
  obtain ⟨h1, h2, h3⟩ := linesR_le hR
  have e2 : (Str.ofString "\n").length = 1 := by decide +kernel
  have := sum_le (f := fun w : Str => w.length) (b := 40) fun w hw => (h1 w hw).2.1
  rw [e2]
  omega
theorem rd_law_list_right (T : Kx cs) : ∀ ds M Q E, sp_law_list_right cs ds M Q E → td_law_list_right cs (endsD Q E) (startD ["policy", "caught", "e"] ds) M := by
  rintro ds M Q E ⟨v, rfl, hw, h, k⟩
  have hk := T.kd_NoRule
  have hx := T.xm_NoRule_SlotError
  show td_law_list_right cs (endsD Q E) [some (.d v), none, none] M
  simp [td_law_list_right, ↓sp_show_rule_eq, hw, h, hx, ↓u_law_list_right_R2]
  intro a ha
  refine ⟨a, cs.c_NoRule, [("place", .int 0)], 1, .int 0, rfl, mu_same, hk, fun h => (by cases h), fun f hf => (by cases hf; rfl), ?_⟩
  have o1 : D.Ok (.tup [.str "rule", .int 0]) := ⟨by simp [D.nr, D.nrs]; decide +kernel, by simp [D.dp, D.dps]⟩
  simp [kname]
  rw [eq_of o1 o1, DL.eq_self o1.1]
  exact k _ fun b o hb => by
    by_cases e : b = a
    · subst e; rw [ha] at hb; cases hb
    · rw [mu_ne e]; exact hb
end
end Lw

set_option Elab.async false
set_option linter.all false
set_option maxRecDepth 100000
set_option maxHeartbeats 4000000
namespace Lw
open PySem PySem.Spec PyProof.Rows L2 DL
section
variable {cs : Cs} {M : MH} {Q : Sl → MH → Prop} {E : Addr → List (Str × D) → MH → Prop}
theorem bad_signsL {L : List Nat} {s : Str} (h : PyData.strOk s = true) : D.Ok (.lst (([] : List D) ++ ((sgD s).filter fun d => !decide (chD d ∈ L)).map fun d => d)) ∧
    (([] : List D) ++ ((sgD s).filter fun d => !decide (chD d ∈ L)).map fun d => d).isEmpty = s.cps.toList.all fun c => decide (c ∈ L) := by
  refine ⟨ok_flatL fun x hx => ?_, ?_⟩
  · simp only [List.nil_append, List.map_id'] at hx
    obtain ⟨c, hc, rfl⟩ := mem_sgD (List.mem_filter.mp hx).1
    refine ⟨rfl, ?_⟩
    have := strOk_cps.mp h c hc
    simp only [D.nr, PyData.strOk]
    simpa using this
  · simp only [List.nil_append, List.map_id']
    rw [Bool.eq_iff_iff, List.isEmpty_iff, List.filter_eq_nil_iff, List.all_eq_true]
    constructor
    · intro h c hc
      have := h (.str ⟨#[c]⟩) (List.mem_map.mpr ⟨c, hc, rfl⟩)
      simpa [chD] using this
    · intro h d hd
      obtain ⟨c, hc, rfl⟩ := mem_sgD hd
      simpa [chD] using h c hc
theorem rd_law_number : ∀ ds M Q E, sp_law_number cs ds M Q E → td_law_number cs (endsD Q E) (startD ["word", "char"] ds) M := by
  rintro ds M Q E ⟨s, rfl, hs, hl, k⟩
  have szl := sizeLine_eq
  show td_law_number cs (endsD Q E) [some (.d (.str s)), none] M
  have ls : s.length = s.cps.toList.length := by simp [Str.length]
  simp [td_law_number]
  refine ⟨by omega, ?_⟩
  have non : numB s = false → Q (.d .non) M := fun h => by
    have : numD s = .non := by unfold numD; rw [h]; rfl
    rw [this] at k
    exact k
  by_cases h1 : 1 ≤ s.length ∧ s.length ≤ 31
  · have h1' : (1 : Int) ≤ s.length ∧ (s.length : Int) ≤ 31 := by omega
    simp [h1'.1, h1'.2]
    refine ⟨by simp [NoOwn], lcD_pure (fun d => !decide (chD d ∈ digs)) (fun d => d) _ _ (fun x hx Y N q => ?_) (by rw [sgD_len]; simp; omega) ?_⟩
    · obtain ⟨c, hc, rfl⟩ := mem_sgD hx
      rw [digs_tx]
      simp [tx_cps]
      have q' : if (!decide (c ∈ digs)) = true then Y (.str ⟨#[c]⟩) M else N M := q
      by_cases hcl : c ∈ digs
      · rw [decide_eq_true hcl] at q'
        rw [if_pos hcl]
        exact q'
      · rw [decide_eq_false hcl] at q'
        rw [if_neg hcl]
        exact q'
    · obtain ⟨ok, hem⟩ := bad_signsL (L := digs) hs
      rw [ne_of ok ok_nilL, eq_nilL, hem]
      cases hA : (s.cps.toList.all fun c => decide (c ∈ digs)) with
      | false =>
        simp
        refine non ?_
        unfold numB
        rw [hA, Bool.false_and, Bool.and_false]
      | true =>
        simp
        cases hc : s.cps.toList with
        | nil => rw [hc] at ls; simp at ls; omega
        | cons c0 r0 =>
          have hc0 : c0 < 0x110000 := strOk_cps.mp hs c0 (by rw [hc]; simp)
          have e0 : (({ cps := #[c0] } : Str) = Str.ofString "0") ↔ c0 = 48 := by
            have : Str.ofString "0" = ⟨#[48]⟩ := by decide +kernel
            rw [this]
            simp
          have hb : numB s = !(decide (c0 = 48) && !decide (s = "0")) := by
            unfold numB
            rw [decide_eq_true h1, hA, hc]
            rfl
          have hbs : ∀ n : Int, numD s = .int n → Q (.d (.int n)) M := fun n e => by rw [e] at k; exact k
          refine ⟨by omega, ?_⟩
          rw [chI_at (c := c0) (by decide) (by simp [hc])]
          refine ⟨⟨strOk_one hc0, so_0⟩, ?_⟩
          have fin : numB s = true → inK s fun n => Q (.d (.int n)) M := fun hB => ⟨_, numD_int hB, by omega, hbs _ (by unfold numD; rw [if_pos hB])⟩
          by_cases h3 : c0 = 48
          · rw [if_pos (e0.mpr h3)]
            refine ⟨⟨hs, so_0⟩, ?_⟩
            by_cases h4 : s = "0"
            · rw [if_pos h4]
              exact fin (by rw [hb, decide_eq_true h3, decide_eq_true h4]; rfl)
            · rw [if_neg h4]
              exact non (by rw [hb, decide_eq_true h3, decide_eq_false h4]; rfl)
          · rw [if_neg fun h => h3 (e0.mp h)]
            exact fin (by rw [hb, decide_eq_false h3]; rfl)
  · have h1' : ¬ ((1 : Int) ≤ s.length ∧ (s.length : Int) ≤ 31) := by omega
    have hb : numB s = false := by
      unfold numB
      rw [decide_eq_false h1, Bool.false_and]
    by_cases h2 : (1 : Int) ≤ s.length
    · have h3 : ¬ ((s.length : Int) ≤ 31) := fun h => h1' ⟨h2, h⟩
      simp [h2, h3]
      exact non hb
    · simp [h2]
      exact non hb
end
end Lw

set_option Elab.async false
set_option linter.all false
set_option maxRecDepth 100000
set_option maxHeartbeats 4000000
namespace Lw
open PySem PySem.Spec PyProof.Rows L2 DL
section
variable {cs : Cs} {M : MH} {Q : Sl → MH → Prop} {E : Addr → List (Str × D) → MH → Prop}
theorem any_heads {w : Str} : ∀ {hs : List Str}, ((hs.map D.str).any fun z => D.eq z (.str w)) = hs.contains w
  | [] => rfl
  | h :: hs => by
    rw [List.map_cons, List.any_cons, any_heads, eq_ss, List.contains_cons]
    congr 1
    by_cases e : h = w
    · subst e; simp
    · have e' : ¬ w = h := fun h' => e h'.symm
      simp [e, e']
theorem any_heads' {w : Str} {hs : List Str} : hs.any ((fun z => D.eq z (.str w)) ∘ D.str) = hs.contains w := by
  have := any_heads (w := w) (hs := hs)
  rwa [List.any_map] at this
theorem rd_law_words_read : ∀ ds M Q E, sp_law_words_read cs ds M Q E → td_law_words_read cs (endsD Q E) (startD ["line", "heads", "words", "number"] ds) M := by
  rintro ds M Q E ⟨s, hs, rfl, ho, hl, k1, k2⟩
  have szl := sizeLine_eq
  show td_law_words_read cs (endsD Q E) [some (.d (.str s)), some (.d (.lst (hs.map D.str))), none, none] M
  obtain ⟨hp, hn⟩ := split_parts (s := s) sp_str (by decide)
  have hok := split_ok (s := s) sp_str (by decide) ho
  have hne := split_ne (s := s) sp_str (by decide)
  have l1 : ¬ ((Str.ofString " ").length = 0) := by decide +kernel
  have flh : ∀ x ∈ hs.map D.str, flatD x = true := fun x hx => by
    obtain ⟨w, _, rfl⟩ := List.mem_map.mp hx
    rfl
  simp [td_law_words_read, l1]
  refine ⟨by omega, ?_⟩
  generalize Txt.split s (Str.ofString " ") = ws at hp hn hok hne k1 k2
  have lenw : ∀ w ∈ ws, w.length ≤ 16777216 := fun w hw => by have := (hp w hw).2; omega
  clear hp hn
  match ws, hok, lenw, hne, k1, k2 with
  | [], _, _, hne, _, _ => exact absurd rfl hne
  | [w], hok, lenw, _, k1, k2 =>
    have e : wdW hs [w] = if hs.contains w = true then some (w, .non) else none := rfl
    rw [e] at k1 k2
    cases hc : hs.contains w with
    | true =>
      have hA := any_heads'.trans hc
      rw [hc, if_pos rfl] at k2
      simpa [hA] using k2 w .non rfl
    | false =>
      have hA := any_heads'.trans hc
      rw [hc, if_neg (by decide)] at k1
      simpa [hA] using k1 rfl
  | [w, n], hok, lenw, _, k1, k2 =>
    have hn := hok n (by simp)
    have ln := lenw n (by simp)
    have e : wdW hs [w, n] = if (hs.contains w && isIntD (numD n) 1) = true then some (w, numD n) else none := rfl
    rw [e] at k1 k2
    cases hc : hs.contains w with
    | false =>
      have hA := any_heads'.trans hc
      rw [hc, Bool.false_and, if_neg (by decide)] at k1
      simpa [hA] using k1 rfl
    | true =>
      have hA := any_heads'.trans hc
      rw [hc, Bool.true_and] at k1 k2
      simp [hA, ↓sp_number_in_eq, hn, ln]
      rcases numD_cases n with h0 | ⟨m, h0⟩
      · rw [h0] at k1 ⊢
        simpa [isIntD] using k1 rfl
      · rw [h0] at k1 k2 ⊢
        simp
        by_cases h1 : m = 0
        · subst h1
          simpa [isIntD] using k1 rfl
        · have : isIntD (.int m) 1 = true := by simp [isIntD]; omega
          rw [this, if_pos rfl] at k2
          have h2 : ¬ ((m : Int) = 0) := by omega
          simpa [h1, h2] using k2 w _ rfl
  | a :: b :: c :: r, hok, lenw, _, k1, k2 =>
    have h3 : 2 < (r.length : Int) + 1 + 1 + 1 := by omega
    have kk := k1 rfl
    simp [h3]
    cases (hs.any ((fun z => z.eq (D.str a)) ∘ D.str)) <;> simpa using kk
end
end Lw

set_option Elab.async false
set_option linter.all false
set_option maxRecDepth 100000
set_option maxHeartbeats 4000000
namespace Lw
open PySem PySem.Spec PyProof.Rows L2 DL
section
variable {cs : Cs} {M : MH} {Q : Sl → MH → Prop} {E : Addr → List (Str × D) → MH → Prop}
theorem lv_wd (s : Str) : lv s = match wdW ["queue", "stack"] (Txt.split s (" " : Str)) with
    | some (w, q) => .tup [.str w, q]
    | none => .non := by
  unfold lv
  generalize Txt.split s (" " : Str) = ws
  have hk : ∀ w : Str, kindW w = (["queue", "stack"] : List Str).contains w := fun w => by
    rw [kindW_eq]
    simp [List.contains_cons]
  match ws with
  | [] => rfl
  | [w] =>
    show (if kindW w = true then _ else _) = match (if (["queue", "stack"] : List Str).contains w = true then _ else _) with | some (w, q) => D.tup [.str w, q] | none => .non
    rw [← hk]
    split <;> rfl
  | [w, n] =>
    show (if (kindW w && _) = true then _ else _) = match (if ((["queue", "stack"] : List Str).contains w && _) = true then _ else _) with | some (w, q) => D.tup [.str w, q] | none => .non
    rw [← hk]
    split <;> rfl
  | a :: b :: c :: r => rfl
theorem bo_wd (s : Str) : bo s = match wdW ["boost"] (Txt.split s (" " : Str)) with
    | some (_, q) => q
    | none => .non := by
  unfold bo
  generalize Txt.split s (" " : Str) = ws
  have hk : ∀ w : Str, decide (w = "boost") = (["boost"] : List Str).contains w := fun w => by simp [List.contains_cons]
  match ws with
  | [] => rfl
  | [w] =>
    show D.non = match ((if (["boost"] : List Str).contains w = true then some (w, D.non) else none) : Option (Str × D)) with | some (_, q) => q | none => D.non
    by_cases h : (["boost"] : List Str).contains w = true
    · rw [if_pos h]
    · rw [if_neg h]
  | [w, n] =>
    show (if (decide (w = "boost") && isIntD (numD n) 1) = true then numD n else .non) = match ((if ((["boost"] : List Str).contains w && isIntD (numD n) 1) = true then some (w, numD n) else none) : Option (Str × D)) with | some (_, q) => q | none => D.non
    rw [← hk]
    split <;> rfl
  | a :: b :: c :: r => rfl
theorem rdR_nb {ls : List D} {i : Int} (row : Nat) : ∀ (r : List Str), rdR ls (.int i) r row = if r = [] then .tup [.tup ls, .int i] else .int row
  | [] => by rw [if_pos rfl]; rfl
  | s :: r => by
    rw [rdR_cons, if_neg (by simp), if_neg (by simp), if_neg (by simp)]
theorem lp_due {E0 : DEnds} {all : List Str} {o0 : Option Sl} (hall : ∀ s ∈ all, PyData.strOk s = true ∧ s.length ≤ 1000000) (hlen : all.length ≤ 1501) : ∀ (r pre : List Str) (ls : List D) (o3 o4 o5 o6 : Option Sl), all = pre ++ r → ls.length = pre.length → ls.length ≤ 6 →
    (∀ ls' o3 o4 o5 o6, rdR ls .non r pre.length = .tup [.tup ls', .non] → E0.nx [o0, some (.d (.lst (all.map D.str))), some (.own ls'), o3, o4, o5, o6] M) →
    E0.rt (.d (rdR ls .non r pre.length)) M →
    forD (gTupD 2 (gConsD (gN 3) (gConsD (gN 4) gNilD))) (td_law_due_B3 cs) E0 (enF pre.length (r.map D.str)) [o0, some (.d (.lst (all.map D.str))), some (.own ls), o3, o4, o5, o6] M
  | [], pre, ls, o3, o4, o5, o6, e, hl, h6, h2, h3 => by
    simpa using h2 ls o3 o4 o5 o6 rfl
  | s :: r, pre, ls, o3, o4, o5, o6, e, hl, h6, h2, h3 => by
    have hs := hall s (by rw [e]; simp)
    have szl := sizeLine_eq
    have ha : all.length = pre.length + (r.length + 1) := by rw [e]; simp
    have i0 : DL.isNon D.non = true := rfl
    simp [↓u_law_due_B3]
    refine ⟨s, ["queue", "stack"], rfl, hs.1, hs.2, fun hw => ?_, fun w q hw => ?_⟩
    · have hlv : lv s = .non := by rw [lv_wd, hw]
      rw [rdR_cons, hlv, i0] at h3
      simp
      refine ⟨s, ["boost"], rfl, hs.1, hs.2, fun hb => ?_, fun w q hb => ?_⟩
      · have hbo : bo s = .non := by rw [bo_wd, hb]
        rw [hbo] at h3
        simp at h3
        simp
        exact h3
      · have hbo : bo s = q := by rw [bo_wd, hb]
        rw [hbo] at h3
        simp
        by_cases hp : pre = []
        · rw [if_pos hp]
          have : ls = [] := List.length_eq_zero_iff.mp (by rw [hl, hp]; rfl)
          subst this
          simpa using h3
        · rw [if_neg hp]
          have hle : ls ≠ [] := fun h => hp (List.length_eq_zero_iff.mp (by rw [← hl, h]; rfl))
          have hie : ls.isEmpty = false := by cases ls with
            | nil => exact absurd rfl hle
            | cons _ _ => rfl
          rw [hie] at h3
          rcases bo_cases s with h | ⟨i, h, hi⟩
          · rw [hbo] at h
            subst h
            simp at h3 ⊢
            exact h3
          · rw [hbo] at h
            subst h
            simp [rdR_nb] at h3 ⊢
            by_cases hr : r = []
            · subst hr
              have : ¬ ((pre.length : Int) + 1 < all.length) := by simp at ha; omega
              rw [if_neg this]
              simpa using h3
            · have hrl : r.length ≠ 0 := fun h => hr (List.length_eq_zero_iff.mp h)
              rw [if_pos (by omega)]
              rw [if_neg hr] at h3
              exact h3
    · have hlv : lv s = .tup [.str w, q] := by rw [lv_wd, hw]
      have i1 : DL.isNon (.tup [.str w, q]) = false := rfl
      rw [rdR_cons, hlv, i0, i1] at h3
      have h2' : ∀ ls' o3 o4 o5 o6, (if (true && !false && decide (ls.length < 6)) = true then rdR (ls ++ [.tup [.str w, q]]) .non r (pre.length + 1) else if (true && false && !ls.isEmpty) = true then (if DL.isNon (bo s) = true then .int pre.length else rdR ls (bo s) r (pre.length + 1)) else .int pre.length) = .tup [.tup ls', .non] → E0.nx [o0, some (.d (.lst (all.map D.str))), some (.own ls'), o3, o4, o5, o6] M := fun ls' o3 o4 o5 o6 h => h2 ls' o3 o4 o5 o6 (by rw [rdR_cons, hlv, i0, i1]; exact h)
      simp
      by_cases h : pre.length = 6
      · have hn : ¬ ls.length < 6 := by omega
        have h' : (pre.length : Int) = 6 := by omega
        simp [h]
        simp [hn, h] at h3
        exact h3
      · have hn : ls.length < 6 := by omega
        have h' : ¬ (pre.length : Int) = 6 := by omega
        simp [h, h']
        simp [hn] at h3 h2'
        have := lp_due hall hlen r (pre ++ [s]) (ls ++ [.tup [.str w, q]]) (some (.d (.int pre.length))) (some (.d (.str s))) (some (.own [.str w, q])) o6 (by rw [e]; simp) (by simp [hl]) (by simp; omega) (by simpa using h2') (by simpa using h3)
        refine ⟨by omega, ?_⟩
        simpa using this
theorem rd_law_due : ∀ ds M Q E, sp_law_due cs ds M Q E → td_law_due cs (endsD Q E) (startD ["text", "lines", "levels", "row", "line", "level", "last"] ds) M := by
  rintro ds M Q E ⟨s, rfl, hs, hl, k⟩
  have szl := sizeLine_eq
  show td_law_due cs (endsD Q E) [some (.d (.str s)), none, none, none, none, none, none] M
  obtain ⟨hp, hn⟩ := split_parts (s := s) nl_str (by decide)
  have hok := split_ok (s := s) nl_str (by decide) hs
  have l1 : ¬ ((Str.ofString "\n").length = 0) := by decide +kernel
  have kk : Q (.d (rdR [] .non (Txt.split s (Str.ofString "\n")) 0)) M := k
  simp [td_law_due, l1]
  refine ⟨by omega, ?_⟩
  generalize Txt.split s (Str.ofString "\n") = ws at hp hn hok kk
  simp [↓u_law_due_L3, enD_enF]
  refine lp_due (o0 := some (.d (.str s))) (fun l h => ⟨hok l h, by have := (hp l h).2; omega⟩) (by omega) ws [] [] _ _ _ _ rfl rfl (by decide) (fun ls' o3 o4 o5 o6 h => ?_) ?_
  rotate_left
  · exact kk
  have e : rdR [] .non ws 0 = .tup [.tup ls', .non] := h
  rw [e] at kk
  simpa [↓u_law_due_R3] using kk
end
end Lw

set_option Elab.async false
set_option linter.all false
set_option maxRecDepth 100000
set_option maxHeartbeats 4000000
namespace Lw
open PySem PySem.Spec PyProof.Rows L2 DL
section
variable {cs : Cs} {M : MH} {Q : Sl → MH → Prop} {E : Addr → List (Str × D) → MH → Prop}
theorem sg_all {s : Str} {L : List Nat} : ((sgD s).map fun d => D.bl (decide (chD d ∈ L))) = (s.cps.toList.map fun c => decide (c ∈ L)).map D.bl := by
  unfold sgD
  rw [List.map_map, List.map_map]
  rfl
theorem rd_number_in : ∀ ds M Q E, sp_number_in cs ds M Q E → td_number_in cs (endsD Q E) (startD ["word", "char"] ds) M := by
  rintro ds M Q E ⟨s, rfl, hs, hl, k⟩
  have szl := sizeLine_eq
  show td_number_in cs (endsD Q E) [some (.d (.str s)), none] M
  have ls : s.length = s.cps.toList.length := by simp [Str.length]
  simp [td_number_in]
  refine ⟨by omega, ?_⟩
  have non : numB s = false → Q (.d .non) M := fun h => by
    have : numD s = .non := by unfold numD; rw [h]; rfl
    rw [this] at k
    exact k
  by_cases h1 : 1 ≤ s.length ∧ s.length ≤ 31
  · have h1' : (1 : Int) ≤ s.length ∧ (s.length : Int) ≤ 31 := by omega
    simp [h1'.1, h1'.2]
    refine ⟨by simp [NoOwn], lcD_map (fun d => .bl (decide (chD d ∈ digs))) (fun y hy Y z => ?_) (by rw [sgD_len]; omega) ?_⟩
    · obtain ⟨c, hc, rfl⟩ := mem_sgD hy
      simpa [digs_tx, tx_cps, chD] using z
    · rw [sg_all, all_l rfl]
      simp
      cases hA : (s.cps.all fun c => decide (c ∈ digs)) with
      | false =>
        simp
        refine non ?_
        unfold numB
        rw [Array.all_toList, hA, Bool.false_and, Bool.and_false]
      | true =>
        simp
        cases hc : s.cps.toList with
        | nil => rw [hc] at ls; simp at ls; omega
        | cons c0 r0 =>
          have hc0 : c0 < 0x110000 := strOk_cps.mp hs c0 (by rw [hc]; simp)
          have e0 : (({ cps := #[c0] } : Str) = Str.ofString "0") ↔ c0 = 48 := by
            have : Str.ofString "0" = ⟨#[48]⟩ := by decide +kernel
            rw [this]
            simp
          have hb : numB s = !(decide (c0 = 48) && !decide (s = "0")) := by
            unfold numB
            rw [decide_eq_true h1, Array.all_toList, hA, hc]
            rfl
          have hbs : ∀ n : Int, numD s = .int n → Q (.d (.int n)) M := fun n e => by rw [e] at k; exact k
          refine ⟨by omega, ?_⟩
          rw [chI_at (c := c0) (by decide) (by simp [hc])]
          refine ⟨⟨strOk_one hc0, so_0⟩, ?_⟩
          have fin : numB s = true → inK s fun n => Q (.d (.int n)) M := fun hB => ⟨_, numD_int hB, by omega, hbs _ (by unfold numD; rw [if_pos hB])⟩
          by_cases h3 : c0 = 48
          · rw [if_pos (e0.mpr h3)]
            refine ⟨⟨hs, so_0⟩, ?_⟩
            by_cases h4 : s = "0"
            · rw [if_pos h4]
              exact fin (by rw [hb, decide_eq_true h3, decide_eq_true h4]; rfl)
            · rw [if_neg h4]
              exact non (by rw [hb, decide_eq_true h3, decide_eq_false h4]; rfl)
          · rw [if_neg fun h => h3 (e0.mp h)]
            exact fin (by rw [hb, decide_eq_false h3]; rfl)
  · have h1' : ¬ ((1 : Int) ≤ s.length ∧ (s.length : Int) ≤ 31) := by omega
    have hb : numB s = false := by
      unfold numB
      rw [decide_eq_false h1, Bool.false_and]
    by_cases h2 : (1 : Int) ≤ s.length
    · have h3 : ¬ ((s.length : Int) ≤ 31) := fun h => h1' ⟨h2, h⟩
      simp [h2, h3]
      exact non hb
    · simp [h2]
      exact non hb
end
end Lw

set_option Elab.async false
set_option linter.all false
set_option maxRecDepth 100000
set_option maxHeartbeats 4000000
namespace Lw
open PySem PySem.Spec PyProof.Rows L2 DL
section
variable {cs : Cs} {M : MH} {Q : Sl → MH → Prop} {E : Addr → List (Str × D) → MH → Prop}
theorem so_boost : PyData.strOk (Str.ofString "boost") = true := by decide +kernel
theorem rd_read_boost : ∀ ds M Q E, sp_read_boost cs ds M Q E → td_read_boost cs (endsD Q E) (startD ["line", "words", "boost"] ds) M := by
  rintro ds M Q E ⟨s, rfl, hs, hl, k⟩
  have szl := sizeLine_eq
  show td_read_boost cs (endsD Q E) [some (.d (.str s)), none, none] M
  obtain ⟨hp, hn⟩ := split_parts (s := s) sp_str (by decide)
  have hok := split_ok (s := s) sp_str (by decide) hs
  have hne := split_ne (s := s) sp_str (by decide)
  have l1 : ¬ ((Str.ofString " ").length = 0) := by decide +kernel
  unfold bo at k
  simp [td_read_boost, l1]
  refine ⟨by omega, ?_⟩
  generalize Txt.split s (Str.ofString " ") = ws at hp hn hok hne k
  have lenw : ∀ w ∈ ws, w.length ≤ 16777216 := fun w hw => by have := (hp w hw).2; omega
  clear hp hn
  match ws, hok, lenw, hne, k with
  | [], _, _, hne, _ => exact absurd rfl hne
  | [w], hok, lenw, _, k =>
    have kk : Q (.d .non) M := k
    simpa using kk
  | [w, n], hok, lenw, _, k =>
    have hw := hok w (by simp)
    have hn := hok n (by simp)
    have ln := lenw n (by simp)
    have kk : Q (.d (if (decide (w = "boost") && isIntD (numD n) 1) = true then numD n else .non)) M := k
    simp [↓sp_number_in_eq, hn, ln, hw, so_boost]
    by_cases h : w = "boost"
    · rw [if_pos h]
      rw [decide_eq_true h, Bool.true_and] at kk
      rcases numD_cases n with h0 | ⟨m, h0⟩
      · rw [h0] at kk ⊢
        rw [eq_of ok_non ok_int]
        have : D.eq .non (.int 0) = false := by simp [D.eq, D.toP, PyData.eqv]
        rw [this]
        simpa [isIntD] using kk
      · rw [h0] at kk ⊢
        simp
        by_cases h1 : m = 0
        · subst h1
          simpa [isIntD] using kk
        · have : isIntD (.int m) 1 = true := by simp [isIntD]; omega
          rw [this, if_pos rfl] at kk
          have h2 : ¬ ((m : Int) = 0) := by omega
          simpa [h1, h2] using kk
    · rw [if_neg h]
      rw [decide_eq_false h] at kk
      exact kk
  | a :: b :: c :: r, hok, lenw, _, k =>
    have kk : Q (.d .non) M := k
    have h3 : ¬ ((r.length : Int) + 1 + 1 + 1 = 2) := by omega
    simpa [h3] using kk
end
end Lw

set_option Elab.async false
set_option linter.all false
set_option maxRecDepth 100000
set_option maxHeartbeats 4000000
namespace Lw
open PySem PySem.Spec PyProof.Rows L2 DL
section
variable {cs : Cs} {M : MH} {Q : Sl → MH → Prop} {E : Addr → List (Str × D) → MH → Prop}
theorem rd_read_level : ∀ ds M Q E, sp_read_level cs ds M Q E → td_read_level cs (endsD Q E) (startD ["line", "words", "quantum"] ds) M := by
  rintro ds M Q E ⟨s, rfl, hs, hl, k⟩
  have szl := sizeLine_eq
  show td_read_level cs (endsD Q E) [some (.d (.str s)), none, none] M
  obtain ⟨hp, hn⟩ := split_parts (s := s) sp_str (by decide)
  have hok := split_ok (s := s) sp_str (by decide) hs
  have hne := split_ne (s := s) sp_str (by decide)
  have l1 : ¬ ((Str.ofString " ").length = 0) := by decide +kernel
  unfold lv at k
  simp [td_read_level, l1]
  refine ⟨by omega, ?_⟩
  generalize Txt.split s (Str.ofString " ") = ws at hp hn hok hne k
  have lenw : ∀ w ∈ ws, w.length ≤ 16777216 := fun w hw => by have := (hp w hw).2; omega
  clear hp hn
  match ws, hok, lenw, hne, k with
  | [], _, _, hne, _ => exact absurd rfl hne
  | [w], hok, lenw, _, k =>
    have kk : Q (.d (if kindW w = true then .tup [.str w, .non] else .non)) M := k
    rw [kindW_eq] at kk
    simp [eq_ss, flat_s]
    by_cases h : w = "queue" ∨ w = "stack"
    · have e : (decide (Str.ofString "queue" = w) || decide (Str.ofString "stack" = w)) = true := by rcases h with h | h <;> simp [h]
      have e' : (decide (w = "queue") || decide (w = "stack")) = true := by rcases h with h | h <;> simp [h]
      rw [e', if_pos rfl] at kk
      rw [e]
      simpa using kk
    · have e : (decide (Str.ofString "queue" = w) || decide (Str.ofString "stack" = w)) = false := by rw [decide_eq_false fun e => h (.inl e.symm), decide_eq_false fun e => h (.inr e.symm)]; rfl
      have e' : (decide (w = "queue") || decide (w = "stack")) = false := by rw [decide_eq_false fun e => h (.inl e), decide_eq_false fun e => h (.inr e)]; rfl
      rw [e', if_neg (by decide)] at kk
      rw [e]
      simpa using kk
  | [w, n], hok, lenw, _, k =>
    have hn := hok n (by simp)
    have ln := lenw n (by simp)
    have kk : Q (.d (if (kindW w && isIntD (numD n) 1) = true then .tup [.str w, numD n] else .non)) M := k
    rw [kindW_eq] at kk
    simp [eq_ss, flat_s, ↓sp_number_in_eq, hn, ln]
    by_cases h : w = "queue" ∨ w = "stack"
    · have e : (decide (Str.ofString "queue" = w) || decide (Str.ofString "stack" = w)) = true := by rcases h with h | h <;> simp [h]
      have e' : (decide (w = "queue") || decide (w = "stack")) = true := by rcases h with h | h <;> simp [h]
      rw [e', Bool.true_and] at kk
      rw [e]
      simp
      rcases numD_cases n with h0 | ⟨m, h0⟩
      · rw [h0] at kk ⊢
        simpa [isIntD] using kk
      · rw [h0] at kk ⊢
        by_cases h1 : (m : Int) < 1
        · have : isIntD (.int m) 1 = false := by simp [isIntD]; omega
          rw [this, if_neg (by decide)] at kk
          simp [h1]
          have : m = 0 := by omega
          simpa [this] using kk
        · have : isIntD (.int m) 1 = true := by simp [isIntD]; omega
          rw [this, if_pos rfl] at kk
          have : ¬ m = 0 := by omega
          simp [h1, this]
          exact kk
    · have e : (decide (Str.ofString "queue" = w) || decide (Str.ofString "stack" = w)) = false := by rw [decide_eq_false fun e => h (.inl e.symm), decide_eq_false fun e => h (.inr e.symm)]; rfl
      have e' : (decide (w = "queue") || decide (w = "stack")) = false := by rw [decide_eq_false fun e => h (.inl e), decide_eq_false fun e => h (.inr e)]; rfl
      rw [e', Bool.false_and, if_neg (by decide)] at kk
      rw [e]
      simpa using kk
  | a :: b :: c :: r, hok, lenw, _, k =>
    have kk : Q (.d .non) M := k
    have h3 : 2 < (r.length : Int) + 1 + 1 + 1 := by omega
    simp [eq_ss, flat_s, h3]
    cases (decide (Str.ofString "queue" = a) || decide (Str.ofString "stack" = a)) <;> simpa using kk
end
end Lw

set_option Elab.async false
set_option linter.all false
set_option maxRecDepth 100000
set_option maxHeartbeats 4000000
namespace Lw
open PySem PySem.Spec PyProof.Rows L2 DL
section
variable {cs : Cs} {M : MH} {Q : Sl → MH → Prop} {E : Addr → List (Str × D) → MH → Prop}
theorem lp_rrule {E0 : DEnds} {s0 : D} : ∀ (r : List Str) (row : Nat) (ls : List D) (b : D) (o3 o4 o5 : Option Sl), (∀ s ∈ r, PyData.strOk s = true ∧ s.length ≤ 1000000) → row + r.length ≤ 1501 → ls.length ≤ 6 → (∀ l ∈ ls, ∃ (w : Str) (q : D), l = .tup [.str w, q] ∧ PyData.strOk w = true ∧ (q = .non ∨ ∃ i, q = .int i)) →
    (∀ ls' b' o3 o4 o5, rdR ls b r row = .tup [.tup ls', b'] → E0.nx [some (.d s0), some (.own ls'), some (.d b'), o3, o4, o5] M) → (∀ i : Nat, rdR ls b r row = .int i → i ≤ 1501 → ∀ δ, E0.ex cs.c_NoText [("row", .int i)] δ M) →
    forD (gTupD 2 (gConsD (gN 3) (gConsD (gN 4) gNilD))) (td_read_rule_B3 cs) E0 (enF row (r.map D.str)) [some (.d s0), some (.own ls), some (.d b), o3, o4, o5] M
  | [], row, ls, b, o3, o4, o5, hr, hi, h6, hls, h1, h2 => by simpa using h1 ls b o3 o4 o5 rfl
  | s :: r, row, ls, b, o3, o4, o5, hr, hi, h6, hls, h1, h2 => by
    obtain ⟨g1, g2⟩ := hr s (List.mem_cons_self ..)
    simp only [List.length_cons] at hi
    have szl := sizeLine_eq
    have hlog : Nat.log2 row < 1920 := Nat.lt_of_le_of_lt (Nat.log2_le_self _) (by omega)
    have okL : D.Ok (.lst ls) := by
      refine ⟨?_, ?_⟩
      · simp only [D.nr]
        exact nrs_iff.mpr fun l hl => by
          obtain ⟨w, q, rfl, hw, hq⟩ := hls l hl
          rcases hq with rfl | ⟨i, rfl⟩ <;> simp [D.nr, D.nrs, hw]
      · have : D.dps ls ≤ 1 := dps_le.mpr fun l hl => by
          obtain ⟨w, q, rfl, hw, hq⟩ := hls l hl
          rcases hq with rfl | ⟨i, rfl⟩ <;> simp [D.dp, D.dps]
        simp only [D.dp]
        omega
    rw [rdR_cons] at h1 h2
    simp [↓u_read_rule_B3, ↓sp_read_level_eq, g1, g2]
    have bad : ∀ δ, (∀ i : Nat, D.int row = D.int i → i ≤ 1501 → ∀ δ, E0.ex cs.c_NoText [("row", .int i)] δ M) → E0.ex cs.c_NoText [("row", .int row)] δ M := fun δ h => h row rfl (by omega) δ
    cases hb : DL.isNon b with
    | false =>
      rw [hb] at h2
      simp at h2
      simpa [hlog] using h2 row rfl (by omega) _
    | true =>
      rw [hb] at h1 h2
      rcases lv_cases s with hlv | ⟨w, q, hlv, hk, hq⟩
      · rw [hlv] at h1 h2 ⊢
        have i0 : DL.isNon D.non = true := rfl
        rw [i0] at h1 h2
        simp
        rw [ne_of okL ok_nilL, eq_nilL]
        cases hE : ls.isEmpty with
        | true =>
          rw [hE] at h2
          simp at h2
          simpa [hlog] using h2 row rfl (by omega) _
        | false =>
          rw [hE] at h1 h2
          simp at h1 h2
          simp [↓sp_read_boost_eq, g1, g2]
          cases hB : DL.isNon (bo s) with
          | true =>
            rw [hB] at h2
            simp at h2
            simpa [hlog] using h2 row rfl (by omega) _
          | false =>
            rw [hB] at h1 h2
            simp at h1 h2
            simpa using lp_rrule r (row + 1) ls (bo s) _ _ _ (fun x hx => hr x (List.mem_cons_of_mem _ hx)) (by omega) h6 hls h1 h2
      · rw [hlv] at h1 h2 ⊢
        have i1 : DL.isNon (.tup [.str w, q]) = false := rfl
        rw [i1] at h1 h2
        simp
        by_cases h : ls.length < 6
        · have h' : (ls.length : Int) < 6 := by omega
          simp [h] at h1 h2
          simp [h, h']
          have hw : PyData.strOk w = true := by
            rw [kindW_eq, Bool.or_eq_true] at hk
            rcases hk with hk | hk
            · rw [of_decide_eq_true hk]; exact so_qs.1
            · rw [of_decide_eq_true hk]; exact so_qs.2
          refine ⟨by omega, lp_rrule r (row + 1) (ls ++ [.tup [.str w, q]]) b _ _ _ (fun x hx => hr x (List.mem_cons_of_mem _ hx)) (by omega) (by simp; omega) (fun l hl => ?_) h1 h2⟩
          rcases List.mem_append.mp hl with hl | hl
          · exact hls l hl
          · simp at hl
            subst hl
            exact ⟨w, q, rfl, hw, hq.imp id fun ⟨i, e, _⟩ => ⟨i, e⟩⟩
        · have h' : ¬ (ls.length : Int) < 6 := by omega
          simp [h] at h2
          simpa [h, h', hlog] using h2 row rfl (by omega) _
theorem rd_read_rule : ∀ ds M Q E, sp_read_rule cs ds M Q E → td_read_rule cs (endsD Q E) (startD ["text", "levels", "boost", "row", "line", "level"] ds) M := by
  rintro ds M Q E ⟨s, rfl, hs, hl, k1, k2⟩
  have szl := sizeLine_eq
  show td_read_rule cs (endsD Q E) [some (.d (.str s)), none, none, none, none, none] M
  obtain ⟨hp, hn⟩ := split_parts (s := s) nl_str (by decide)
  have hok := split_ok (s := s) nl_str (by decide) hs
  have l1 : ¬ ((Str.ofString "\n").length = 0) := by decide +kernel
  have e : ruleT s = rdR [] .non (Txt.split s (Str.ofString "\n")) 0 := rfl
  rw [e] at k1 k2
  simp [td_read_rule]
  simp [↓u_read_rule_L3, enD_enF, l1]
  refine ⟨by omega, ?_⟩
  generalize Txt.split s (Str.ofString "\n") = ws at hp hn hok k1 k2
  refine lp_rrule ws 0 [] .non _ _ _ (fun l h => ⟨hok l h, by have := (hp l h).2; omega⟩) (by omega) (by decide) (fun l hl => by cases hl) (fun ls' b' o3 o4 o5 h => ?_) fun i h hi δ => k1 i h hi
  simpa [↓u_read_rule_R3] using k2 _ h
end
end Lw

set_option Elab.async false
set_option linter.all false
set_option maxRecDepth 100000
set_option maxHeartbeats 4000000
namespace Lw
open PySem PySem.Spec PyProof.Rows L2 DL
section
variable {cs : Cs} {M : MH} {Q : Sl → MH → Prop} {E : Addr → List (Str × D) → MH → Prop}
theorem rdR_cases : ∀ (r : List Str) (ls : List D) (b : D) (row : Nat), (b = .non ∨ ∃ i : Int, b = .int i ∧ 1 ≤ i) → (∃ i : Nat, rdR ls b r row = .int i ∧ i ≤ row + r.length) ∨ ∃ ls' b', rdR ls b r row = .tup [.tup ls', b'] ∧ (b' = .non ∨ ∃ i : Int, b' = .int i) ∧ ((∀ l ∈ ls, ∃ (w : Str) (q : D), l = .tup [.str w, q] ∧ PyData.strOk w = true ∧ (q = .non ∨ ∃ i, q = .int i)) → ∀ l ∈ ls', ∃ (w : Str) (q : D), l = .tup [.str w, q] ∧ PyData.strOk w = true ∧ (q = .non ∨ ∃ i, q = .int i))
  | [], ls, b, row, hb => .inr ⟨ls, b, rfl, hb.imp id fun ⟨i, e, _⟩ => ⟨i, e⟩, fun h => h⟩
  | s :: r, ls, b, row, hb => by
    rw [rdR_cons]
    split
    · rcases rdR_cases r (ls ++ [lv s]) b (row + 1) hb with ⟨i, h1, h2⟩ | ⟨ls', b', h1, h2, h3⟩
      · exact .inl ⟨i, h1, by simp; omega⟩
      · refine .inr ⟨ls', b', h1, h2, fun h => h3 fun l hl => ?_⟩
        rcases List.mem_append.mp hl with hl | hl
        · exact h l hl
        · simp at hl
          subst hl
          rename_i hc
          rcases lv_cases s with hlv | ⟨w, q, hlv, hk, hq⟩
          · rw [hlv] at hc
            simp at hc
          · rw [hlv]
            refine ⟨w, q, rfl, ?_, hq.imp id fun ⟨i, e, _⟩ => ⟨i, e⟩⟩
            rw [kindW_eq, Bool.or_eq_true] at hk
            rcases hk with hk | hk
            · rw [of_decide_eq_true hk]; exact so_qs.1
            · rw [of_decide_eq_true hk]; exact so_qs.2
    · split
      · split
        · exact .inl ⟨row, rfl, by omega⟩
        · rcases rdR_cases r ls (bo s) (row + 1) (bo_cases s) with ⟨i, h1, h2⟩ | ⟨ls', b', h1, h2, h3⟩
          · exact .inl ⟨i, h1, by simp; omega⟩
          · exact .inr ⟨ls', b', h1, h2, h3⟩
      · exact .inl ⟨row, rfl, by omega⟩
theorem rd_law_right (T : Kx cs) : ∀ ds M Q E, sp_law_right cs ds M Q E → td_law_right cs (endsD Q E) (startD ["text", "due", "caught", "found", "e"] ds) M := by
  rintro ds M Q E ⟨s, rfl, hs, hl, k⟩
  have szl := sizeLine_eq
  show td_law_right cs (endsD Q E) [some (.d (.str s)), none, none, none, none] M
  have hn := (split_parts (s := s) nl_str (by decide)).2
  rcases rdR_cases (Txt.split s (Str.ofString "\n")) [] .non 0 (.inl rfl) with ⟨i, h1, h2⟩ | ⟨ls', b', h1, h2, h3⟩
  · have h1 : ruleT s = .int i := h1
    have hk := T.kd_NoText
    have hx := T.xm_NoText_SlotError
    simp [td_law_right, ↓sp_law_due_eq, ↓sp_read_rule_eq, hs, hl, h1, hx, ↓u_law_right_R4]
    intro j hj _ a ha
    have hj : i = j := by omega
    subst hj
    have o1 : D.Ok (.tup [.str "text", .int i]) := ⟨by simp [D.nr, D.nrs]; decide +kernel, by simp [D.dp, D.dps]⟩
    refine ⟨a, cs.c_NoText, [("row", .int i)], 7, .int i, rfl, mu_same, hk, fun h => (by cases h), fun f hf => (by cases hf; rfl), ?_⟩
    simp [kname]
    rw [eq_of o1 o1, DL.eq_self o1.1]
    exact k _ fun b o hb => by
      by_cases e : b = a
      · subst e; rw [ha] at hb; cases hb
      · rw [mu_ne e]; exact hb
  · have h1 : ruleT s = .tup [.tup ls', b'] := h1
    have h3 := h3 fun l hl => by cases hl
    have okv : D.Ok (.tup [.tup ls', b']) := by
      have hb : b'.nr = true ∧ b'.dp = 0 := by rcases h2 with rfl | ⟨i, rfl⟩ <;> simp [D.nr, D.dp]
      have hd : D.dps ls' ≤ 1 := dps_le.mpr fun l hl => by
        obtain ⟨w, q, rfl, hw, hq⟩ := h3 l hl
        rcases hq with rfl | ⟨i, rfl⟩ <;> simp [D.dp, D.dps]
      have hn : D.nrs ls' = true := nrs_iff.mpr fun l hl => by
        obtain ⟨w, q, rfl, hw, hq⟩ := h3 l hl
        rcases hq with rfl | ⟨i, rfl⟩ <;> simp [D.nr, D.nrs, hw]
      refine ⟨by simp [D.nr, D.nrs, hb.1, hn], ?_⟩
      simp only [D.dp, D.dps, hb.2]
      omega
    simp [td_law_right, ↓sp_law_due_eq, ↓sp_read_rule_eq, hs, hl, h1, ↓u_law_right_R4]
    rw [eq_of okv okv, DL.eq_self okv.1]
    simp
    exact k M fun _ _ h => h
end
end Lw

set_option Elab.async false
set_option linter.all false
set_option maxRecDepth 100000
set_option maxHeartbeats 4000000
namespace Lw
open PySem PySem.Spec PyProof.Rows L2 DL
section
variable {cs : Cs} {M : MH} {Q : Sl → MH → Prop} {E : Addr → List (Str × D) → MH → Prop}
theorem lp_rlines {E0 : DEnds} {o0 : Option Sl} : ∀ (ls : List D) (acc : List Str) (o2 o3 : Option Sl), (∀ l ∈ ls, LevB l) → acc.length + ls.length ≤ 1000 → (∀ o2 o3, E0.nx [o0, some (.own ((acc ++ ls.map lineR).map D.str)), o2, o3] M) →
    forD (gTupD 2 (gConsD (gN 2) (gConsD (gN 3) gNilD))) (td_law_rule_lines_B2 cs) E0 ls [o0, some (.own (acc.map D.str)), o2, o3] M
  | [], acc, o2, o3, hl, ha, k => by simpa using k o2 o3
  | l :: ls, acc, o2, o3, hl, ha, k => by
    have szl := sizeLine_eq
    obtain ⟨kk, q, rfl, hk, hq⟩ := hl l (List.mem_cons_self ..)
    obtain ⟨l1, l2, l3, l4, l5, l6⟩ := lit_len
    obtain ⟨b1, b2⟩ := lit_b
    obtain ⟨k1, k2, k3, k4⟩ := fit_kind hk
    simp only [List.length_cons] at ha
    have more : ∀ w : Str, lineR (.tup [.str kk, q]) = w → ∀ o2 o3, forD (gTupD 2 (gConsD (gN 2) (gConsD (gN 3) gNilD))) (td_law_rule_lines_B2 cs) E0 ls [o0, some (.own (acc.map D.str ++ [.str w])), o2, o3] M := fun w e o2 o3 => by
      have := lp_rlines ls (acc ++ [w]) o2 o3 (fun l h => hl l (List.mem_cons_of_mem _ h)) (by simp; omega) (by simpa [e] using k)
      simpa using this
    rcases hq with rfl | ⟨i, rfl, hi1, hi2⟩
    · simp [↓u_law_rule_lines_B2, app_len, l1, l6, b2]
      repeat refine And.intro (by omega) ?_
      exact more _ (by rw [lineR_n]; exact app_nil.symm) _ _
    · have lm := numI_len (m := i) (by omega) hi2
      have g1 := log_small (m := i) (by omega) hi2
      simp [↓u_law_rule_lines_B2, app_len, l1, l6, g1]
      repeat refine And.intro (by omega) ?_
      exact more _ (by rw [lineR_i, nil_app, app_assoc]) _ _
theorem rd_law_rule_lines : ∀ ds M Q E, sp_law_rule_lines cs ds M Q E → td_law_rule_lines cs (endsD Q E) (startD ["policy", "lines", "kind", "quantum"] ds) M := by
  rintro ds M Q E ⟨v, rfl, ⟨ls, b, rfl, h1, h2, hl, hb⟩, k⟩
  have szl := sizeLine_eq
  show td_law_rule_lines cs (endsD Q E) [some (.d (.tup [.tup ls, b])), none, none, none] M
  obtain ⟨l1, l2, l3, l4, l5, l6⟩ := lit_len
  obtain ⟨b1, b2⟩ := lit_b
  simp [td_law_rule_lines]
  simp [↓u_law_rule_lines_L2]
  refine lp_rlines ls [] _ _ hl (by simp; omega) fun o2 o3 => ?_
  simp [↓u_law_rule_lines_R2]
  have e : List.map (D.str ∘ lineR) ls = (ls.map lineR).map D.str := by rw [List.map_map]
  rcases hb with rfl | ⟨i, rfl, hi1, hi2⟩
  · rw [linesR_n] at k
    simpa [↓u_law_rule_lines_R4] using k
  · rw [linesR_i] at k
    have lm := numI_len (m := i) (by omega) hi2
    have g1 := log_small (m := i) (by omega) hi2
    simp [app_len, b1, l6, g1, ↓u_law_rule_lines_R4]
    repeat refine And.intro (by omega) ?_
    simpa [nil_app] using k
end
end Lw

set_option Elab.async false
set_option linter.all false
set_option maxRecDepth 100000
set_option maxHeartbeats 4000000
namespace Lw
open PySem PySem.Spec PyProof.Rows L2 DL
section
variable {cs : Cs} {M : MH} {Q : Sl → MH → Prop} {E : Addr → List (Str × D) → MH → Prop}
theorem e_sSet {te ti : DX} {j : Nat} {E : DEnds} {δ : DS} {M : MH} : sSet te j ti E δ M = te δ M (fun d M1 => ti δ M1 (fun x M2 => pk δ j fun s => asO s fun xs => asI x fun k => setI xs k d fun xs' => setK δ j (some (.own xs')) fun δ' => E.nx δ' M2) E.ex) E.ex := by
  unfold sSet
  congr 1
  funext d M1
  congr 1
  funext x M2
  exact propext ⟨fun ⟨xs, k, n, h1, h2, h3, q⟩ => ⟨_, h1, xs, rfl, k, h2, n, h3, q⟩, fun ⟨_, h1, xs, e, k, h2, n, h3, q⟩ => ⟨xs, k, n, by rw [h1, e], h2, h3, q⟩⟩
theorem setI_at {xs : List D} {i : Int} {d : D} {k : List D → Prop} (h0 : 0 ≤ i) (h : i < xs.length) : setI xs i d k = k (xs.set i.toNat d) := by
  have e : ixN xs.length i = some i.toNat := by
    unfold ixN
    rw [if_pos h0, if_pos h]
  exact propext ⟨fun ⟨n, h', q⟩ => by rw [e] at h'; cases h'; exact q, fun q => ⟨_, e, q⟩⟩
theorem sl_R5 {a b : Addr} {s : Str} {way : Int} {o2 o4 : Option Sl} {n : Nat} {ws : List Str} {M : MH} (hs : StoreAt M a n) (hb : M b = some (.lst (ws.map D.str))) (hok : ∀ w ∈ ws, PyData.strOk w = true) (hj : jl ws ≤ 300000) (hn : n < 2 ^ 60)
    (k : ∀ (w : Str) M', PyData.strOk w = true → w.length ≤ jl ws + 1 → StoreAt M' a (n + 4) → (∀ c, c ≠ a → M' c = M c) → Q (.d (.str w)) M') :
    td_law_spoilt_line_R5 cs (endsD Q E) [some (.d (.ref a)), some (.d (.str s)), o2, some (.d (.ref b)), o4, some (.d (.int way)), none, none, none, none] M := by
  have szl := sizeLine_eq
  have e1 : (Str.ofString " ").length = 1 := by decide +kernel
  simp [↓u_law_spoilt_line_R5]
  rw [jn_r hb]
  refine ⟨by rw [e1, Nat.mul_one, sum_jl]; omega, ?_⟩
  have hT := join_le (y := Str.ofString " ") e1 (ws := ws)
  have hTo : PyData.strOk (Txt.join (Str.ofString " ") ws) = true := by rw [TL.join_eq]; exact join_ok (by decide +kernel) hok
  generalize Txt.join (Str.ofString " ") ws = tt at hT hTo
  simp
  refine ⟨by omega, a, tt.length + 1, n, rfl, hs, by omega, by omega, by omega, fun cut M1 hc0 hc1 hs1 fr1 => ?_⟩
  simp
  refine ⟨a, 9, n + 1, rfl, hs1, by decide, by decide, by omega, fun ch M2 hc20 hc21 hs2 fr2 => ?_⟩
  simp
  refine ixI_mem (by omega) (by simp; omega) fun d hd => ?_
  obtain ⟨x, rfl, hx, hxl⟩ := (short_of (k := 1) (by decide +kernel) : ShortS _ 1) d hd
  have fr : ∀ c, c ≠ a → M2 c = M c := fun c hc => by rw [fr2 c hc, fr1 c hc]
  simp
  by_cases h6 : way = 4
  · rw [if_pos h6]
    have c1 := @cut_len tt none (some cut)
    have c2 := @cut_len tt (some cut) none
    have c3 := @cut_len tt (some (cut + 1)) none
    have g1 := @strOk_cut tt none (some cut) hTo
    have g2 := @strOk_cut tt (some cut) none hTo
    have g3 := @strOk_cut tt (some (cut + 1)) none hTo
    simp [app_len]
    repeat refine And.intro (by omega) ?_
    refine ⟨a, 3, n + 1 + 1, rfl, hs2, by decide, by decide, by omega, fun f M3 hf0 hf1 hs3 fr3 => ?_⟩
    have l12 : (cutS tt none (some cut)).length + (cutS tt (some cut) none).length ≤ tt.length := by
      have : ∀ z : Str, z.length = z.cps.toList.length := fun z => by simp [Str.length]
      rw [this (cutS tt none (some cut)), this (cutS tt (some cut) none), this tt, cut_cps, cut_cps, cutA_to hc0, cutA_from hc0, List.length_take, List.length_drop]
      omega
    have l13 : (cutS tt none (some cut)).length + (cutS tt (some (cut + 1)) none).length ≤ tt.length := by
      have : ∀ z : Str, z.length = z.cps.toList.length := fun z => by simp [Str.length]
      rw [this (cutS tt none (some cut)), this (cutS tt (some (cut + 1)) none), this tt, cut_cps, cut_cps, cutA_to hc0, cutA_from (by omega), List.length_take, List.length_drop]
      omega
    simp
    refine ixI_mem (by omega) (by show f < ((3 : Nat) : Int); omega) fun d hd => ?_
    have fr' : ∀ c, c ≠ a → M3 c = M c := fun c hc => by rw [fr3 c hc, fr c hc]
    have hs3' := store_mono hs3 (m := n + 4) (by omega)
    simp at hd
    rcases hd with rfl | rfl | rfl
    · simpa [↓u_law_spoilt_line_R16] using k _ M3 (strOk_app (strOk_app g1 hx) g2) (by rw [app_len, app_len]; omega) hs3' fr'
    · simpa [↓u_law_spoilt_line_R16] using k _ M3 (strOk_app g1 g3) (by rw [app_len]; omega) hs3' fr'
    · simpa [↓u_law_spoilt_line_R16] using k _ M3 (strOk_app (strOk_app g1 hx) g3) (by rw [app_len, app_len]; omega) hs3' fr'
  · rw [if_neg h6]
    simpa [↓u_law_spoilt_line_R16] using k tt M2 hTo (by omega) (store_mono hs2 (by omega)) fr
theorem rd_law_spoilt_line : ∀ ds M Q E, sp_law_spoilt_line cs ds M Q E → td_law_spoilt_line cs (endsD Q E) (startD ["store", "line", "some", "words", "at", "way", "text", "cut", "char", "forms"] ds) M := by
  rintro ds M Q E ⟨a, n, s, rfl, hs, hn, hso, hl, k⟩
  have szl := sizeLine_eq
  show td_law_spoilt_line cs (endsD Q E) [some (.d (.ref a)), some (.d (.str s)), none, none, none, none, none, none, none, none] M
  obtain ⟨hp, hpl⟩ := split_parts (s := s) sp_str (by decide)
  have hok := split_ok (s := s) sp_str (by decide) hso
  have hjl := split_jl (s := s) sp_str (by decide)
  have hne := split_ne (s := s) sp_str (by decide)
  have hlen : (Txt.split s (Str.ofString " ")).length ≠ 0 := fun h => hne (List.length_eq_zero_iff.mp h)
  have l1 : ¬ ((Str.ofString " ").length = 0) := by decide +kernel
  simp [td_law_spoilt_line, l1]
  refine ⟨by decide +kernel, by omega, fun b hb => ?_⟩
  generalize Txt.split s (Str.ofString " ") = ws at hp hpl hok hjl hlen
  have hab : b ≠ a := fun e => by
    obtain ⟨_, _, _, _, _, h, _⟩ := hs
    rw [← e, hb] at h
    cases h
  have s1 : StoreAt (mu M b (.lst (ws.map D.str))) a n := by
    obtain ⟨cs, i, l, x, d, h1, h2⟩ := hs
    exact ⟨cs, i, l, x, d, by rw [mu_ne (fun e => hab e.symm)]; exact h1, h2⟩
  refine ⟨a, ws.length, n, rfl, s1, by omega, by omega, by omega, fun at_ M1 hat0 hat1 hs1 fr1 => ?_⟩
  have b1 : M1 b = some (.lst (ws.map D.str)) := by rw [fr1 b hab, mu_same]
  try simp
  refine ⟨a, 5, n + 1, rfl, hs1, by decide, by decide, by omega, fun way M3 hw0 hw1 hs3 fr3 => ?_⟩
  have b3 : M3 b = some (.lst (ws.map D.str)) := by rw [fr3 b hab, b1]
  have f3 : ∀ c, c ≠ a → c ≠ b → M3 c = M c := fun c hc hcb => by rw [fr3 c hc, fr1 c hc, mu_ne hcb]
  have fin : ∀ (vs : List Str) (M4 : MH) (d : Nat), (∀ w ∈ vs, PyData.strOk w = true) → jl vs ≤ s.length + 49 → StoreAt M4 a (n + d) → d ≤ 15 → M4 b = some (.lst (vs.map D.str)) → (∀ c, c ≠ a → c ≠ b → M4 c = M c) → ∀ o2 o4,
      td_law_spoilt_line_R5 cs (endsD Q E) [some (.d (.ref a)), some (.d (.str s)), o2, some (.d (.ref b)), o4, some (.d (.int way)), none, none, none, none] M4 := fun vs M4 d h1 h2 h3 hd h4 h5 o2 o4 =>
    sl_R5 h3 h4 h1 (by omega) (by omega) fun w M' g1 g2 g3 g4 => k w M' g1 (by omega) (store_mono g3 (by omega)) fun c hc hM => by
      have hcb : c ≠ b := fun e => hM (by rw [e]; exact hb)
      rw [g4 c hc, h5 c hc hcb]
  generalize hS : [D.str (Str.ofString "queue"), D.str (Str.ofString "stack"), D.str (Str.ofString "boost"), D.str (Str.ofString "0"), D.str (Str.ofString "00"), D.str (Str.ofString "01"), D.str (Str.ofString "1"), D.str (Str.ofString "-1"), D.str (Str.ofString "+1"), D.str (Txt.mul (Str.ofString "1") 31), D.str (Txt.mul (Str.ofString "1") 32), D.str (Str.ofString ""), D.str (Str.ofString "Queue"), D.str (Str.ofString "heap"), D.str (Str.ofString "x")] = L
  have hL : ShortS L 32 ∧ L.length = 15 := by
    subst hS
    exact ⟨short_of (by decide +kernel), rfl⟩
  clear hS
  simp [lk_at b3]
  have hat : at_.toNat < ws.length := by omega
  have put : ∀ (vs : List Str) (M4 : MH) (d : Nat), StoreAt M4 a (n + d) → (∀ c, c ≠ a → c ≠ b → M4 c = M c) → StoreAt (mu M4 b (.lst (vs.map D.str))) a (n + d) ∧ (mu M4 b (.lst (vs.map D.str))) b = some (.lst (vs.map D.str)) ∧ ∀ c, c ≠ a → c ≠ b → (mu M4 b (.lst (vs.map D.str))) c = M c := fun vs M4 d h1 h2 => by
    refine ⟨?_, mu_same, fun c h3 h4 => by rw [mu_ne h4, h2 c h3 h4]⟩
    obtain ⟨cs, i, l, x, e, h3, h4⟩ := h1
    exact ⟨cs, i, l, x, e, by rw [mu_ne (fun e => hab e.symm)]; exact h3, h4⟩
  have rest0 : ∀ o2 o4, td_law_spoilt_line_R5 cs (endsD Q E) [some (.d (.ref a)), some (.d (.str s)), o2, some (.d (.ref b)), o4, some (.d (.int way)), none, none, none, none] M3 := fin ws M3 2 hok (by omega) hs3 (by omega) b3 f3
  have setW : ∀ (w : Str) (kk : List D → Prop), setI (ws.map D.str) at_ (.str w) kk = kk ((ws.set at_.toNat w).map D.str) := fun w kk => by
    rw [setI_at hat0 (by simpa using hat1), List.map_set]
  by_cases h0 : way = 0
  · rw [if_pos h0]
    refine ⟨a, 15, n + 1 + 1, rfl, hs3, by decide, by decide, by omega, fun f M4 hf0 hf1 hs4 fr4 => ?_⟩
    have b4 : M4 b = some (.lst (ws.map D.str)) := by rw [fr4 b hab, b3]
    try simp
    refine ixI_mem hf0 (by rw [hL.2]; exact hf1) fun d hd => ?_
    obtain ⟨w, rfl, hw1, hw2⟩ := hL.1 d hd
    simp [lk_at b4]
    refine ⟨by omega, hat0, by omega, ?_⟩
    have e : (List.take at_.toNat (List.map D.str ws) ++ D.str w :: List.drop at_.toNat (List.map D.str ws)) = (ws.take at_.toNat ++ [w] ++ ws.drop at_.toNat).map D.str := by simp [List.map_take, List.map_drop]
    rw [e]
    obtain ⟨g1, g2, g3⟩ := put (ws.take at_.toNat ++ [w] ++ ws.drop at_.toNat) M4 3 hs4 fun c h1 h2 => by rw [fr4 c h1, f3 c h1 h2]
    refine fin _ _ 3 (fun z hz => ?_) (by rw [jl_ins]; omega) g1 (by omega) g2 g3 _ _
    simp only [List.mem_append, List.mem_singleton] at hz
    rcases hz with (hz | rfl) | hz
    · exact hok z (List.mem_of_mem_take hz)
    · exact hw1
    · exact hok z (List.mem_of_mem_drop hz)
  rw [if_neg h0]
  have skip : ∀ (A B C : Prop), (¬ (way = 1 ∧ 1 < (ws.length : Int))) → C → (way = 1 → B) → (if way = 1 then if 1 < (ws.length : Int) then A else B else C) := fun A B C h hC hB => by
    by_cases e : way = 1
    · rw [if_pos e, if_neg fun h' => h ⟨e, h'⟩]; exact hB e
    · rw [if_neg e]; exact hC
  by_cases h1 : way = 1 ∧ 1 < (ws.length : Int)
  · rw [if_pos h1.1, if_pos h1.2, poI_at hat0 (by simpa using hat1) (by simp; omega), er_map]
    obtain ⟨g1, g2, g3⟩ := put (ws.eraseIdx at_.toNat) M3 2 hs3 f3
    exact fin _ _ 2 (fun w hw => hok w (er_mem hw)) (by have := jl_erase (ws := ws) (i := at_.toNat); omega) g1 (by omega) g2 g3 _ _
  refine skip _ _ _ h1 ?_ fun e => ?_
  · by_cases h2 : way = 2
    · rw [if_pos h2]
      refine ⟨a, 15, n + 1 + 1, rfl, hs3, by decide, by decide, by omega, fun f M4 hf0 hf1 hs4 fr4 => ?_⟩
      have b4 : M4 b = some (.lst (ws.map D.str)) := by rw [fr4 b hab, b3]
      try simp
      refine ixI_mem hf0 (by rw [hL.2]; exact hf1) fun d hd => ?_
      obtain ⟨w, rfl, hw1, hw2⟩ := hL.1 d hd
      simp [lk_at b4]
      rw [setW]
      obtain ⟨g1, g2, g3⟩ := put (ws.set at_.toNat w) M4 3 hs4 fun c h1 h2 => by rw [fr4 c h1, f3 c h1 h2]
      refine fin _ _ 3 (fun z hz => ?_) (by have := jl_set (w := w) hat; omega) g1 (by omega) g2 g3 _ _
      rcases set_mem hz with rfl | hz
      · exact hw1
      · exact hok z hz
    rw [if_neg h2]
    by_cases h3 : way = 3
    · rw [if_pos h3]
      intro c hc
      have hca : c ≠ a := fun e => by
        obtain ⟨_, _, _, _, _, h, _⟩ := hs3
        rw [← e, hc] at h
        cases h
      have hMc : M c = none := by
        have hcb : c ≠ b := fun e => by rw [e, b3] at hc; cases hc
        rw [← f3 c hca hcb]
        exact hc
      have e : (List.map D.str ws).reverse = ws.reverse.map D.str := by simp
      have s6 : StoreAt (mu M3 c (.lst ((List.map D.str ws).reverse))) a (n + 2) := by
        obtain ⟨cs, i, l, x, e, h3, h4⟩ := hs3
        exact ⟨cs, i, l, x, e, by rw [mu_ne (fun e => hca e.symm)]; exact h3, h4⟩
      rw [e] at s6 ⊢
      have hjr : jl ws.reverse = jl ws := by
        unfold jl
        rw [List.map_reverse, List.sum_reverse]
      refine sl_R5 (ws := ws.reverse) s6 mu_same (fun z hz => hok z (List.mem_reverse.mp hz)) (by rw [hjr]; omega) (by omega) fun w M' g1 g2 g3 g4 => k w M' g1 (by rw [hjr] at g2; omega) (store_mono g3 (by omega)) fun z hz hM => ?_
      have hzc : z ≠ c := fun e => hM (by rw [e]; exact hMc)
      have hzb : z ≠ b := fun e => hM (by rw [e]; exact hb)
      rw [g4 z hz, mu_ne hzc, f3 z hz hzb]
    rw [if_neg h3]
    exact rest0 _ _
  · subst e
    simpa using rest0 _ _
end
end Lw

set_option Elab.async false
set_option linter.all false
set_option maxRecDepth 100000
set_option maxHeartbeats 4000000
namespace Lw
open PySem PySem.Spec PyProof.Rows L2 DL
section
variable {cs : Cs} {M : MH} {Q : Sl → MH → Prop} {E : Addr → List (Str × D) → MH → Prop}
def bL : Nat → Nat
  | 0 => 40
  | c + 1 => bL c + 50
def bT : Nat → Nat
  | 0 => 287
  | c + 1 => bT c + bL c + 51
def goodT (c : Nat) (ls : List Str) : Prop := ls ≠ [] ∧ (∀ w ∈ ls, PyData.strOk w = true ∧ w.length ≤ bL c) ∧ jl ls ≤ bT c
theorem bL_le {c : Nat} (h : c ≤ 3) : bL c ≤ 190 ∧ bT c ≤ 710 ∧ 40 ≤ bL c := by
  match c, h with
  | 0, _ => decide
  | 1, _ => decide
  | 2, _ => decide
  | 3, _ => decide
theorem goodT.up {c : Nat} {ls : List Str} (h : goodT c ls) : goodT (c + 1) ls := ⟨h.1, fun w hw => ⟨(h.2.1 w hw).1, by have := (h.2.1 w hw).2; show w.length ≤ bL c + 50; omega⟩, by have := h.2.2; show jl ls ≤ bT c + bL c + 51; omega⟩
theorem goodT.up3 : ∀ {c : Nat} {ls : List Str}, c ≤ 3 → goodT c ls → goodT 3 ls
  | 3, _, _, h => h
  | 2, _, _, h => h.up
  | 1, _, _, h => h.up.up
  | 0, _, _, h => h.up.up.up
theorem goodT.erase {c i : Nat} {ls : List Str} (h : goodT c ls) (h1 : 1 < ls.length) : goodT (c + 1) (ls.eraseIdx i) := by
  refine goodT.up ⟨fun e => ?_, fun w hw => h.2.1 w (er_mem hw), Nat.le_trans jl_erase h.2.2⟩
  have := congrArg List.length e
  rw [List.length_eraseIdx] at this
  simp at this
  split at this <;> omega
theorem goodT.ins {c i : Nat} {ls : List Str} {w : Str} (h : goodT c ls) (hw' : PyData.strOk w = true ∧ w.length ≤ bL c) : goodT (c + 1) (ls.take i ++ [w] ++ ls.drop i) := by
  refine ⟨by simp, fun z hz => ?_, ?_⟩
  · simp only [List.mem_append, List.mem_singleton] at hz
    rcases hz with (hz | rfl) | hz
    · exact (goodT.up h).2.1 z (List.mem_of_mem_take hz)
    · exact ⟨hw'.1, by have := hw'.2; show z.length ≤ bL c + 50; omega⟩
    · exact (goodT.up h).2.1 z (List.mem_of_mem_drop hz)
  · rw [jl_ins]
    have := h.2.2
    show _ ≤ bT c + bL c + 51
    omega
theorem goodT.set {c i : Nat} {ls : List Str} {w : Str} (h : goodT c ls) (hi : i < ls.length) (h1 : PyData.strOk w = true) (h2 : w.length ≤ ls[i].length + 50) : goodT (c + 1) (ls.set i w) := by
  have hm := h.2.1 _ (List.getElem_mem hi)
  refine ⟨fun e => ?_, fun z hz => ?_, ?_⟩
  · have := List.length_set (as := ls) (i := i) (a := w)
    rw [e] at this
    simp at this
    omega
  · rcases set_mem hz with rfl | hz
    · exact ⟨h1, by show z.length ≤ bL c + 50; omega⟩
    · exact (goodT.up h).2.1 z hz
  · have := jl_set (w := w) hi
    have := h.2.2
    show _ ≤ bT c + bL c + 51
    omega
theorem goodT.swap {c i j : Nat} {ls : List Str} (h : goodT c ls) (hi : i < ls.length) (hj : j < ls.length) : goodT (c + 1) ((ls.set i ls[j]).set j ls[i]) := by
  have mi := h.2.1 _ (List.getElem_mem hi)
  have mj := h.2.1 _ (List.getElem_mem hj)
  refine ⟨fun e => ?_, fun z hz => ?_, ?_⟩
  · have := congrArg List.length e
    rw [List.length_set, List.length_set, List.length_nil] at this
    omega
  · have : z ∈ ls := by
      rcases set_mem hz with rfl | hz
      · exact List.getElem_mem hi
      · rcases set_mem hz with rfl | hz
        · exact List.getElem_mem hj
        · exact hz
    exact (goodT.up h).2.1 z this
  · have j1 := jl_set (w := ls[j]) hi
    have j2 := jl_set (w := ls[i]) (ws := ls.set i ls[j]) (i := j) (by simpa using hj)
    have e : (ls.set i ls[j])[j]'(by simpa using hj) = ls[j] := by
      rw [List.getElem_set]
      split <;> rfl
    rw [e] at j2
    have := h.2.2
    show _ ≤ bT c + bL c + 51
    omega
theorem st_L2 {a b : Addr} {n0 : Nat} {M0 : MH} {E0 : DEnds} (hn : n0 < 2 ^ 51) (hab : b ≠ a) : ∀ (xs : List D) (c : Nat) (ls : List Str) (o2 o3 o4 o5 : Option Sl) (M : MH) (d : Nat), c + xs.length ≤ 3 → StoreAt M a (n0 + d) → d + 30 * xs.length ≤ 100 →
    M b = some (.lst (ls.map D.str)) → goodT c ls → (∀ z, z ≠ a → z ≠ b → M0 z ≠ none → M z = M0 z) →
    (∀ ls o2 o3 o4 o5 M', goodT 3 ls → StoreAt M' a (n0 + 100) → M' b = some (.lst (ls.map D.str)) → (∀ z, z ≠ a → z ≠ b → M0 z ≠ none → M' z = M0 z) → E0.nx [some (.d (.ref a)), some (.d (.ref b)), o2, o3, o4, o5, none] M') →
    forD (gN 2) (td_law_spoilt_B2 cs) E0 xs [some (.d (.ref a)), some (.d (.ref b)), o2, o3, o4, o5, none] M
  | [], c, ls, o2, o3, o4, o5, M, d, hc, hs, hd, hb, hg, hf, k => by simpa using k ls o2 o3 o4 o5 M (hg.up3 (by omega)) (store_mono hs (by omega)) hb hf
  | x :: r, c, ls, o2, o3, o4, o5, M, d, hc, hs, hd, hb, hg, hf, k => by
    simp only [List.length_cons] at hc hd
    have szl := sizeLine_eq
    have bnd := bL_le (c := c) (by omega)
    have hlen : ls.length ≠ 0 := fun h => hg.1 (List.length_eq_zero_iff.mp h)
    have hjl := jl_len (ws := ls)
    have hgj := hg.2.2
    have more : ∀ (ls' : List Str) (M' : MH) (d' : Nat), StoreAt M' a (n0 + d') → d' ≤ d + 30 → M' b = some (.lst (ls'.map D.str)) → goodT (c + 1) ls' → (∀ z, z ≠ a → z ≠ b → M0 z ≠ none → M' z = M0 z) → ∀ o2 o3 o4 o5,
        forD (gN 2) (td_law_spoilt_B2 cs) E0 r [some (.d (.ref a)), some (.d (.ref b)), o2, o3, o4, o5, none] M' := fun ls' M' d' h1 h2 h3 h4 h5 o2 o3 o4 o5 =>
      st_L2 hn hab r (c + 1) ls' o2 o3 o4 o5 M' d' (by omega) h1 (by omega) h3 h4 h5 k
    have putS : ∀ (vs : List Str) (M4 : MH) (d : Nat), StoreAt M4 a (n0 + d) → StoreAt (mu M4 b (.lst (vs.map D.str))) a (n0 + d) := fun vs M4 d h1 => by
      obtain ⟨cs, i, l, x, e, h3, h4⟩ := h1
      exact ⟨cs, i, l, x, e, by rw [mu_ne (fun e => hab e.symm)]; exact h3, h4⟩
    simp [↓u_law_spoilt_B2, lk_at hb]
    refine ⟨a, ls.length, n0 + d, rfl, hs, by omega, by omega, by omega, fun i M1 hi0 hi1 hs1 fr1 => ?_⟩
    have b1 : M1 b = some (.lst (ls.map D.str)) := by rw [fr1 b hab, hb]
    simp [lk_at b1]
    refine ⟨a, ls.length, n0 + d + 1, rfl, hs1, by omega, by omega, by omega, fun th M2 ht0 ht1 hs2 fr2 => ?_⟩
    have b2 : M2 b = some (.lst (ls.map D.str)) := by rw [fr2 b hab, b1]
    have hit : i.toNat < ls.length := by omega
    have htt : th.toNat < ls.length := by omega
    have getW : ∀ (j : Int) (h0 : 0 ≤ j) (h : j.toNat < ls.length) (kk : D → Prop), ixI (ls.map D.str) j kk = kk (.str (ls[j.toNat])) := fun j h0 h kk => ixI_at h0 (by
      rw [List.getElem?_map, List.getElem?_eq_getElem h]
      rfl)
    have setW : ∀ (vs : List Str) (j : Int) (w : Str), 0 ≤ j → j < vs.length → ∀ (kk : List D → Prop), setI (vs.map D.str) j (.str w) kk = kk ((vs.set j.toNat w).map D.str) := fun vs j w h0 h1 kk => by
      rw [setI_at h0 (by simpa using h1), List.map_set]
    try simp
    refine ⟨a, 8, n0 + d + 1 + 1, rfl, hs2, by decide, by decide, by omega, fun way M3 hw0 hw1 hs3 fr3 => ?_⟩
    have b3 : M3 b = some (.lst (ls.map D.str)) := by rw [fr3 b hab, b2]
    have f3 : ∀ z, z ≠ a → z ≠ b → M0 z ≠ none → M3 z = M0 z := fun z h1 h2 h3 => by rw [fr3 z h1, fr2 z h1, fr1 z h1, hf z h1 h2 h3]
    have skip : ∀ (A B C : Prop), (¬ (way = 0 ∧ 1 < (ls.length : Int))) → C → (way = 0 → B) → (if way = 0 then if 1 < (ls.length : Int) then A else B else C) := fun A B C h hC hB => by
      by_cases e : way = 0
      · rw [if_pos e, if_neg fun h' => h ⟨e, h'⟩]; exact hB e
      · rw [if_neg e]; exact hC
    have hmem := hg.2.1 _ (List.getElem_mem hit)
    have last : sp_law_spoilt_line cs [D.ref a, D.str ls[i.toNat]] M3
        (fun r_1 M' => lk M' b fun o => asL o fun xs => setI xs i r_1.fz fun xs' =>
          forD (gN 2) (td_law_spoilt_B2 cs) E0 r [some (Sl.d (D.ref a)), some (Sl.d (D.ref b)), some (Sl.d x), some (Sl.d (D.int i)), some (Sl.d (D.int th)), some (Sl.d (D.int way)), none] (mu M' b (MO.lst xs')))
        fun C fs M2 => E0.ex C fs [some (Sl.d (D.ref a)), some (Sl.d (D.ref b)), some (Sl.d x), some (Sl.d (D.int i)), some (Sl.d (D.int th)), some (Sl.d (D.int way)), none] M2 := by
      refine ⟨a, n0 + d + 1 + 1 + 1, ls[i.toNat], rfl, hs3, by omega, hmem.1, by omega, fun w M4 g1 g2 g3 g4 => ?_⟩
      have b4 : M4 b = some (.lst (ls.map D.str)) := by rw [g4 b hab (by rw [b3]; simp), b3]
      simp [lk_at b4]
      rw [setW ls i w hi0 hi1]
      exact more _ _ (d + 1 + 1 + 1 + 20) (putS _ _ (d + 1 + 1 + 1 + 20) g3) (by omega) mu_same (hg.set hit g1 g2) (fun z h1 h2 h3 => by rw [mu_ne h2, g4 z h1 (by rw [f3 z h1 h2 h3]; exact h3), f3 z h1 h2 h3]) _ _ _ _
    simp [lk_at b3]
    by_cases h0 : way = 0 ∧ 1 < (ls.length : Int)
    · rw [if_pos h0.1, if_pos h0.2, poI_at hi0 (by simpa using hi1) (by simp; omega), er_map]
      exact more _ _ (d + 1 + 1 + 1) (putS _ _ (d + 1 + 1 + 1) hs3) (by omega) mu_same (hg.erase (by omega)) (fun z h1 h2 h3 => by rw [mu_ne h2, f3 z h1 h2 h3]) _ _ _ _
    refine skip _ _ _ h0 ?_ fun e => ?_
    · by_cases h1 : way = 1
      · rw [if_pos h1, getW i hi0 hit]
        refine ⟨by omega, ht0, by omega, ?_⟩
        have e : (List.take th.toNat (List.map D.str ls) ++ D.str ls[i.toNat] :: List.drop th.toNat (List.map D.str ls)) = (ls.take th.toNat ++ [ls[i.toNat]] ++ ls.drop th.toNat).map D.str := by simp [List.map_take, List.map_drop]
        rw [e]
        exact more _ _ (d + 1 + 1 + 1) (putS _ _ (d + 1 + 1 + 1) hs3) (by omega) mu_same (hg.ins hmem) (fun z h1 h2 h3 => by rw [mu_ne h2, f3 z h1 h2 h3]) _ _ _ _
      rw [if_neg h1]
      by_cases h2 : way = 2
      · rw [if_pos h2]
        refine ⟨a, 5, n0 + d + 1 + 1 + 1, rfl, hs3, by decide, by decide, by omega, fun f M4 hf0 hf1 hs4 fr4 => ?_⟩
        have b4 : M4 b = some (.lst (ls.map D.str)) := by rw [fr4 b hab, b3]
        try simp
        refine ixI_mem hf0 (by show f < ((5 : Nat) : Int); omega) fun y hy => ?_
        obtain ⟨w, rfl, g1, g2⟩ := (short_of (k := 7) (by decide +kernel) : ShortS _ 7) y hy
        simp [lk_at b4]
        refine ⟨by omega, hi0, by omega, ?_⟩
        have e : (List.take i.toNat (List.map D.str ls) ++ D.str w :: List.drop i.toNat (List.map D.str ls)) = (ls.take i.toNat ++ [w] ++ ls.drop i.toNat).map D.str := by simp [List.map_take, List.map_drop]
        rw [e]
        exact more _ _ (d + 1 + 1 + 1 + 1) (putS _ _ (d + 1 + 1 + 1 + 1) hs4) (by omega) mu_same (hg.ins ⟨g1, by omega⟩) (fun z h1 h2 h3 => by rw [mu_ne h2, fr4 z h1, f3 z h1 h2 h3]) _ _ _ _
      rw [if_neg h2]
      by_cases h3 : way = 3
      · rw [if_pos h3, getW th ht0 htt, getW i hi0 hit, setW ls i _ hi0 hi1, setW (ls.set i.toNat _) th _ ht0 (by simpa using ht1)]
        exact more _ _ (d + 1 + 1 + 1) (putS _ _ (d + 1 + 1 + 1) hs3) (by omega) mu_same (hg.swap hit htt) (fun z h1 h2 h3 => by rw [mu_ne h2, f3 z h1 h2 h3]) _ _ _ _
      rw [if_neg h3]
      by_cases h4 : way = 4
      · rw [if_pos h4]
        refine ⟨a, 5, n0 + d + 1 + 1 + 1, rfl, hs3, by decide, by decide, by omega, fun f M4 hf0 hf1 hs4 fr4 => ?_⟩
        have b4 : M4 b = some (.lst (ls.map D.str)) := by rw [fr4 b hab, b3]
        try simp
        refine ixI_mem hf0 (by show f < ((5 : Nat) : Int); omega) fun y hy => ?_
        obtain ⟨w, rfl, g1, g2⟩ := (short_of (k := 7) (by decide +kernel) : ShortS _ 7) y hy
        simp [lk_at b4]
        refine ⟨by omega, ?_⟩
        have e : (List.map D.str ls ++ [D.str w]) = (ls.take ls.length ++ [w] ++ ls.drop ls.length).map D.str := by simp
        rw [e]
        exact more _ _ (d + 1 + 1 + 1 + 1) (putS _ _ (d + 1 + 1 + 1 + 1) hs4) (by omega) mu_same (hg.ins ⟨g1, by omega⟩) (fun z h1 h2 h3 => by rw [mu_ne h2, fr4 z h1, f3 z h1 h2 h3]) _ _ _ _
      rw [if_neg h4, getW i hi0 hit]
      exact last
    · subst e
      simp
      rw [getW i hi0 hit]
      exact last
theorem rd_law_spoilt : ∀ ds M Q E, sp_law_spoilt cs ds M Q E → td_law_spoilt cs (endsD Q E) (startD ["store", "lines", "k", "at", "there", "way", "text"] ds) M := by
  rintro ds M Q E ⟨a, n, ls, rfl, hs, hn, hw, hl1, hl7, k⟩
  have szl := sizeLine_eq
  show td_law_spoilt cs (endsD Q E) [some (.d (.ref a)), some (.d (.lst (ls.map D.str))), none, none, none, none, none] M
  have hg : goodT 0 ls := by
    refine ⟨fun e => by rw [e] at hl1; simp at hl1, hw, ?_⟩
    have := sum_le (l := ls) (f := fun w => w.length + 1) (b := 41) fun w h => by have := (hw w h).2; omega
    show (ls.map fun w => w.length + 1).sum ≤ 287
    omega
  simp [td_law_spoilt]
  intro b hb
  have hab : b ≠ a := fun e => by
    obtain ⟨_, _, _, _, _, h, _⟩ := hs
    rw [← e, hb] at h
    cases h
  have s1 : StoreAt (mu M b (.lst (ls.map D.str))) a n := by
    obtain ⟨cs, i, l, x, d, h1, h2⟩ := hs
    exact ⟨cs, i, l, x, d, by rw [mu_ne (fun e => hab e.symm)]; exact h1, h2⟩
  simp [↓u_law_spoilt_L2]
  refine ⟨a, 3, n, rfl, s1, by decide, by decide, by omega, fun cnt M1 hc0 hc1 hs1 fr1 => ?_⟩
  try simp
  refine ⟨by omega, by omega, ?_⟩
  refine st_L2 (n0 := n + 1) (M0 := M) (by omega) hab _ 0 ls _ _ _ _ M1 0 (by rw [rgD_len]; omega) hs1 (by rw [rgD_len]; omega) (by rw [fr1 b hab, mu_same]) hg (fun z h1 h2 h3 => by rw [fr1 z h1, mu_ne h2]) fun ls o2 o3 o4 o5 M2 hg hs2 hb2 hf2 => ?_
  have e1 : (Str.ofString "\n").length = 1 := by decide +kernel
  have o1 : PyData.strOk (Str.ofString "\n") = true ∧ PyData.strOk (Str.ofString " ") = true ∧ (Str.ofString " ").length = 1 := by decide +kernel
  have hT := join_le (y := Str.ofString "\n") e1 (ws := ls)
  have hTo : PyData.strOk (Txt.join (Str.ofString "\n") ls) = true := by rw [TL.join_eq]; exact join_ok o1.1 fun w hw => (hg.2.1 w hw).1
  have hJ : jl ls ≤ 710 := hg.2.2
  simp [↓u_law_spoilt_R2]
  rw [jn_r hb2]
  refine ⟨by rw [e1, Nat.mul_one, sum_jl]; omega, ?_⟩
  generalize Txt.join (Str.ofString "\n") ls = tt at hT hTo
  simp
  refine ⟨by omega, by omega, by omega, by omega, a, 7, n + 1 + 100, rfl, hs2, by decide, by decide, by omega, fun f M3 hf0 hf1 hs3 fr3 => ?_⟩
  try simp
  refine ixI_mem hf0 (by show f < ((7 : Nat) : Int); omega) fun y hy => ?_
  obtain ⟨w, rfl, g1, g2⟩ : ∃ w : Str, y = .str w ∧ PyData.strOk w = true ∧ w.length ≤ 711 := by
    simp at hy
    rcases hy with rfl | rfl | rfl | rfl | rfl
    · exact ⟨_, rfl, hTo, by omega⟩
    · exact ⟨_, rfl, strOk_app hTo o1.1, by rw [app_len]; omega⟩
    · exact ⟨_, rfl, strOk_app o1.1 hTo, by rw [app_len]; omega⟩
    · exact ⟨_, rfl, strOk_app o1.2.1 hTo, by rw [app_len]; omega⟩
    · exact ⟨_, rfl, strOk_app hTo o1.2.1, by rw [app_len]; omega⟩
  exact k w M3 g1 (by omega) (store_mono hs3 (by omega)) fun z hz hM => by
    have hzb : z ≠ b := fun e => hM (by rw [e]; exact hb)
    rw [fr3 z hz, hf2 z hz hzb hM]
theorem rd_law_store : ∀ ds M Q E, sp_law_store cs ds M Q E → td_law_store cs (endsD Q E) (startD ["script", "mixed", "cell"] ds) M := rd_store
end
end Lw

set_option Elab.async false
set_option linter.all false
set_option maxRecDepth 100000
set_option maxHeartbeats 4000000
namespace Lw
open PySem PySem.Spec PyProof.Rows L2 DL
section
variable {cs : Cs} {M : MH} {Q : Sl → MH → Prop} {E : Addr → List (Str × D) → MH → Prop}
theorem split_two {k : Str} {i : Int} (hk : ∀ c ∈ k.cps.toList, 97 ≤ c ∧ c < 123) (hi : 0 ≤ i) : Txt.split (k ++ (" " : Str) ++ numI i) (" " : Str) = [k, numI i] := by
  have e : k ++ Str.ofString " " ++ numI i = Txt.join (Str.ofString " ") [k, numI i] := by rw [TL.join_eq]; rfl
  rw [e, TL.split_join (s := 32) (S := []) (by decide +kernel) (by decide +kernel) (by simp) fun p hp hc => ?_]
  simp at hp
  rcases hp with rfl | rfl
  · have := hk 32 hc; omega
  · have hc : 32 ∈ (numI i).cps.toList := hc
    rw [numI_tl hi] at hc
    have := TL.numL_digits _ 32 hc
    omega
theorem split_one {k : Str} (hk : ∀ c ∈ k.cps.toList, 97 ≤ c ∧ c < 123) : Txt.split k (" " : Str) = [k] := by
  have e : k = Txt.join (Str.ofString " ") [k] := by rw [TL.join_eq]; rfl
  conv => lhs; rw [e]
  rw [TL.split_join (s := 32) (S := []) (by decide +kernel) (by decide +kernel) (by simp) fun p hp hc => ?_]
  simp at hp
  subst hp
  have := hk 32 hc; omega
theorem lv_line {l : D} (h : LevB l) : lv (lineR l) = l := by
  obtain ⟨k, q, rfl, hk, hq⟩ := h
  obtain ⟨k1, k2, k3, k4⟩ := fit_kind hk
  rcases hq with rfl | ⟨i, rfl, hi1, hi2⟩
  · rw [lineR_n]
    unfold lv
    rw [split_one k4]
    show (if kindW k = true then D.tup [.str k, .non] else .non) = _
    rw [if_pos k3]
  · rw [lineR_i]
    unfold lv
    rw [split_two k4 (by omega)]
    show (if (kindW k && isIntD (numD (numI i)) 1) = true then D.tup [.str k, numD (numI i)] else .non) = _
    rw [numD_numI (by omega) hi2, k3]
    have : isIntD (.int i) 1 = true := by simp [isIntD]; omega
    rw [this]
    rfl
theorem boost_cut : Str.ofString "boost " = Str.ofString "boost" ++ Str.ofString " " := by decide +kernel
theorem boost_sg : ∀ c ∈ (Str.ofString "boost").cps.toList, 97 ≤ c ∧ c < 123 := by decide +kernel
theorem lv_boost {i : Int} (h : 0 ≤ i) : lv (("boost " : Str) ++ numI i) = .non := by
  unfold lv
  rw [boost_cut, split_two boost_sg h]
  show (if (kindW (Str.ofString "boost") && isIntD (numD (numI i)) 1) = true then D.tup [.str (Str.ofString "boost"), numD (numI i)] else .non) = _
  have : kindW (Str.ofString "boost") = false := by decide +kernel
  rw [this]
  rfl
theorem bo_boost {i : Int} (h : 1 ≤ i) (h1 : i < 10 ^ 31) : bo (("boost " : Str) ++ numI i) = .int i := by
  unfold bo
  rw [boost_cut, split_two boost_sg (by omega)]
  show (if (decide (Str.ofString "boost" = Str.ofString "boost") && isIntD (numD (numI i)) 1) = true then numD (numI i) else .non) = _
  rw [numD_numI (by omega) h1]
  have : isIntD (.int i) 1 = true := by simp [isIntD]; omega
  rw [this]
  simp
theorem rdR_levels : ∀ (ws ls : List D) (rest : List Str) (row : Nat), (∀ l ∈ ws, LevB l) → ls.length + ws.length ≤ 6 → rdR ls .non (ws.map lineR ++ rest) row = rdR (ls ++ ws) .non rest (row + ws.length)
  | [], ls, rest, row, h, hl => by simp
  | w :: ws, ls, rest, row, h, hl => by
    have hw := h w (List.mem_cons_self ..)
    have hn : DL.isNon w = false := by obtain ⟨k, q, rfl, _⟩ := hw; rfl
    simp only [List.length_cons] at hl
    rw [List.map_cons, List.cons_append, rdR_cons, lv_line hw, if_pos (by rw [hn]; simp [DL.isNon]; omega), rdR_levels ws _ _ _ (fun l hl => h l (List.mem_cons_of_mem _ hl)) (by simp; omega)]
    rw [List.append_assoc, List.length_cons, show row + 1 + ws.length = row + (ws.length + 1) from by omega]
    rfl
theorem ruleT_lines {v : D} (h : RuleB v) : ruleT (Txt.join ("\n" : Str) (linesR v)) = v := by
  have hw := (linesR_le h).1
  obtain ⟨ls, b, rfl, h1, h2, hl, hb⟩ := h
  unfold ruleT
  have hne : linesR (.tup [.tup ls, b]) ≠ [] := fun e => by
    have : (linesR (.tup [.tup ls, b])).length = 0 := by rw [e]; rfl
    rcases hb with rfl | ⟨i, rfl, _⟩
    · rw [linesR_n] at this; simp at this; rw [this] at h1; simp at h1
    · rw [linesR_i] at this; simp at this
  rw [TL.split_join (s := 10) (S := []) (by decide +kernel) (by decide +kernel) hne fun p hp hc => (hw p hp).2.2 10 hc rfl]
  rcases hb with rfl | ⟨i, rfl, hi1, hi2⟩
  · rw [linesR_n]
    have := rdR_levels ls [] [] 0 hl (by simpa using h2)
    rw [List.append_nil] at this
    rw [this]
    rfl
  · rw [linesR_i, rdR_levels ls [] _ 0 hl (by simpa using h2), rdR_cons, lv_boost (by omega), bo_boost hi1 hi2]
    rw [if_neg (by simp [DL.isNon]), if_pos (by cases ls with | nil => simp at h1 | cons a r => simp [DL.isNon]), if_neg (by simp [DL.isNon])]
    rfl
theorem RuleB.lst {v : D} (h : RuleB v) : ∃ ls b, v = .tup [.tup ls, b] ∧ RuleB (.tup [.tup ls, b]) ∧ WfRule (.lst [.tup ls, b]) ∧ faultR (.lst [.tup ls, b]) = .int 0 ∧ WfRule (.tup [.lst ls, b]) ∧ faultR (.tup [.lst ls, b]) = .int 0 := by
  have h' := h
  obtain ⟨ls, b, rfl, h1, h2, hl, hb⟩ := h
  have hL : ∀ l ∈ ls, Sm 4 l := fun l h => (hl l h).wf.1
  refine ⟨ls, b, rfl, h', ⟨sm_lst (n := 5) (sm2 (sm_tup hL) hb.sm), fun _ _ e => by cases e⟩, rfl, ⟨sm_tup (n := 5) (sm2 (sm_lst hL) hb.sm), fun _ _ e => by cases e⟩, rfl⟩
theorem law_L8 {a : Addr} {v : D} {ls : List Str} {n0 : Nat} {E0 : DEnds} {o0 o2 o5 o7 : Option Sl} (hw : ∀ w ∈ ls, PyData.strOk w = true ∧ w.length ≤ 40) (h1 : 1 ≤ ls.length) (h7 : ls.length ≤ 7) (hn : n0 < 2 ^ 49) : ∀ (xs : List D) (o4 : Sl) (o6 : Option Sl) (M : MH) (d : Nat), (o4 = .own (ls.map D.str) ∨ o4 = .d (.lst (ls.map D.str))) → StoreAt M a (n0 + d) → d + 300 * xs.length ≤ 2000 →
    (∀ o4 o6 M', StoreAt M' a (n0 + 2000) → E0.nx [o0, some (.d (.ref a)), o2, some (.d v), o4, o5, o6, o7] M') →
    forD (gN 6) (td_law_B8 cs) E0 xs [o0, some (.d (.ref a)), o2, some (.d v), some o4, o5, o6, o7] M
  | [], o4, o6, M, d, ho, hs, hd, k => by simpa using k _ o6 M (store_mono hs (by omega))
  | x :: r, o4, o6, M, d, ho, hs, hd, k => by
    simp only [List.length_cons] at hd
    have main : forD (gN 6) (td_law_B8 cs) E0 (x :: r) [o0, some (.d (.ref a)), o2, some (.d v), some (.d (.lst (ls.map D.str))), o5, o6, o7] M := by
      simp [↓u_law_B8]
      refine ⟨a, n0 + d, ls, rfl, hs, by omega, hw, h1, h7, fun w M1 hw1 hw2 hs1 fr1 => ?_⟩
      simp
      refine sp_law_right_of hw1 hw2 fun M2 e2 => ?_
      simp
      exact law_L8 hw h1 h7 hn r _ _ M2 (d + 200) (.inr rfl) (store_ext hs1 e2) (by omega) k
    rcases ho with rfl | rfl
    · simpa [↓u_law_B8] using main
    · exact main
theorem rd_law : ∀ ds M Q E, sp_law cs ds M Q E → td_law cs (endsD Q E) (startD ["script", "store", "turn", "policy", "lines", "text", "k", "fixed"] ds) M := by
  rintro ds M Q E ⟨ns, rfl, hx, k⟩
  have szl := sizeLine_eq
  show td_law cs (endsD Q E) [some (.d (.lsk (ns.map D.int))), none, none, none, none, none, none, none] M
  simp [td_law]
  refine ⟨ns, rfl, hx, fun zs m => ?_⟩
  simp
  intro a ha
  simp [↓u_law_L2]
  refine forD_ind (fun xs δ M' => ∃ (t i n : Nat) (o2 o3 o4 o5 o6 : Option Sl), xs = rgD t i ∧ t + i = 4 ∧ δ = [some (.d (.lsk (ns.map D.int))), some (.d (.ref a)), o2, o3, o4, o5, o6, none] ∧ (∀ ys, o5 ≠ some (.own ys)) ∧ StoreAt M' a n ∧ n + 20000 * i ≤ 100000) ?_ ?_ _ _ _
    ⟨0, 4, 0, none, none, none, none, none, rfl, rfl, rfl, (fun ys h => by cases h), ⟨zs, 0, 0, m, 0, mu_same, by decide, by decide, by decide, by decide⟩, by decide⟩
  · rintro δ M' ⟨t, i, n, o2, o3, o4, o5, o6, _, _, rfl, h5, hs, _⟩
    simp [↓u_law_R2]
    rw [jn_l (r := [D.str (Str.ofString "queue"), D.str (Str.ofString "queue"), D.str (Str.ofString "queue"), D.str (Str.ofString "queue"), D.str (Str.ofString "queue"), D.str (Str.ofString "queue"), D.str (Str.ofString "queue")]) (ys := [Str.ofString "queue", Str.ofString "queue", Str.ofString "queue", Str.ofString "queue", Str.ofString "queue", Str.ofString "queue", Str.ofString "queue"]) rfl]
    refine ⟨by decide +kernel, ?_⟩
    try simp
    rw [jn_l (r := [D.str (Str.ofString "queue"), D.str (Str.ofString "queue"), D.str (Str.ofString "queue"), D.str (Str.ofString "queue"), D.str (Str.ofString "queue"), D.str (Str.ofString "queue"), D.str (Str.ofString "boost 1")]) (ys := [Str.ofString "queue", Str.ofString "queue", Str.ofString "queue", Str.ofString "queue", Str.ofString "queue", Str.ofString "queue", Str.ofString "boost 1"]) rfl]
    refine ⟨by decide +kernel, ?_⟩
    try simp
    rw [jn_l (r := [D.str (Str.ofString "stack"), D.str (Str.ofString "stack"), D.str (Str.ofString "stack"), D.str (Str.ofString "stack"), D.str (Str.ofString "stack"), D.str (Str.ofString "stack")]) (ys := [Str.ofString "stack", Str.ofString "stack", Str.ofString "stack", Str.ofString "stack", Str.ofString "stack", Str.ofString "stack"]) rfl]
    refine ⟨by decide +kernel, ?_⟩
    simp only [Sl.fz]
    refine ⟨by simpa [NoOwn] using h5, ?_⟩
    generalize hL : [D.str (Str.ofString ""), D.str (Str.ofString "\n"), D.str (Str.ofString "boost 3"), D.str (Str.ofString "boost 3\nqueue"), D.str (Str.ofString "queue\n"), D.str (Str.ofString "queue\nboost 3\nboost 3"), D.str (Str.ofString "stack 0"), D.str (Str.ofString "queue\nboost"), D.str _, D.str _, D.str _] = L
    have hS : ShortS L 900 := by
      subst hL
      exact short_of (by decide +kernel)
    clear hL
    refine lcD_ind (fun xs acc M2 => acc = [] ∧ ∀ d ∈ xs, d ∈ L) (fun acc M2 h => ?_) (fun x r acc M2 h ih => ?_) _ _ _ ⟨rfl, fun _ h => h⟩
    · obtain ⟨rfl, _⟩ := h
      rw [eq_of ok_nilL ok_nilL, eq_nilL]
      exact k M2
    · obtain ⟨rfl, hm⟩ := h
      obtain ⟨w, rfl, g1, g2⟩ := hS x (hm x (by simp))
      simp
      refine sp_law_right_of g1 (by omega) fun M3 e3 => ?_
      simp
      exact ih _ _ ⟨rfl, fun d hd => hm d (List.mem_cons_of_mem _ hd)⟩
  · rintro x r δ M' ⟨t, i, n, o2, o3, o4, o5, o6, hr, ht, rfl, h5, hs, hb⟩ ih
    cases i with
    | zero => cases hr
    | succ i =>
      rw [rgD_succ] at hr
      cases hr
      simp [↓u_law_B2]
      refine ⟨a, n, rfl, hs, by omega, fun v M1 hR hs1 fr1 => ?_⟩
      obtain ⟨h1, h2, h3⟩ := linesR_le hR
      have szT := join_le (y := Str.ofString "\n") (by decide +kernel) (ws := linesR v)
      have okT : PyData.strOk (Txt.join (Str.ofString "\n") (linesR v)) = true := by rw [TL.join_eq]; exact join_ok (by decide +kernel) fun w hw => (h1 w hw).1
      have sum1 := sum_le (l := linesR v) (f := fun w => w.length) (b := 40) fun w hw => (h1 w hw).2.1
      have e2 : (Str.ofString "\n").length = 1 := by decide +kernel
      have hT := ruleT_lines hR
      try simp
      refine ⟨v, rfl, hR, ?_⟩
      simp
      rw [jn_l rfl]
      refine ⟨by rw [e2]; omega, ?_⟩
      have lenT : (Txt.join (Str.ofString "\n") (linesR v)).length ≤ 1500 := by
        have sj := sum_le (l := linesR v) (f := fun w => w.length + 1) (b := 41) fun w hw => by have := (h1 w hw).2.1; omega
        have : jl (linesR v) = ((linesR v).map fun w => w.length + 1).sum := rfl
        omega
      obtain ⟨ls, b, rfl, hR', w1, f1, w2, f2⟩ := hR.lst
      have okS : D.Ok (.str (Txt.join (Str.ofString "\n") (linesR (.tup [.tup ls, b])))) := ⟨by simp [D.nr]; exact okT, by simp [D.dp]⟩
      simp only [sp_show_rule_eq]
      refine ⟨hR.wf, fun _ => ⟨hR, ?_⟩, fun k e => by rw [hR.ok] at e; cases e⟩
      simp only [Sl.fz]
      rw [ne_of okS okS, DL.eq_self okS.1]
      simp
      refine sp_law_right_of okT lenT fun M2 e2 => ?_
      simp [sp_read_rule_eq, okT, lenT, hT]
      rw [ne_of hR.ok' hR.ok', DL.eq_self hR.ok'.1]
      simp [↓u_law_L8]
      refine law_L8 (n0 := n + 20) (fun w hw => ⟨(h1 w hw).1, (h1 w hw).2.1⟩) h2 h3 (by omega) _ _ _ M2 0 (.inl rfl) (store_ext hs1 e2) (by rw [rgD_len]; decide) fun o4 o6 M3 hs3 => ?_
      simp [↓u_law_R8]
      refine ⟨_, rfl, w1, f1, fun M4 e4 => ?_⟩
      simp
      refine ⟨_, rfl, w2, f2, fun M5 e5 => ?_⟩
      simp
      exact ih _ M5 ⟨t + 1, i, n + 20 + 2000, _, _, _, _, _, by rw [show ((t + 1 : Nat) : Int) = (t : Int) + 1 from rfl], by omega, rfl, (fun ys h => by cases h), store_ext (store_ext hs3 e4) e5, by omega⟩
end
end Lw

set_option Elab.async false
set_option linter.all false
set_option maxRecDepth 100000
set_option maxHeartbeats 4000000
namespace Lw
open PySem PySem.Spec PyProof.Rows L2 DL
abbrev si_NoRule : Stmt := inClass (top 3) 0
theorem sci_NoRule : FnScope ["self", "place"] ["self", "place"] (defScope si_NoRule) := ⟨rfl, rfl, rfl, by decide +kernel, rfl, by decide +kernel, by decide +kernel⟩
theorem xi_NoRule {P : Program} {w : World} {K : PySem.W.Frag} {mg : Str → Option Value} {base : Heap} {B C fI : Addr} {fd : FuncData} (F : Fun K "__init__" "NoRule.__init__" si_NoRule fI fd) (mS : mg "SlotError" = some (.ref B)) (S : SeC K B) (hs : mg "str" = none) (T : OexC K C)
    (hno : PySem.W.findIn K (.ref C) "place" = some none) : FnOk P w K mg base CX0 1 fI fd ["self", "place"] (spXI K C "place" PvI) := by
  refine F.ok sci_NoRule (fun vs H Q E h => by obtain ⟨_, _, h, _⟩ := h; rw [h]; rfl) (fun cdv A outer s H vs Q E hr h => ⟨_, pss_cons (ps_expr (pe_seinit (by rfl) mS S (pa_cons (pv 0) (pa_cons (pe_op op_add_str pe_str (pe_callTy call_str_int (by rfl) hs (by decide +kernel) (pa_cons (pv 1) pa_nil))) pa_nil)))) (pss_one (ps_ost (pv 0) (pv 1))), ?_⟩)
  obtain ⟨a, y, rfl, ha, ⟨i, rfl, hi⟩, k⟩ := h
  have e1 : (Str.ofString (toString i)).length ≤ 1921 := by rw [PySem.ofString_length]; exact int_text_length_le (k := 1920) (by decide) hi
  have e2 : (Str.ofString "invalid rule at level ").length ≤ 100 := by decide +kernel
  refine ⟨_, rfl, _, rfl, i, rfl, hi, _, _, rfl, rfl, ?_, a, C, _, rfl, (by show 1 ≤ 1000; decide), T, ha, _, rfl, _, rfl, a, C, rfl, T, hno, .inl ⟨ha, fun dx h1 h2 => k dx h1 h2⟩⟩
  rw [sizeLine_eq]
  have := Nat.add_le_add e2 e1
  exact Nat.le_trans this (by decide)
abbrev si_NoText : Stmt := inClass (top 9) 0
theorem sci_NoText : FnScope ["self", "row"] ["self", "row"] (defScope si_NoText) := ⟨rfl, rfl, rfl, by decide +kernel, rfl, by decide +kernel, by decide +kernel⟩
theorem xi_NoText {P : Program} {w : World} {K : PySem.W.Frag} {mg : Str → Option Value} {base : Heap} {B C fI : Addr} {fd : FuncData} (F : Fun K "__init__" "NoText.__init__" si_NoText fI fd) (mS : mg "SlotError" = some (.ref B)) (S : SeC K B) (hs : mg "str" = none) (T : OexC K C)
    (hno : PySem.W.findIn K (.ref C) "row" = some none) : FnOk P w K mg base CX0 1 fI fd ["self", "row"] (spXI K C "row" PvI) := by
  refine F.ok sci_NoText (fun vs H Q E h => by obtain ⟨_, _, h, _⟩ := h; rw [h]; rfl) (fun cdv A outer s H vs Q E hr h => ⟨_, pss_cons (ps_expr (pe_seinit (by rfl) mS S (pa_cons (pv 0) (pa_cons (pe_op op_add_str pe_str (pe_callTy call_str_int (by rfl) hs (by decide +kernel) (pa_cons (pv 1) pa_nil))) pa_nil)))) (pss_one (ps_ost (pv 0) (pv 1))), ?_⟩)
  obtain ⟨a, y, rfl, ha, ⟨i, rfl, hi⟩, k⟩ := h
  have e1 : (Str.ofString (toString i)).length ≤ 1921 := by rw [PySem.ofString_length]; exact int_text_length_le (k := 1920) (by decide) hi
  have e2 : (Str.ofString "invalid line at index ").length ≤ 100 := by decide +kernel
  refine ⟨_, rfl, _, rfl, i, rfl, hi, _, _, rfl, rfl, ?_, a, C, _, rfl, (by show 1 ≤ 1000; decide), T, ha, _, rfl, _, rfl, a, C, rfl, T, hno, .inl ⟨ha, fun dx h1 h2 => k dx h1 h2⟩⟩
  rw [sizeLine_eq]
  have := Nat.add_le_add e2 e1
  exact Nat.le_trans this (by decide)
end Lw

set_option Elab.async false
set_option linter.all false
set_option maxRecDepth 100000
set_option maxHeartbeats 4000000
namespace Lw
open PySem PySem.Spec PyProof.Rows L2 DL
theorem all_mk {l : PySem.W.OpenLaw} {w : World} {K : PySem.W.Frag} {h : Heap} {mg : Str → Option Value} {fa aNoJobs aNoLengths aNoLine aNoLog aNoMarks aNoName aNoNamed aNoNumber aNoOrder aNoRule aNoText aNoUndo aSlotError : Addr} (X : K.In h) (G : h.Ns mainGlobals mg) (hfa : mg "law" = some (.ref fa))
    {nmNoRule qNoRule : Str} {NNoRule : Addr} {bsNoRule : List Value} {snNoRule : List Str} {subNoRule : List Value} {abNoRule : Bool} {colNoRule : Option Bool} {ddNoRule : Option Addr} {m0NoRule m1NoRule m2NoRule m3NoRule m5NoRule : Option Value} {fNoRule : Addr} {odNoRule anNoRule : Option Addr} {slNoRule : Array (Option Value)} {ocNoRule kVNoRule dcNoRule pmNoRule cdNoRule ctNoRule : Value}
    {nmNoText qNoText : Str} {NNoText : Addr} {bsNoText : List Value} {snNoText : List Str} {subNoText : List Value} {abNoText : Bool} {colNoText : Option Bool} {ddNoText : Option Addr} {m0NoText m1NoText m2NoText m3NoText m5NoText : Option Value} {fNoText : Addr} {odNoText anNoText : Option Addr} {slNoText : Array (Option Value)} {ocNoText kVNoText dcNoText pmNoText cdNoText ctNoText : Value}
    {odlaw_mix anlaw_mix : Option Addr} {sllaw_mix : Array (Option Value)} {oclaw_mix kVlaw_mix dclaw_mix pmlaw_mix cdlaw_mix ctlaw_mix : Value} {flaw_mix : Addr}
    {odlaw_pick anlaw_pick : Option Addr} {sllaw_pick : Array (Option Value)} {oclaw_pick kVlaw_pick dclaw_pick pmlaw_pick cdlaw_pick ctlaw_pick : Value} {flaw_pick : Addr}
    {odlaw_good anlaw_good : Option Addr} {sllaw_good : Array (Option Value)} {oclaw_good kVlaw_good dclaw_good pmlaw_good cdlaw_good ctlaw_good : Value} {flaw_good : Addr}
    {odlaw_kind anlaw_kind : Option Addr} {sllaw_kind : Array (Option Value)} {oclaw_kind kVlaw_kind dclaw_kind pmlaw_kind cdlaw_kind ctlaw_kind : Value} {flaw_kind : Addr}
    {odis_integer anis_integer : Option Addr} {slis_integer : Array (Option Value)} {ocis_integer kVis_integer dcis_integer pmis_integer cdis_integer ctis_integer : Value} {fis_integer : Addr}
    {odis_level anis_level : Option Addr} {slis_level : Array (Option Value)} {ocis_level kVis_level dcis_level pmis_level cdis_level ctis_level : Value} {fis_level : Addr}
    {odcheck_rule ancheck_rule : Option Addr} {slcheck_rule : Array (Option Value)} {occheck_rule kVcheck_rule dccheck_rule pmcheck_rule cdcheck_rule ctcheck_rule : Value} {fcheck_rule : Addr}
    {odrule_lines anrule_lines : Option Addr} {slrule_lines : Array (Option Value)} {ocrule_lines kVrule_lines dcrule_lines pmrule_lines cdrule_lines ctrule_lines : Value} {frule_lines : Addr}
    {odshow_rule anshow_rule : Option Addr} {slshow_rule : Array (Option Value)} {ocshow_rule kVshow_rule dcshow_rule pmshow_rule cdshow_rule ctshow_rule : Value} {fshow_rule : Addr}
    {odlaw_list_right anlaw_list_right : Option Addr} {sllaw_list_right : Array (Option Value)} {oclaw_list_right kVlaw_list_right dclaw_list_right pmlaw_list_right cdlaw_list_right ctlaw_list_right : Value} {flaw_list_right : Addr}
    {odlaw_number anlaw_number : Option Addr} {sllaw_number : Array (Option Value)} {oclaw_number kVlaw_number dclaw_number pmlaw_number cdlaw_number ctlaw_number : Value} {flaw_number : Addr}
    {odlaw_words_read anlaw_words_read : Option Addr} {sllaw_words_read : Array (Option Value)} {oclaw_words_read kVlaw_words_read dclaw_words_read pmlaw_words_read cdlaw_words_read ctlaw_words_read : Value} {flaw_words_read : Addr}
    {odlaw_due anlaw_due : Option Addr} {sllaw_due : Array (Option Value)} {oclaw_due kVlaw_due dclaw_due pmlaw_due cdlaw_due ctlaw_due : Value} {flaw_due : Addr}
    {odnumber_in annumber_in : Option Addr} {slnumber_in : Array (Option Value)} {ocnumber_in kVnumber_in dcnumber_in pmnumber_in cdnumber_in ctnumber_in : Value} {fnumber_in : Addr}
    {odread_boost anread_boost : Option Addr} {slread_boost : Array (Option Value)} {ocread_boost kVread_boost dcread_boost pmread_boost cdread_boost ctread_boost : Value} {fread_boost : Addr}
    {odread_level anread_level : Option Addr} {slread_level : Array (Option Value)} {ocread_level kVread_level dcread_level pmread_level cdread_level ctread_level : Value} {fread_level : Addr}
    {odread_rule anread_rule : Option Addr} {slread_rule : Array (Option Value)} {ocread_rule kVread_rule dcread_rule pmread_rule cdread_rule ctread_rule : Value} {fread_rule : Addr}
    {odlaw_right anlaw_right : Option Addr} {sllaw_right : Array (Option Value)} {oclaw_right kVlaw_right dclaw_right pmlaw_right cdlaw_right ctlaw_right : Value} {flaw_right : Addr}
    {odlaw_rule_lines anlaw_rule_lines : Option Addr} {sllaw_rule_lines : Array (Option Value)} {oclaw_rule_lines kVlaw_rule_lines dclaw_rule_lines pmlaw_rule_lines cdlaw_rule_lines ctlaw_rule_lines : Value} {flaw_rule_lines : Addr}
    {odlaw_spoilt_line anlaw_spoilt_line : Option Addr} {sllaw_spoilt_line : Array (Option Value)} {oclaw_spoilt_line kVlaw_spoilt_line dclaw_spoilt_line pmlaw_spoilt_line cdlaw_spoilt_line ctlaw_spoilt_line : Value} {flaw_spoilt_line : Addr}
    {odlaw_spoilt anlaw_spoilt : Option Addr} {sllaw_spoilt : Array (Option Value)} {oclaw_spoilt kVlaw_spoilt dclaw_spoilt pmlaw_spoilt cdlaw_spoilt ctlaw_spoilt : Value} {flaw_spoilt : Addr}
    {odlaw_store anlaw_store : Option Addr} {sllaw_store : Array (Option Value)} {oclaw_store kVlaw_store dclaw_store pmlaw_store cdlaw_store ctlaw_store : Value} {flaw_store : Addr}
    {odlaw anlaw : Option Addr} {sllaw : Array (Option Value)} {oclaw kVlaw dclaw pmlaw cdlaw ctlaw : Value} {flaw : Addr}
    {tgDIGITS : Tok}
    {tgMOST_DIGITS : Tok}
    {tgMOST_LEVELS : Tok}
    (nNoJobs : PySem.W.nsIn K mainGlobals "NoJobs" = some (some (.ref aNoJobs)))
    (iNoJobs : PySem.W.isClsIn K aNoJobs = true)
    (tNoJobs : PySem.W.typeIn K (.ref aNoJobs) = some (.type "type"))
    (nNoLengths : PySem.W.nsIn K mainGlobals "NoLengths" = some (some (.ref aNoLengths)))
    (iNoLengths : PySem.W.isClsIn K aNoLengths = true)
    (tNoLengths : PySem.W.typeIn K (.ref aNoLengths) = some (.type "type"))
    (nNoLine : PySem.W.nsIn K mainGlobals "NoLine" = some (some (.ref aNoLine)))
    (iNoLine : PySem.W.isClsIn K aNoLine = true)
    (tNoLine : PySem.W.typeIn K (.ref aNoLine) = some (.type "type"))
    (nNoLog : PySem.W.nsIn K mainGlobals "NoLog" = some (some (.ref aNoLog)))
    (iNoLog : PySem.W.isClsIn K aNoLog = true)
    (tNoLog : PySem.W.typeIn K (.ref aNoLog) = some (.type "type"))
    (nNoMarks : PySem.W.nsIn K mainGlobals "NoMarks" = some (some (.ref aNoMarks)))
    (iNoMarks : PySem.W.isClsIn K aNoMarks = true)
    (tNoMarks : PySem.W.typeIn K (.ref aNoMarks) = some (.type "type"))
    (nNoName : PySem.W.nsIn K mainGlobals "NoName" = some (some (.ref aNoName)))
    (iNoName : PySem.W.isClsIn K aNoName = true)
    (tNoName : PySem.W.typeIn K (.ref aNoName) = some (.type "type"))
    (nNoNamed : PySem.W.nsIn K mainGlobals "NoNamed" = some (some (.ref aNoNamed)))
    (iNoNamed : PySem.W.isClsIn K aNoNamed = true)
    (tNoNamed : PySem.W.typeIn K (.ref aNoNamed) = some (.type "type"))
    (nNoNumber : PySem.W.nsIn K mainGlobals "NoNumber" = some (some (.ref aNoNumber)))
    (iNoNumber : PySem.W.isClsIn K aNoNumber = true)
    (tNoNumber : PySem.W.typeIn K (.ref aNoNumber) = some (.type "type"))
    (nNoOrder : PySem.W.nsIn K mainGlobals "NoOrder" = some (some (.ref aNoOrder)))
    (iNoOrder : PySem.W.isClsIn K aNoOrder = true)
    (tNoOrder : PySem.W.typeIn K (.ref aNoOrder) = some (.type "type"))
    (nNoRule : PySem.W.nsIn K mainGlobals "NoRule" = some (some (.ref aNoRule)))
    (iNoRule : PySem.W.isClsIn K aNoRule = true)
    (tNoRule : PySem.W.typeIn K (.ref aNoRule) = some (.type "type"))
    (nNoText : PySem.W.nsIn K mainGlobals "NoText" = some (some (.ref aNoText)))
    (iNoText : PySem.W.isClsIn K aNoText = true)
    (tNoText : PySem.W.typeIn K (.ref aNoText) = some (.type "type"))
    (nNoUndo : PySem.W.nsIn K mainGlobals "NoUndo" = some (some (.ref aNoUndo)))
    (iNoUndo : PySem.W.isClsIn K aNoUndo = true)
    (tNoUndo : PySem.W.typeIn K (.ref aNoUndo) = some (.type "type"))
    (nSlotError : PySem.W.nsIn K mainGlobals "SlotError" = some (some (.ref aSlotError)))
    (iSlotError : PySem.W.isClsIn K aSlotError = true)
    (tSlotError : PySem.W.typeIn K (.ref aSlotError) = some (.type "type"))
    (bSlotError : PySem.W.subIn K (.ref aSlotError) (.type "BaseException") = some true)
    (hSlotError : PySem.W.hasDictIn K aSlotError = true)
    (sr : PySem.W.readsIn K aSlotError (.type "type") = true)
    (sg : PySem.W.specialIn K (.ref aSlotError) "__getattribute__" = some (some (.builtin "type.__getattribute__")))
    (si : PySem.W.findCls K (.ref aSlotError) (.type "type") "__init__" = some (.val (.builtin "ValueError.__init__")))
    (x0NoRule : K.lookup aNoRule = some (excClassObj nmNoRule qNoRule aNoRule NNoRule bsNoRule [.ref aSlotError, .type "ValueError", .type "Exception", .type "BaseException", .type "object"] true snNoRule subNoRule abNoRule colNoRule ddNoRule m0NoRule m1NoRule m2NoRule m3NoRule m5NoRule "ValueError.__new__"))
    (x1NoRule : PySem.W.findIn K (.ref aNoRule) "__setattr__" = some (some (.builtin "object.__setattr__")))
    (x2NoRule : PySem.W.keepIn K (.ref aNoRule) = true)
    (x3NoRule : PySem.W.findIn K (.ref aNoRule) "__init__" = some (some (.ref fNoRule)))
    (x4NoRule : PySem.W.typeIn K (.ref fNoRule) = some (.type "function"))
    (x5NoRule : PySem.W.findIn K (.ref aNoRule) "place" = some none)
    (x6NoRule : K.lookup fNoRule = some ⟨ocNoRule, odNoRule, .func (PySem.W.fnOf "__init__" "NoRule.__init__" (defArgs si_NoRule) (defBody si_NoRule) (defScope si_NoRule) .none kVNoRule dcNoRule pmNoRule anNoRule cdNoRule ctNoRule), slNoRule⟩)
    (x7NoRule : PySem.W.codeIn K cdNoRule "NoRule.__init__" = true)
    (x8NoRule : PySem.W.keepIn K (.ref fNoRule) = true)
    (y0NoRule : PySem.W.findIn K (.ref aNoRule) "__getattribute__" = some (some (.builtin "BaseException.__getattribute__")))
    (y1NoRule : PySem.W.findIn K (.ref aNoRule) "__getattr__" = some none)
    (y2NoRule : PySem.W.subIn K (.ref aNoRule) (.type "BaseException") = some true)
    (y3NoRule : PySem.W.hasDictIn K aNoRule = true)
    (y4NoRule : PySem.W.findIn K (.ref aNoRule) "__class__" = some (some (.builtin "object.__class__")))
    (y5NoRule : PySem.W.specialIn K (.builtin "object.__class__") "__get__" = some (some (.builtin "getset_descriptor.__get__")))
    (y6NoRule : PySem.W.takesIn K (.builtin "object.__class__") = some true)
    (y7NoRule : PySem.W.mroIn K aNoRule (.type "object") = some true)
    (y8NoRule : PySem.W.subIn K (.ref aNoRule) (.ref aNoRule) = some true)
    (y9NoRule : PySem.W.subIn K (.ref aNoRule) (.type "ValueError") = some true)
    (zNoRule : PySem.W.subIn K (.ref aNoRule) (.ref aSlotError) = some true)
    (zNoRuleNoJobs : PySem.W.subIn K (.ref aNoRule) (.ref aNoJobs) = some false)
    (zNoRuleNoRule : PySem.W.subIn K (.ref aNoRule) (.ref aNoRule) = some true)
    (zNoRuleNoLengths : PySem.W.subIn K (.ref aNoRule) (.ref aNoLengths) = some false)
    (zNoRuleNoLog : PySem.W.subIn K (.ref aNoRule) (.ref aNoLog) = some false)
    (zNoRuleNoMarks : PySem.W.subIn K (.ref aNoRule) (.ref aNoMarks) = some false)
    (zNoRuleNoNamed : PySem.W.subIn K (.ref aNoRule) (.ref aNoNamed) = some false)
    (zNoRuleNoOrder : PySem.W.subIn K (.ref aNoRule) (.ref aNoOrder) = some false)
    (zNoRuleNoText : PySem.W.subIn K (.ref aNoRule) (.ref aNoText) = some false)
    (zNoRuleNoNumber : PySem.W.subIn K (.ref aNoRule) (.ref aNoNumber) = some false)
    (zNoRuleNoName : PySem.W.subIn K (.ref aNoRule) (.ref aNoName) = some false)
    (zNoRuleNoUndo : PySem.W.subIn K (.ref aNoRule) (.ref aNoUndo) = some false)
    (zNoRuleNoLine : PySem.W.subIn K (.ref aNoRule) (.ref aNoLine) = some false)
    (x0NoText : K.lookup aNoText = some (excClassObj nmNoText qNoText aNoText NNoText bsNoText [.ref aSlotError, .type "ValueError", .type "Exception", .type "BaseException", .type "object"] true snNoText subNoText abNoText colNoText ddNoText m0NoText m1NoText m2NoText m3NoText m5NoText "ValueError.__new__"))
    (x1NoText : PySem.W.findIn K (.ref aNoText) "__setattr__" = some (some (.builtin "object.__setattr__")))
    (x2NoText : PySem.W.keepIn K (.ref aNoText) = true)
    (x3NoText : PySem.W.findIn K (.ref aNoText) "__init__" = some (some (.ref fNoText)))
    (x4NoText : PySem.W.typeIn K (.ref fNoText) = some (.type "function"))
    (x5NoText : PySem.W.findIn K (.ref aNoText) "row" = some none)
    (x6NoText : K.lookup fNoText = some ⟨ocNoText, odNoText, .func (PySem.W.fnOf "__init__" "NoText.__init__" (defArgs si_NoText) (defBody si_NoText) (defScope si_NoText) .none kVNoText dcNoText pmNoText anNoText cdNoText ctNoText), slNoText⟩)
    (x7NoText : PySem.W.codeIn K cdNoText "NoText.__init__" = true)
    (x8NoText : PySem.W.keepIn K (.ref fNoText) = true)
    (y0NoText : PySem.W.findIn K (.ref aNoText) "__getattribute__" = some (some (.builtin "BaseException.__getattribute__")))
    (y1NoText : PySem.W.findIn K (.ref aNoText) "__getattr__" = some none)
    (y2NoText : PySem.W.subIn K (.ref aNoText) (.type "BaseException") = some true)
    (y3NoText : PySem.W.hasDictIn K aNoText = true)
    (y4NoText : PySem.W.findIn K (.ref aNoText) "__class__" = some (some (.builtin "object.__class__")))
    (y5NoText : PySem.W.specialIn K (.builtin "object.__class__") "__get__" = some (some (.builtin "getset_descriptor.__get__")))
    (y6NoText : PySem.W.takesIn K (.builtin "object.__class__") = some true)
    (y7NoText : PySem.W.mroIn K aNoText (.type "object") = some true)
    (y8NoText : PySem.W.subIn K (.ref aNoText) (.ref aNoText) = some true)
    (y9NoText : PySem.W.subIn K (.ref aNoText) (.type "ValueError") = some true)
    (zNoText : PySem.W.subIn K (.ref aNoText) (.ref aSlotError) = some true)
    (zNoTextNoJobs : PySem.W.subIn K (.ref aNoText) (.ref aNoJobs) = some false)
    (zNoTextNoRule : PySem.W.subIn K (.ref aNoText) (.ref aNoRule) = some false)
    (zNoTextNoLengths : PySem.W.subIn K (.ref aNoText) (.ref aNoLengths) = some false)
    (zNoTextNoLog : PySem.W.subIn K (.ref aNoText) (.ref aNoLog) = some false)
    (zNoTextNoMarks : PySem.W.subIn K (.ref aNoText) (.ref aNoMarks) = some false)
    (zNoTextNoNamed : PySem.W.subIn K (.ref aNoText) (.ref aNoNamed) = some false)
    (zNoTextNoOrder : PySem.W.subIn K (.ref aNoText) (.ref aNoOrder) = some false)
    (zNoTextNoText : PySem.W.subIn K (.ref aNoText) (.ref aNoText) = some true)
    (zNoTextNoNumber : PySem.W.subIn K (.ref aNoText) (.ref aNoNumber) = some false)
    (zNoTextNoName : PySem.W.subIn K (.ref aNoText) (.ref aNoName) = some false)
    (zNoTextNoUndo : PySem.W.subIn K (.ref aNoText) (.ref aNoUndo) = some false)
    (zNoTextNoLine : PySem.W.subIn K (.ref aNoText) (.ref aNoLine) = some false)
    (alaw_mix : PySem.W.nsIn K mainGlobals "_law_mix" = some (some (.ref flaw_mix)))
    (llaw_mix : K.lookup flaw_mix = some ⟨oclaw_mix, odlaw_mix, .func (PySem.W.fnOf "_law_mix" "_law_mix" (defArgs s_law_mix) (defBody s_law_mix) (defScope s_law_mix) .none kVlaw_mix dclaw_mix pmlaw_mix anlaw_mix cdlaw_mix ctlaw_mix), sllaw_mix⟩)
    (claw_mix : PySem.W.codeIn K cdlaw_mix "_law_mix" = true)
    (klaw_mix : PySem.W.keepIn K (.ref flaw_mix) = true)
    (alaw_pick : PySem.W.nsIn K mainGlobals "_law_pick" = some (some (.ref flaw_pick)))
    (llaw_pick : K.lookup flaw_pick = some ⟨oclaw_pick, odlaw_pick, .func (PySem.W.fnOf "_law_pick" "_law_pick" (defArgs s_law_pick) (defBody s_law_pick) (defScope s_law_pick) .none kVlaw_pick dclaw_pick pmlaw_pick anlaw_pick cdlaw_pick ctlaw_pick), sllaw_pick⟩)
    (claw_pick : PySem.W.codeIn K cdlaw_pick "_law_pick" = true)
    (klaw_pick : PySem.W.keepIn K (.ref flaw_pick) = true)
    (alaw_good : PySem.W.nsIn K mainGlobals "_law_good" = some (some (.ref flaw_good)))
    (llaw_good : K.lookup flaw_good = some ⟨oclaw_good, odlaw_good, .func (PySem.W.fnOf "_law_good" "_law_good" (defArgs s_law_good) (defBody s_law_good) (defScope s_law_good) .none kVlaw_good dclaw_good pmlaw_good anlaw_good cdlaw_good ctlaw_good), sllaw_good⟩)
    (claw_good : PySem.W.codeIn K cdlaw_good "_law_good" = true)
    (klaw_good : PySem.W.keepIn K (.ref flaw_good) = true)
    (alaw_kind : PySem.W.nsIn K mainGlobals "_law_kind" = some (some (.ref flaw_kind)))
    (llaw_kind : K.lookup flaw_kind = some ⟨oclaw_kind, odlaw_kind, .func (PySem.W.fnOf "_law_kind" "_law_kind" (defArgs s_law_kind) (defBody s_law_kind) (defScope s_law_kind) .none kVlaw_kind dclaw_kind pmlaw_kind anlaw_kind cdlaw_kind ctlaw_kind), sllaw_kind⟩)
    (claw_kind : PySem.W.codeIn K cdlaw_kind "_law_kind" = true)
    (klaw_kind : PySem.W.keepIn K (.ref flaw_kind) = true)
    (ais_integer : PySem.W.nsIn K mainGlobals "is_integer" = some (some (.ref fis_integer)))
    (lis_integer : K.lookup fis_integer = some ⟨ocis_integer, odis_integer, .func (PySem.W.fnOf "is_integer" "is_integer" (defArgs s_is_integer) (defBody s_is_integer) (defScope s_is_integer) .none kVis_integer dcis_integer pmis_integer anis_integer cdis_integer ctis_integer), slis_integer⟩)
    (cis_integer : PySem.W.codeIn K cdis_integer "is_integer" = true)
    (kis_integer : PySem.W.keepIn K (.ref fis_integer) = true)
    (ais_level : PySem.W.nsIn K mainGlobals "is_level" = some (some (.ref fis_level)))
    (lis_level : K.lookup fis_level = some ⟨ocis_level, odis_level, .func (PySem.W.fnOf "is_level" "is_level" (defArgs s_is_level) (defBody s_is_level) (defScope s_is_level) .none kVis_level dcis_level pmis_level anis_level cdis_level ctis_level), slis_level⟩)
    (cis_level : PySem.W.codeIn K cdis_level "is_level" = true)
    (kis_level : PySem.W.keepIn K (.ref fis_level) = true)
    (acheck_rule : PySem.W.nsIn K mainGlobals "check_rule" = some (some (.ref fcheck_rule)))
    (lcheck_rule : K.lookup fcheck_rule = some ⟨occheck_rule, odcheck_rule, .func (PySem.W.fnOf "check_rule" "check_rule" (defArgs s_check_rule) (defBody s_check_rule) (defScope s_check_rule) .none kVcheck_rule dccheck_rule pmcheck_rule ancheck_rule cdcheck_rule ctcheck_rule), slcheck_rule⟩)
    (ccheck_rule : PySem.W.codeIn K cdcheck_rule "check_rule" = true)
    (kcheck_rule : PySem.W.keepIn K (.ref fcheck_rule) = true)
    (arule_lines : PySem.W.nsIn K mainGlobals "rule_lines" = some (some (.ref frule_lines)))
    (lrule_lines : K.lookup frule_lines = some ⟨ocrule_lines, odrule_lines, .func (PySem.W.fnOf "rule_lines" "rule_lines" (defArgs s_rule_lines) (defBody s_rule_lines) (defScope s_rule_lines) .none kVrule_lines dcrule_lines pmrule_lines anrule_lines cdrule_lines ctrule_lines), slrule_lines⟩)
    (crule_lines : PySem.W.codeIn K cdrule_lines "rule_lines" = true)
    (krule_lines : PySem.W.keepIn K (.ref frule_lines) = true)
    (ashow_rule : PySem.W.nsIn K mainGlobals "show_rule" = some (some (.ref fshow_rule)))
    (lshow_rule : K.lookup fshow_rule = some ⟨ocshow_rule, odshow_rule, .func (PySem.W.fnOf "show_rule" "show_rule" (defArgs s_show_rule) (defBody s_show_rule) (defScope s_show_rule) .none kVshow_rule dcshow_rule pmshow_rule anshow_rule cdshow_rule ctshow_rule), slshow_rule⟩)
    (cshow_rule : PySem.W.codeIn K cdshow_rule "show_rule" = true)
    (kshow_rule : PySem.W.keepIn K (.ref fshow_rule) = true)
    (alaw_list_right : PySem.W.nsIn K mainGlobals "_law_list_right" = some (some (.ref flaw_list_right)))
    (llaw_list_right : K.lookup flaw_list_right = some ⟨oclaw_list_right, odlaw_list_right, .func (PySem.W.fnOf "_law_list_right" "_law_list_right" (defArgs s_law_list_right) (defBody s_law_list_right) (defScope s_law_list_right) .none kVlaw_list_right dclaw_list_right pmlaw_list_right anlaw_list_right cdlaw_list_right ctlaw_list_right), sllaw_list_right⟩)
    (claw_list_right : PySem.W.codeIn K cdlaw_list_right "_law_list_right" = true)
    (klaw_list_right : PySem.W.keepIn K (.ref flaw_list_right) = true)
    (alaw_number : PySem.W.nsIn K mainGlobals "_law_number" = some (some (.ref flaw_number)))
    (llaw_number : K.lookup flaw_number = some ⟨oclaw_number, odlaw_number, .func (PySem.W.fnOf "_law_number" "_law_number" (defArgs s_law_number) (defBody s_law_number) (defScope s_law_number) .none kVlaw_number dclaw_number pmlaw_number anlaw_number cdlaw_number ctlaw_number), sllaw_number⟩)
    (claw_number : PySem.W.codeIn K cdlaw_number "_law_number" = true)
    (klaw_number : PySem.W.keepIn K (.ref flaw_number) = true)
    (alaw_words_read : PySem.W.nsIn K mainGlobals "_law_words_read" = some (some (.ref flaw_words_read)))
    (llaw_words_read : K.lookup flaw_words_read = some ⟨oclaw_words_read, odlaw_words_read, .func (PySem.W.fnOf "_law_words_read" "_law_words_read" (defArgs s_law_words_read) (defBody s_law_words_read) (defScope s_law_words_read) .none kVlaw_words_read dclaw_words_read pmlaw_words_read anlaw_words_read cdlaw_words_read ctlaw_words_read), sllaw_words_read⟩)
    (claw_words_read : PySem.W.codeIn K cdlaw_words_read "_law_words_read" = true)
    (klaw_words_read : PySem.W.keepIn K (.ref flaw_words_read) = true)
    (alaw_due : PySem.W.nsIn K mainGlobals "_law_due" = some (some (.ref flaw_due)))
    (llaw_due : K.lookup flaw_due = some ⟨oclaw_due, odlaw_due, .func (PySem.W.fnOf "_law_due" "_law_due" (defArgs s_law_due) (defBody s_law_due) (defScope s_law_due) .none kVlaw_due dclaw_due pmlaw_due anlaw_due cdlaw_due ctlaw_due), sllaw_due⟩)
    (claw_due : PySem.W.codeIn K cdlaw_due "_law_due" = true)
    (klaw_due : PySem.W.keepIn K (.ref flaw_due) = true)
    (anumber_in : PySem.W.nsIn K mainGlobals "number_in" = some (some (.ref fnumber_in)))
    (lnumber_in : K.lookup fnumber_in = some ⟨ocnumber_in, odnumber_in, .func (PySem.W.fnOf "number_in" "number_in" (defArgs s_number_in) (defBody s_number_in) (defScope s_number_in) .none kVnumber_in dcnumber_in pmnumber_in annumber_in cdnumber_in ctnumber_in), slnumber_in⟩)
    (cnumber_in : PySem.W.codeIn K cdnumber_in "number_in" = true)
    (knumber_in : PySem.W.keepIn K (.ref fnumber_in) = true)
    (aread_boost : PySem.W.nsIn K mainGlobals "read_boost" = some (some (.ref fread_boost)))
    (lread_boost : K.lookup fread_boost = some ⟨ocread_boost, odread_boost, .func (PySem.W.fnOf "read_boost" "read_boost" (defArgs s_read_boost) (defBody s_read_boost) (defScope s_read_boost) .none kVread_boost dcread_boost pmread_boost anread_boost cdread_boost ctread_boost), slread_boost⟩)
    (cread_boost : PySem.W.codeIn K cdread_boost "read_boost" = true)
    (kread_boost : PySem.W.keepIn K (.ref fread_boost) = true)
    (aread_level : PySem.W.nsIn K mainGlobals "read_level" = some (some (.ref fread_level)))
    (lread_level : K.lookup fread_level = some ⟨ocread_level, odread_level, .func (PySem.W.fnOf "read_level" "read_level" (defArgs s_read_level) (defBody s_read_level) (defScope s_read_level) .none kVread_level dcread_level pmread_level anread_level cdread_level ctread_level), slread_level⟩)
    (cread_level : PySem.W.codeIn K cdread_level "read_level" = true)
    (kread_level : PySem.W.keepIn K (.ref fread_level) = true)
    (aread_rule : PySem.W.nsIn K mainGlobals "read_rule" = some (some (.ref fread_rule)))
    (lread_rule : K.lookup fread_rule = some ⟨ocread_rule, odread_rule, .func (PySem.W.fnOf "read_rule" "read_rule" (defArgs s_read_rule) (defBody s_read_rule) (defScope s_read_rule) .none kVread_rule dcread_rule pmread_rule anread_rule cdread_rule ctread_rule), slread_rule⟩)
    (cread_rule : PySem.W.codeIn K cdread_rule "read_rule" = true)
    (kread_rule : PySem.W.keepIn K (.ref fread_rule) = true)
    (alaw_right : PySem.W.nsIn K mainGlobals "_law_right" = some (some (.ref flaw_right)))
    (llaw_right : K.lookup flaw_right = some ⟨oclaw_right, odlaw_right, .func (PySem.W.fnOf "_law_right" "_law_right" (defArgs s_law_right) (defBody s_law_right) (defScope s_law_right) .none kVlaw_right dclaw_right pmlaw_right anlaw_right cdlaw_right ctlaw_right), sllaw_right⟩)
    (claw_right : PySem.W.codeIn K cdlaw_right "_law_right" = true)
    (klaw_right : PySem.W.keepIn K (.ref flaw_right) = true)
    (alaw_rule_lines : PySem.W.nsIn K mainGlobals "_law_rule_lines" = some (some (.ref flaw_rule_lines)))
    (llaw_rule_lines : K.lookup flaw_rule_lines = some ⟨oclaw_rule_lines, odlaw_rule_lines, .func (PySem.W.fnOf "_law_rule_lines" "_law_rule_lines" (defArgs s_law_rule_lines) (defBody s_law_rule_lines) (defScope s_law_rule_lines) .none kVlaw_rule_lines dclaw_rule_lines pmlaw_rule_lines anlaw_rule_lines cdlaw_rule_lines ctlaw_rule_lines), sllaw_rule_lines⟩)
    (claw_rule_lines : PySem.W.codeIn K cdlaw_rule_lines "_law_rule_lines" = true)
    (klaw_rule_lines : PySem.W.keepIn K (.ref flaw_rule_lines) = true)
    (alaw_spoilt_line : PySem.W.nsIn K mainGlobals "_law_spoilt_line" = some (some (.ref flaw_spoilt_line)))
    (llaw_spoilt_line : K.lookup flaw_spoilt_line = some ⟨oclaw_spoilt_line, odlaw_spoilt_line, .func (PySem.W.fnOf "_law_spoilt_line" "_law_spoilt_line" (defArgs s_law_spoilt_line) (defBody s_law_spoilt_line) (defScope s_law_spoilt_line) .none kVlaw_spoilt_line dclaw_spoilt_line pmlaw_spoilt_line anlaw_spoilt_line cdlaw_spoilt_line ctlaw_spoilt_line), sllaw_spoilt_line⟩)
    (claw_spoilt_line : PySem.W.codeIn K cdlaw_spoilt_line "_law_spoilt_line" = true)
    (klaw_spoilt_line : PySem.W.keepIn K (.ref flaw_spoilt_line) = true)
    (alaw_spoilt : PySem.W.nsIn K mainGlobals "_law_spoilt" = some (some (.ref flaw_spoilt)))
    (llaw_spoilt : K.lookup flaw_spoilt = some ⟨oclaw_spoilt, odlaw_spoilt, .func (PySem.W.fnOf "_law_spoilt" "_law_spoilt" (defArgs s_law_spoilt) (defBody s_law_spoilt) (defScope s_law_spoilt) .none kVlaw_spoilt dclaw_spoilt pmlaw_spoilt anlaw_spoilt cdlaw_spoilt ctlaw_spoilt), sllaw_spoilt⟩)
    (claw_spoilt : PySem.W.codeIn K cdlaw_spoilt "_law_spoilt" = true)
    (klaw_spoilt : PySem.W.keepIn K (.ref flaw_spoilt) = true)
    (alaw_store : PySem.W.nsIn K mainGlobals "_law_store" = some (some (.ref flaw_store)))
    (llaw_store : K.lookup flaw_store = some ⟨oclaw_store, odlaw_store, .func (PySem.W.fnOf "_law_store" "_law_store" (defArgs s_law_store) (defBody s_law_store) (defScope s_law_store) .none kVlaw_store dclaw_store pmlaw_store anlaw_store cdlaw_store ctlaw_store), sllaw_store⟩)
    (claw_store : PySem.W.codeIn K cdlaw_store "_law_store" = true)
    (klaw_store : PySem.W.keepIn K (.ref flaw_store) = true)
    (alaw : PySem.W.nsIn K mainGlobals "law" = some (some (.ref flaw)))
    (llaw : K.lookup flaw = some ⟨oclaw, odlaw, .func (PySem.W.fnOf "law" "law" (defArgs s_law) (defBody s_law) (defScope s_law) .none kVlaw dclaw pmlaw anlaw cdlaw ctlaw), sllaw⟩)
    (claw : PySem.W.codeIn K cdlaw "law" = true)
    (klaw : PySem.W.keepIn K (.ref flaw) = true)
    (gDIGITS : PySem.W.nsIn K mainGlobals "DIGITS" = some (some (.str ("0123456789" : Str) tgDIGITS)))
    (gMOST_DIGITS : PySem.W.nsIn K mainGlobals "MOST_DIGITS" = some (some (.int 31 tgMOST_DIGITS)))
    (gMOST_LEVELS : PySem.W.nsIn K mainGlobals "MOST_LEVELS" = some (some (.int 6 tgMOST_LEVELS)))
    (zValueError : PySem.W.nsIn K mainGlobals "ValueError" = some none)
    (zall : PySem.W.nsIn K mainGlobals "all" = some none)
    (zbool : PySem.W.nsIn K mainGlobals "bool" = some none)
    (zenumerate : PySem.W.nsIn K mainGlobals "enumerate" = some none)
    (zint : PySem.W.nsIn K mainGlobals "int" = some none)
    (zisinstance : PySem.W.nsIn K mainGlobals "isinstance" = some none)
    (zlen : PySem.W.nsIn K mainGlobals "len" = some none)
    (zlist : PySem.W.nsIn K mainGlobals "list" = some none)
    (zrange : PySem.W.nsIn K mainGlobals "range" = some none)
    (zstr : PySem.W.nsIn K mainGlobals "str" = some none)
    (ztuple : PySem.W.nsIn K mainGlobals "tuple" = some none)
    : ∃ fd : FuncData, (∀ (s : Shared) (v : Value), BindsTo s fd ⟨[v], []⟩ [("script", v)]) ∧ ∀ base : Heap, K.In base → base.Ns mainGlobals mg → FnOk l.prog w K mg base (L2.CX l.prog w) 6 fa fd ["script"] (LSp K spLawT) := by
  have e := hfa.symm.trans (PySem.W.mg_of X G alaw)
  cases e
  let cs : Cs := ⟨K, aNoJobs, aNoLengths, aNoLine, aNoLog, aNoMarks, aNoName, aNoNamed, aNoNumber, aNoOrder, aNoRule, aNoText, aNoUndo, aSlotError⟩
  have Flaw_mix := fun_mk (st := s_law_mix) llaw_mix claw_mix klaw_mix
  have Dlaw_mix : Df cs.K mg "_law_mix" "_law_mix" s_law_mix ["number", "turn"] := ⟨_, _, Flaw_mix, PySem.W.mg_of X G alaw_mix, Flaw_mix.binds (ps := ["number", "turn"]) fun _ _ _ _ _ _ us hl => match us, hl with | [_, _], _ => rfl⟩
  have Flaw_pick := fun_mk (st := s_law_pick) llaw_pick claw_pick klaw_pick
  have Dlaw_pick : Df cs.K mg "_law_pick" "_law_pick" s_law_pick ["store", "count"] := ⟨_, _, Flaw_pick, PySem.W.mg_of X G alaw_pick, Flaw_pick.binds (ps := ["store", "count"]) fun _ _ _ _ _ _ us hl => match us, hl with | [_, _], _ => rfl⟩
  have Flaw_good := fun_mk (st := s_law_good) llaw_good claw_good klaw_good
  have Dlaw_good : Df cs.K mg "_law_good" "_law_good" s_law_good ["store"] := ⟨_, _, Flaw_good, PySem.W.mg_of X G alaw_good, Flaw_good.binds (ps := ["store"]) fun _ _ _ _ _ _ us hl => match us, hl with | [_], _ => rfl⟩
  have Flaw_kind := fun_mk (st := s_law_kind) llaw_kind claw_kind klaw_kind
  have Dlaw_kind : Df cs.K mg "_law_kind" "_law_kind" s_law_kind ["caught"] := ⟨_, _, Flaw_kind, PySem.W.mg_of X G alaw_kind, Flaw_kind.binds (ps := ["caught"]) fun _ _ _ _ _ _ us hl => match us, hl with | [_], _ => rfl⟩
  have Fis_integer := fun_mk (st := s_is_integer) lis_integer cis_integer kis_integer
  have Dis_integer : Df cs.K mg "is_integer" "is_integer" s_is_integer ["value", "least"] := ⟨_, _, Fis_integer, PySem.W.mg_of X G ais_integer, Fis_integer.binds (ps := ["value", "least"]) fun _ _ _ _ _ _ us hl => match us, hl with | [_, _], _ => rfl⟩
  have Fis_level := fun_mk (st := s_is_level) lis_level cis_level kis_level
  have Dis_level : Df cs.K mg "is_level" "is_level" s_is_level ["level"] := ⟨_, _, Fis_level, PySem.W.mg_of X G ais_level, Fis_level.binds (ps := ["level"]) fun _ _ _ _ _ _ us hl => match us, hl with | [_], _ => rfl⟩
  have Fcheck_rule := fun_mk (st := s_check_rule) lcheck_rule ccheck_rule kcheck_rule
  have Dcheck_rule : Df cs.K mg "check_rule" "check_rule" s_check_rule ["rule"] := ⟨_, _, Fcheck_rule, PySem.W.mg_of X G acheck_rule, Fcheck_rule.binds (ps := ["rule"]) fun _ _ _ _ _ _ us hl => match us, hl with | [_], _ => rfl⟩
  have Frule_lines := fun_mk (st := s_rule_lines) lrule_lines crule_lines krule_lines
  have Drule_lines : Df cs.K mg "rule_lines" "rule_lines" s_rule_lines ["rule"] := ⟨_, _, Frule_lines, PySem.W.mg_of X G arule_lines, Frule_lines.binds (ps := ["rule"]) fun _ _ _ _ _ _ us hl => match us, hl with | [_], _ => rfl⟩
  have Fshow_rule := fun_mk (st := s_show_rule) lshow_rule cshow_rule kshow_rule
  have Dshow_rule : Df cs.K mg "show_rule" "show_rule" s_show_rule ["rule"] := ⟨_, _, Fshow_rule, PySem.W.mg_of X G ashow_rule, Fshow_rule.binds (ps := ["rule"]) fun _ _ _ _ _ _ us hl => match us, hl with | [_], _ => rfl⟩
  have Flaw_list_right := fun_mk (st := s_law_list_right) llaw_list_right claw_list_right klaw_list_right
  have Dlaw_list_right : Df cs.K mg "_law_list_right" "_law_list_right" s_law_list_right ["policy"] := ⟨_, _, Flaw_list_right, PySem.W.mg_of X G alaw_list_right, Flaw_list_right.binds (ps := ["policy"]) fun _ _ _ _ _ _ us hl => match us, hl with | [_], _ => rfl⟩
  have Flaw_number := fun_mk (st := s_law_number) llaw_number claw_number klaw_number
  have Dlaw_number : Df cs.K mg "_law_number" "_law_number" s_law_number ["word"] := ⟨_, _, Flaw_number, PySem.W.mg_of X G alaw_number, Flaw_number.binds (ps := ["word"]) fun _ _ _ _ _ _ us hl => match us, hl with | [_], _ => rfl⟩
  have Flaw_words_read := fun_mk (st := s_law_words_read) llaw_words_read claw_words_read klaw_words_read
  have Dlaw_words_read : Df cs.K mg "_law_words_read" "_law_words_read" s_law_words_read ["line", "heads"] := ⟨_, _, Flaw_words_read, PySem.W.mg_of X G alaw_words_read, Flaw_words_read.binds (ps := ["line", "heads"]) fun _ _ _ _ _ _ us hl => match us, hl with | [_, _], _ => rfl⟩
  have Flaw_due := fun_mk (st := s_law_due) llaw_due claw_due klaw_due
  have Dlaw_due : Df cs.K mg "_law_due" "_law_due" s_law_due ["text"] := ⟨_, _, Flaw_due, PySem.W.mg_of X G alaw_due, Flaw_due.binds (ps := ["text"]) fun _ _ _ _ _ _ us hl => match us, hl with | [_], _ => rfl⟩
  have Fnumber_in := fun_mk (st := s_number_in) lnumber_in cnumber_in knumber_in
  have Dnumber_in : Df cs.K mg "number_in" "number_in" s_number_in ["word"] := ⟨_, _, Fnumber_in, PySem.W.mg_of X G anumber_in, Fnumber_in.binds (ps := ["word"]) fun _ _ _ _ _ _ us hl => match us, hl with | [_], _ => rfl⟩
  have Fread_boost := fun_mk (st := s_read_boost) lread_boost cread_boost kread_boost
  have Dread_boost : Df cs.K mg "read_boost" "read_boost" s_read_boost ["line"] := ⟨_, _, Fread_boost, PySem.W.mg_of X G aread_boost, Fread_boost.binds (ps := ["line"]) fun _ _ _ _ _ _ us hl => match us, hl with | [_], _ => rfl⟩
  have Fread_level := fun_mk (st := s_read_level) lread_level cread_level kread_level
  have Dread_level : Df cs.K mg "read_level" "read_level" s_read_level ["line"] := ⟨_, _, Fread_level, PySem.W.mg_of X G aread_level, Fread_level.binds (ps := ["line"]) fun _ _ _ _ _ _ us hl => match us, hl with | [_], _ => rfl⟩
  have Fread_rule := fun_mk (st := s_read_rule) lread_rule cread_rule kread_rule
  have Dread_rule : Df cs.K mg "read_rule" "read_rule" s_read_rule ["text"] := ⟨_, _, Fread_rule, PySem.W.mg_of X G aread_rule, Fread_rule.binds (ps := ["text"]) fun _ _ _ _ _ _ us hl => match us, hl with | [_], _ => rfl⟩
  have Flaw_right := fun_mk (st := s_law_right) llaw_right claw_right klaw_right
  have Dlaw_right : Df cs.K mg "_law_right" "_law_right" s_law_right ["text"] := ⟨_, _, Flaw_right, PySem.W.mg_of X G alaw_right, Flaw_right.binds (ps := ["text"]) fun _ _ _ _ _ _ us hl => match us, hl with | [_], _ => rfl⟩
  have Flaw_rule_lines := fun_mk (st := s_law_rule_lines) llaw_rule_lines claw_rule_lines klaw_rule_lines
  have Dlaw_rule_lines : Df cs.K mg "_law_rule_lines" "_law_rule_lines" s_law_rule_lines ["policy"] := ⟨_, _, Flaw_rule_lines, PySem.W.mg_of X G alaw_rule_lines, Flaw_rule_lines.binds (ps := ["policy"]) fun _ _ _ _ _ _ us hl => match us, hl with | [_], _ => rfl⟩
  have Flaw_spoilt_line := fun_mk (st := s_law_spoilt_line) llaw_spoilt_line claw_spoilt_line klaw_spoilt_line
  have Dlaw_spoilt_line : Df cs.K mg "_law_spoilt_line" "_law_spoilt_line" s_law_spoilt_line ["store", "line"] := ⟨_, _, Flaw_spoilt_line, PySem.W.mg_of X G alaw_spoilt_line, Flaw_spoilt_line.binds (ps := ["store", "line"]) fun _ _ _ _ _ _ us hl => match us, hl with | [_, _], _ => rfl⟩
  have Flaw_spoilt := fun_mk (st := s_law_spoilt) llaw_spoilt claw_spoilt klaw_spoilt
  have Dlaw_spoilt : Df cs.K mg "_law_spoilt" "_law_spoilt" s_law_spoilt ["store", "lines"] := ⟨_, _, Flaw_spoilt, PySem.W.mg_of X G alaw_spoilt, Flaw_spoilt.binds (ps := ["store", "lines"]) fun _ _ _ _ _ _ us hl => match us, hl with | [_, _], _ => rfl⟩
  have Flaw_store := fun_mk (st := s_law_store) llaw_store claw_store klaw_store
  have Dlaw_store : Df cs.K mg "_law_store" "_law_store" s_law_store ["script"] := ⟨_, _, Flaw_store, PySem.W.mg_of X G alaw_store, Flaw_store.binds (ps := ["script"]) fun _ _ _ _ _ _ us hl => match us, hl with | [_], _ => rfl⟩
  have Flaw := fun_mk (st := s_law) llaw claw klaw
  have ENoRule : ErrF K aNoRule := ⟨y0NoRule, y1NoRule, y2NoRule, y3NoRule, y4NoRule, y5NoRule, y6NoRule, y7NoRule, y8NoRule, y9NoRule⟩
  have ONoRule : OexC K aNoRule := ⟨⟨_, _, _, _, _, _, _, _, _, _, _, _, _, _, _, x0NoRule, rfl⟩, x1NoRule, y2NoRule, tNoRule, x2NoRule⟩
  have FINoRule := fun_mk (st := si_NoRule) x6NoRule x7NoRule x8NoRule
  have BINoRule := FINoRule.binds (ps := ["self", "place"]) fun _ _ _ _ _ _ us hl => match us, hl with | [_, _], _ => rfl
  have ENoText : ErrF K aNoText := ⟨y0NoText, y1NoText, y2NoText, y3NoText, y4NoText, y5NoText, y6NoText, y7NoText, y8NoText, y9NoText⟩
  have ONoText : OexC K aNoText := ⟨⟨_, _, _, _, _, _, _, _, _, _, _, _, _, _, _, x0NoText, rfl⟩, x1NoText, y2NoText, tNoText, x2NoText⟩
  have FINoText := fun_mk (st := si_NoText) x6NoText x7NoText x8NoText
  have BINoText := FINoText.binds (ps := ["self", "row"]) fun _ _ _ _ _ _ us hl => match us, hl with | [_, _], _ => rfl
  have SE : SeC K aSlotError := ⟨sr, sg, si⟩
  refine ⟨PySem.W.fnOf "law" "law" (defArgs s_law) (defBody s_law) (defScope s_law) .none kVlaw dclaw pmlaw anlaw cdlaw ctlaw, fun s v => .of_eq rfl, fun base _ _ => ?_⟩
  have kx : Kx cs := ⟨⟨by decide, fun i hi => match i, hi with | 0, _ => ENoRule.is iNoJobs tNoJobs zNoRuleNoJobs | 1, _ => ENoRule.is iNoRule tNoRule zNoRuleNoRule | 2, _ => ENoRule.is iNoLengths tNoLengths zNoRuleNoLengths | 3, _ => ENoRule.is iNoLog tNoLog zNoRuleNoLog | 4, _ => ENoRule.is iNoMarks tNoMarks zNoRuleNoMarks | 5, _ => ENoRule.is iNoNamed tNoNamed zNoRuleNoNamed | 6, _ => ENoRule.is iNoOrder tNoOrder zNoRuleNoOrder | 7, _ => ENoRule.is iNoText tNoText zNoRuleNoText | 8, _ => ENoRule.is iNoNumber tNoNumber zNoRuleNoNumber | 9, _ => ENoRule.is iNoName tNoName zNoRuleNoName | 10, _ => ENoRule.is iNoUndo tNoUndo zNoRuleNoUndo | 11, _ => ENoRule.is iNoLine tNoLine zNoRuleNoLine, ENoRule.is iSlotError tSlotError zNoRule, ⟨ENoRule.exc, kit_ve y9NoRule⟩, fun f hf => by cases hf; exact ⟨ENoRule.xfc, x5NoRule⟩⟩,
    PySem.W.exm_ref bSlotError hSlotError tSlotError zNoRule,
    ⟨by decide, fun i hi => match i, hi with | 0, _ => ENoText.is iNoJobs tNoJobs zNoTextNoJobs | 1, _ => ENoText.is iNoRule tNoRule zNoTextNoRule | 2, _ => ENoText.is iNoLengths tNoLengths zNoTextNoLengths | 3, _ => ENoText.is iNoLog tNoLog zNoTextNoLog | 4, _ => ENoText.is iNoMarks tNoMarks zNoTextNoMarks | 5, _ => ENoText.is iNoNamed tNoNamed zNoTextNoNamed | 6, _ => ENoText.is iNoOrder tNoOrder zNoTextNoOrder | 7, _ => ENoText.is iNoText tNoText zNoTextNoText | 8, _ => ENoText.is iNoNumber tNoNumber zNoTextNoNumber | 9, _ => ENoText.is iNoName tNoName zNoTextNoName | 10, _ => ENoText.is iNoUndo tNoUndo zNoTextNoUndo | 11, _ => ENoText.is iNoLine tNoLine zNoTextNoLine, ENoText.is iSlotError tSlotError zNoText, ⟨ENoText.exc, kit_ve y9NoText⟩, fun f hf => by cases hf; exact ⟨ENoText.xfc, x5NoText⟩⟩,
    PySem.W.exm_ref bSlotError hSlotError tSlotError zNoText⟩
  have T : Tx l.prog w mg base cs := ⟨⟨_, PySem.W.mg_of X G gDIGITS⟩,
    ⟨_, PySem.W.mg_of X G gMOST_DIGITS⟩,
    ⟨_, PySem.W.mg_of X G gMOST_LEVELS⟩,
    PySem.W.mg_none_of X G zValueError,
    PySem.W.mg_none_of X G zall,
    PySem.W.mg_none_of X G zbool,
    PySem.W.mg_none_of X G zenumerate,
    PySem.W.mg_none_of X G zint,
    PySem.W.mg_none_of X G zisinstance,
    PySem.W.mg_none_of X G zlen,
    PySem.W.mg_none_of X G zlist,
    PySem.W.mg_none_of X G zrange,
    PySem.W.mg_none_of X G zstr,
    PySem.W.mg_none_of X G ztuple,
    PySem.W.mg_of X G nNoJobs,
    PySem.W.mg_of X G nNoLengths,
    PySem.W.mg_of X G nNoLine,
    PySem.W.mg_of X G nNoLog,
    PySem.W.mg_of X G nNoMarks,
    PySem.W.mg_of X G nNoName,
    PySem.W.mg_of X G nNoNamed,
    PySem.W.mg_of X G nNoNumber,
    PySem.W.mg_of X G nNoOrder,
    PySem.W.mg_of X G nNoRule,
    PySem.W.mg_of X G nNoText,
    PySem.W.mg_of X G nNoUndo,
    PySem.W.mg_of X G nSlotError,
    ⟨fNoRule, _, _, ⟨PySem.W.mg_of X G nNoRule, ONoRule, x3NoRule, x4NoRule⟩, xi_NoRule FINoRule (PySem.W.mg_of X G nSlotError) SE (PySem.W.mg_none_of X G zstr) ONoRule x5NoRule, BINoRule⟩,
    ⟨fNoText, _, _, ⟨PySem.W.mg_of X G nNoText, ONoText, x3NoText, x4NoText⟩, xi_NoText FINoText (PySem.W.mg_of X G nSlotError) SE (PySem.W.mg_none_of X G zstr) ONoText x5NoText, BINoText⟩⟩
  have Ylaw_mix := ok_law_mix T Dlaw_mix rd_law_mix
  have Ylaw_pick := ok_law_pick T Ylaw_mix Dlaw_pick rd_law_pick
  have Ylaw_good := ok_law_good T Ylaw_pick Dlaw_good rd_law_good
  have Ylaw_kind := ok_law_kind T Dlaw_kind rd_law_kind
  have Yis_integer := ok_is_integer T Dis_integer rd_is_integer
  have Yis_level := ok_is_level T Yis_integer Dis_level rd_is_level
  have Ycheck_rule := ok_check_rule T Yis_integer Yis_level Dcheck_rule rd_check_rule
  have Yrule_lines := ok_rule_lines T Drule_lines rd_rule_lines
  have Yshow_rule := ok_show_rule T Ycheck_rule Yrule_lines Dshow_rule rd_show_rule
  have Ylaw_list_right := ok_law_list_right T Ylaw_kind Yshow_rule Dlaw_list_right (rd_law_list_right kx)
  have Ylaw_number := ok_law_number T Dlaw_number rd_law_number
  have Ylaw_words_read := ok_law_words_read T Ylaw_number Dlaw_words_read rd_law_words_read
  have Ylaw_due := ok_law_due T Ylaw_words_read Dlaw_due rd_law_due
  have Ynumber_in := ok_number_in T Dnumber_in rd_number_in
  have Yread_boost := ok_read_boost T Ynumber_in Dread_boost rd_read_boost
  have Yread_level := ok_read_level T Ynumber_in Dread_level rd_read_level
  have Yread_rule := ok_read_rule T Yread_boost Yread_level Dread_rule rd_read_rule
  have Ylaw_right := ok_law_right T Ylaw_due Ylaw_kind Yread_rule Dlaw_right (rd_law_right kx)
  have Ylaw_rule_lines := ok_law_rule_lines T Dlaw_rule_lines rd_law_rule_lines
  have Ylaw_spoilt_line := ok_law_spoilt_line T Ylaw_pick Dlaw_spoilt_line rd_law_spoilt_line
  have Ylaw_spoilt := ok_law_spoilt T Ylaw_pick Ylaw_spoilt_line Dlaw_spoilt rd_law_spoilt
  have Ylaw_store := ok_law_store T Dlaw_store rd_law_store
  exact ok_law T Ylaw_good Ylaw_list_right Ylaw_right Ylaw_rule_lines Ylaw_spoilt Ylaw_store Yread_rule Yshow_rule Flaw rd_law
end Lw
open PySem PySem.W PyProof.Rows
set_option maxRecDepth 100000 in
set_option maxHeartbeats 0 in
theorem PySem.Challenge.cw_blindslots_k06_rules_written_and_read_holds : PySem.Challenge.rw_blindslots_k06_rules_written_and_read.Holds := by
  w_on; o_law; k_head; (case hw => w_witness2)
  k_fill
  refine L2.walk_of (l := PySem.Challenge.rw_blindslots_k06_rules_written_and_read) (n := 63) (k := 6) (x := "script") (CX := fun w => L2.CX PySem.Challenge.rw_blindslots_k06_rules_written_and_read.prog w) (sp := fun w => DL.LSp _ DL.spLawT) rfl (by decide) rfl ⟨rfl, by decide, by decide⟩ (fun w h Y => PySem.W.kIn_of Y) ?F
    (fun w H a ns hl _ hS => DL.law_in hS fun Q E k => ⟨ns, rfl, hl, k⟩) (fun _ _ _ _ _ z => DL.CX_none z)
  case F =>
    intro w mg fa h KX G hmg
    refine' Lw.all_mk KX G hmg ?nNoJobs ?iNoJobs ?tNoJobs ?nNoLengths ?iNoLengths ?tNoLengths ?nNoLine ?iNoLine ?tNoLine ?nNoLog ?iNoLog ?tNoLog ?nNoMarks ?iNoMarks ?tNoMarks ?nNoName ?iNoName ?tNoName ?nNoNamed ?iNoNamed ?tNoNamed ?nNoNumber ?iNoNumber ?tNoNumber ?nNoOrder ?iNoOrder ?tNoOrder ?nNoRule ?iNoRule ?tNoRule ?nNoText ?iNoText ?tNoText ?nNoUndo ?iNoUndo ?tNoUndo ?nSlotError ?iSlotError ?tSlotError ?bSlotError ?hSlotError ?sr ?sg ?si ?x0NoRule ?x1NoRule ?x2NoRule ?x3NoRule ?x4NoRule ?x5NoRule ?x6NoRule ?x7NoRule ?x8NoRule ?y0NoRule ?y1NoRule ?y2NoRule ?y3NoRule ?y4NoRule ?y5NoRule ?y6NoRule ?y7NoRule ?y8NoRule ?y9NoRule ?zNoRule ?zNoRuleNoJobs ?zNoRuleNoRule ?zNoRuleNoLengths ?zNoRuleNoLog ?zNoRuleNoMarks ?zNoRuleNoNamed ?zNoRuleNoOrder ?zNoRuleNoText ?zNoRuleNoNumber ?zNoRuleNoName ?zNoRuleNoUndo ?zNoRuleNoLine ?x0NoText ?x1NoText ?x2NoText ?x3NoText ?x4NoText ?x5NoText ?x6NoText ?x7NoText ?x8NoText ?y0NoText ?y1NoText ?y2NoText ?y3NoText ?y4NoText ?y5NoText ?y6NoText ?y7NoText ?y8NoText ?y9NoText ?zNoText ?zNoTextNoJobs ?zNoTextNoRule ?zNoTextNoLengths ?zNoTextNoLog ?zNoTextNoMarks ?zNoTextNoNamed ?zNoTextNoOrder ?zNoTextNoText ?zNoTextNoNumber ?zNoTextNoName ?zNoTextNoUndo ?zNoTextNoLine ?alaw_mix ?llaw_mix ?claw_mix ?klaw_mix ?alaw_pick ?llaw_pick ?claw_pick ?klaw_pick ?alaw_good ?llaw_good ?claw_good ?klaw_good ?alaw_kind ?llaw_kind ?claw_kind ?klaw_kind ?ais_integer ?lis_integer ?cis_integer ?kis_integer ?ais_level ?lis_level ?cis_level ?kis_level ?acheck_rule ?lcheck_rule ?ccheck_rule ?kcheck_rule ?arule_lines ?lrule_lines ?crule_lines ?krule_lines ?ashow_rule ?lshow_rule ?cshow_rule ?kshow_rule ?alaw_list_right ?llaw_list_right ?claw_list_right ?klaw_list_right ?alaw_number ?llaw_number ?claw_number ?klaw_number ?alaw_words_read ?llaw_words_read ?claw_words_read ?klaw_words_read ?alaw_due ?llaw_due ?claw_due ?klaw_due ?anumber_in ?lnumber_in ?cnumber_in ?knumber_in ?aread_boost ?lread_boost ?cread_boost ?kread_boost ?aread_level ?lread_level ?cread_level ?kread_level ?aread_rule ?lread_rule ?cread_rule ?kread_rule ?alaw_right ?llaw_right ?claw_right ?klaw_right ?alaw_rule_lines ?llaw_rule_lines ?claw_rule_lines ?klaw_rule_lines ?alaw_spoilt_line ?llaw_spoilt_line ?claw_spoilt_line ?klaw_spoilt_line ?alaw_spoilt ?llaw_spoilt ?claw_spoilt ?klaw_spoilt ?alaw_store ?llaw_store ?claw_store ?klaw_store ?alaw ?llaw ?claw ?klaw ?gDIGITS ?gMOST_DIGITS ?gMOST_LEVELS ?zValueError ?zall ?zbool ?zenumerate ?zint ?zisinstance ?zlen ?zlist ?zrange ?zstr ?ztuple
    (case nNoJobs => k_is)
    (case iNoJobs => k_is)
    (case tNoJobs => k_is)
    (case nNoLengths => k_is)
    (case iNoLengths => k_is)
    (case tNoLengths => k_is)
    (case nNoLine => k_is)
    (case iNoLine => k_is)
    (case tNoLine => k_is)
    (case nNoLog => k_is)
    (case iNoLog => k_is)
    (case tNoLog => k_is)
    (case nNoMarks => k_is)
    (case iNoMarks => k_is)
    (case tNoMarks => k_is)
    (case nNoName => k_is)
    (case iNoName => k_is)
    (case tNoName => k_is)
    (case nNoNamed => k_is)
    (case iNoNamed => k_is)
    (case tNoNamed => k_is)
    (case nNoNumber => k_is)
    (case iNoNumber => k_is)
    (case tNoNumber => k_is)
    (case nNoOrder => k_is)
    (case iNoOrder => k_is)
    (case tNoOrder => k_is)
    (case nNoRule => k_is)
    (case iNoRule => k_is)
    (case tNoRule => k_is)
    (case nNoText => k_is)
    (case iNoText => k_is)
    (case tNoText => k_is)
    (case nNoUndo => k_is)
    (case iNoUndo => k_is)
    (case tNoUndo => k_is)
    (case nSlotError => k_is)
    (case iSlotError => k_is)
    (case tSlotError => k_is)
    (case bSlotError => k_is)
    (case hSlotError => k_is)
    (case sr => k_is)
    (case sg => k_is)
    (case si => k_is)
    (case x0NoRule => k_is)
    (case x1NoRule => k_is)
    (case x2NoRule => k_is)
    (case x3NoRule => k_is)
    (case x4NoRule => k_is)
    (case x5NoRule => k_is)
    (case x6NoRule => k_is)
    (case x7NoRule => k_is)
    (case x8NoRule => k_is)
    (case y0NoRule => k_is)
    (case y1NoRule => k_is)
    (case y2NoRule => k_is)
    (case y3NoRule => k_is)
    (case y4NoRule => k_is)
    (case y5NoRule => k_is)
    (case y6NoRule => k_is)
    (case y7NoRule => k_is)
    (case y8NoRule => k_is)
    (case y9NoRule => k_is)
    (case zNoRule => k_is)
    (case zNoRuleNoJobs => k_is)
    (case zNoRuleNoRule => k_is)
    (case zNoRuleNoLengths => k_is)
    (case zNoRuleNoLog => k_is)
    (case zNoRuleNoMarks => k_is)
    (case zNoRuleNoNamed => k_is)
    (case zNoRuleNoOrder => k_is)
    (case zNoRuleNoText => k_is)
    (case zNoRuleNoNumber => k_is)
    (case zNoRuleNoName => k_is)
    (case zNoRuleNoUndo => k_is)
    (case zNoRuleNoLine => k_is)
    (case x0NoText => k_is)
    (case x1NoText => k_is)
    (case x2NoText => k_is)
    (case x3NoText => k_is)
    (case x4NoText => k_is)
    (case x5NoText => k_is)
    (case x6NoText => k_is)
    (case x7NoText => k_is)
    (case x8NoText => k_is)
    (case y0NoText => k_is)
    (case y1NoText => k_is)
    (case y2NoText => k_is)
    (case y3NoText => k_is)
    (case y4NoText => k_is)
    (case y5NoText => k_is)
    (case y6NoText => k_is)
    (case y7NoText => k_is)
    (case y8NoText => k_is)
    (case y9NoText => k_is)
    (case zNoText => k_is)
    (case zNoTextNoJobs => k_is)
    (case zNoTextNoRule => k_is)
    (case zNoTextNoLengths => k_is)
    (case zNoTextNoLog => k_is)
    (case zNoTextNoMarks => k_is)
    (case zNoTextNoNamed => k_is)
    (case zNoTextNoOrder => k_is)
    (case zNoTextNoText => k_is)
    (case zNoTextNoNumber => k_is)
    (case zNoTextNoName => k_is)
    (case zNoTextNoUndo => k_is)
    (case zNoTextNoLine => k_is)
    (case alaw_mix => k_is)
    (case llaw_mix => k_is)
    (case claw_mix => k_is)
    (case klaw_mix => k_is)
    (case alaw_pick => k_is)
    (case llaw_pick => k_is)
    (case claw_pick => k_is)
    (case klaw_pick => k_is)
    (case alaw_good => k_is)
    (case llaw_good => k_is)
    (case claw_good => k_is)
    (case klaw_good => k_is)
    (case alaw_kind => k_is)
    (case llaw_kind => k_is)
    (case claw_kind => k_is)
    (case klaw_kind => k_is)
    (case ais_integer => k_is)
    (case lis_integer => k_is)
    (case cis_integer => k_is)
    (case kis_integer => k_is)
    (case ais_level => k_is)
    (case lis_level => k_is)
    (case cis_level => k_is)
    (case kis_level => k_is)
    (case acheck_rule => k_is)
    (case lcheck_rule => k_is)
    (case ccheck_rule => k_is)
    (case kcheck_rule => k_is)
    (case arule_lines => k_is)
    (case lrule_lines => k_is)
    (case crule_lines => k_is)
    (case krule_lines => k_is)
    (case ashow_rule => k_is)
    (case lshow_rule => k_is)
    (case cshow_rule => k_is)
    (case kshow_rule => k_is)
    (case alaw_list_right => k_is)
    (case llaw_list_right => k_is)
    (case claw_list_right => k_is)
    (case klaw_list_right => k_is)
    (case alaw_number => k_is)
    (case llaw_number => k_is)
    (case claw_number => k_is)
    (case klaw_number => k_is)
    (case alaw_words_read => k_is)
    (case llaw_words_read => k_is)
    (case claw_words_read => k_is)
    (case klaw_words_read => k_is)
    (case alaw_due => k_is)
    (case llaw_due => k_is)
    (case claw_due => k_is)
    (case klaw_due => k_is)
    (case anumber_in => k_is)
    (case lnumber_in => k_is)
    (case cnumber_in => k_is)
    (case knumber_in => k_is)
    (case aread_boost => k_is)
    (case lread_boost => k_is)
    (case cread_boost => k_is)
    (case kread_boost => k_is)
    (case aread_level => k_is)
    (case lread_level => k_is)
    (case cread_level => k_is)
    (case kread_level => k_is)
    (case aread_rule => k_is)
    (case lread_rule => k_is)
    (case cread_rule => k_is)
    (case kread_rule => k_is)
    (case alaw_right => k_is)
    (case llaw_right => k_is)
    (case claw_right => k_is)
    (case klaw_right => k_is)
    (case alaw_rule_lines => k_is)
    (case llaw_rule_lines => k_is)
    (case claw_rule_lines => k_is)
    (case klaw_rule_lines => k_is)
    (case alaw_spoilt_line => k_is)
    (case llaw_spoilt_line => k_is)
    (case claw_spoilt_line => k_is)
    (case klaw_spoilt_line => k_is)
    (case alaw_spoilt => k_is)
    (case llaw_spoilt => k_is)
    (case claw_spoilt => k_is)
    (case klaw_spoilt => k_is)
    (case alaw_store => k_is)
    (case llaw_store => k_is)
    (case claw_store => k_is)
    (case klaw_store => k_is)
    (case alaw => k_is)
    (case llaw => k_is)
    (case claw => k_is)
    (case klaw => k_is)
    (case gDIGITS => k_is)
    (case gMOST_DIGITS => k_is)
    (case gMOST_LEVELS => k_is)
    (case zValueError => k_is)
    (case zall => k_is)
    (case zbool => k_is)
    (case zenumerate => k_is)
    (case zint => k_is)
    (case zisinstance => k_is)
    (case zlen => k_is)
    (case zlist => k_is)
    (case zrange => k_is)
    (case zstr => k_is)
    (case ztuple => k_is)
#print axioms PySem.Challenge.cw_blindslots_k06_rules_written_and_read_holds
