import PyProof.Rows.All
import Wide.All
import OpenK.AllK
import Wide.FinOn
import HandS.ForMost
import HandS.ForSpec
import HandS.TupAny
import HandS.Deep
import HandS.IsInst
import HandS.Zip
import HandS.FStr
import HandS.Conv
import HandS.Style
import HandS.Flow
import HandS.TupLe
import HandS.TupMul
import HandS.WideBits
import HandS.Defaults
import HandS.MakeKw
import HandS.Small
import HandS.TryMany
import HandS.OwnEq
import HandS.ExcField
import HandS.RaiseMore
import HandS.TupLen
import HandS.DictTup
import HandS.DictComp
import KE.KSortTupG
import PyProof.StrLawsRepr
import PyProof.ReprLen
import HandS.SetKeys
import KE.GoesEnum
import HandS.Comp
import HandS.DictSub
import KE.KFmtOwn
import HandS.Ends
import PySem.Challenge.RW_rollbook_k01_catalogs_made
set_option Elab.async false
set_option linter.all false
set_option maxRecDepth 100000
set_option maxHeartbeats 4000000
/-! Pd: data without a heap, and what a piece of the text does to it. -/
namespace Pd
open PySem PySem.Spec PyProof.Rows L2

abbrev LIM : Nat := 15800000

def sOk (s : Str) : Bool := decide (s.length ≤ LIM) && s.cps.all (· < 0x110000)
theorem sOk_len {s : Str} (h : sOk s = true) : s.length ≤ LIM := of_decide_eq_true (Bool.and_eq_true_iff.mp h).1
/-- data -/
inductive D where
  | non | bl (b : Bool) | int (i : Int) | str (s : Str)
  | tup (ds : List D) | lst (ds : List D)
  | dic (ks : List Key) (ds : List D) | dit (ks : List (List Key)) (ds : List D)
  | set (ds : List D)
  | ins (c : Nat) (ds : List D)
  | exn (c : Nat) (ds : List D)
  | ty (n : String)
  | scr (ns : List Int)
  | cls (c : Nat)

/-- what the top has: the written part, the own classes by number, their attributes -/
structure Gc where
  K : PySem.W.Frag
  cls : Nat → Addr
  fld : Nat → List Str
  many : Nat

abbrev noH : Hp := fun _ => none
/-- a list, a tuple that nobody changes: tracked, or of the written part -/
def SL (K : PySem.W.Frag) (T : Addr → Prop) (H : Hp) (a : Addr) (xs : List V) : Prop := (¬ T a ∧ Rd H a (.lst xs)) ∨ SqL K noH a xs
def SU (K : PySem.W.Frag) (T : Addr → Prop) (H : Hp) (a : Addr) (xs : List V) : Prop := (¬ T a ∧ Rd H a (.tup xs)) ∨ SqT K noH a xs
theorem rd_no {a : Addr} {u : HO} (h : Rd noH a u) : False := by
  rcases h with h | ⟨o, h⟩ <;> cases h
theorem SL.sq {K : PySem.W.Frag} {T : Addr → Prop} {H : Hp} {a : Addr} {xs : List V} (h : SL K T H a xs) : SqL K H a xs := by
  rcases h with h | h | h
  · exact .inl h.2
  · exact (rd_no h).elim
  · exact .inr h
theorem SU.sq {K : PySem.W.Frag} {T : Addr → Prop} {H : Hp} {a : Addr} {xs : List V} (h : SU K T H a xs) : SqT K H a xs := by
  rcases h with h | h | h
  · exact .inl h.2
  · exact (rd_no h).elim
  · exact .inr h
mutual
def Rp (G : Gc) (T : Addr → Prop) (H : Hp) : D → V → Prop
  | .non, v => v = .non
  | .bl b, v => v = .bl b
  | .int i, v => v = .int i
  | .str s, v => v = .str s ∧ sOk s = true
  | .tup ds, v => ∃ a xs, v = .ref a ∧ SU G.K T H a xs ∧ ds.length ≤ LIM ∧ Rps G T H ds xs
  | .lst ds, v => ∃ a xs, v = .ref a ∧ ¬ T a ∧ H a = some (.lst xs) ∧ ds.length ≤ LIM ∧ Rps G T H ds xs
  | .dic ks ds, v => ∃ a xs, v = .ref a ∧ ¬ T a ∧ H a = some (.dK (ks.zip xs)) ∧ ks.length = ds.length ∧ ds.length ≤ LIM ∧ Rps G T H ds xs
  | .dit ks ds, v => ∃ a xs, v = .ref a ∧ ¬ T a ∧ H a = some (.dT (ks.zip xs)) ∧ ks.length = ds.length ∧ ds.length ≤ LIM ∧ Rps G T H ds xs
  | .set _, _ => False
  | .ins c ds, v => ∃ a dx xs, v = .ref a ∧ ¬ T a ∧ H a = some (.ins (G.cls c) dx ((G.fld c).zip xs)) ∧ ds.length ≤ (G.fld c).length ∧ Rps G T H ds xs
  | .exn _ _, _ => False
  | .ty n, v => v = .ty n
  | .scr ns, v => ∃ a, v = .ref a ∧ SL G.K T H a (ns.map V.int) ∧ ns.length ≤ LIM
  | .cls c, v => v = .ref (G.cls c)
def Rps (G : Gc) (T : Addr → Prop) (H : Hp) : List D → List V → Prop
  | [], xs => xs = []
  | d :: ds, xs => ∃ x r, xs = x :: r ∧ Rp G T H d x ∧ Rps G T H ds r
end

/-- a thing that may change -/
inductive O where
  | lst (ds : List D)
  | dic (ks : List Key) (ds : List D) | dit (ks : List (List Key)) (ds : List D)
  | ins (c : Nat) (ds : List D)
def O.toD : O → D
  | .lst ds => .lst ds
  | .dic ks ds => .dic ks ds
  | .dit ks ds => .dit ks ds
  | .ins c ds => .ins c ds
def OAt (G : Gc) (T : Addr → Prop) (H : Hp) (a : Addr) : O → Prop
  | .lst ds => ∃ xs, H a = some (.lst xs) ∧ ds.length ≤ LIM ∧ Rps G T H ds xs
  | .dic ks ds => ∃ xs, H a = some (.dK (ks.zip xs)) ∧ ks.length = ds.length ∧ ds.length ≤ LIM ∧ Rps G T H ds xs
  | .dit ks ds => ∃ xs, H a = some (.dT (ks.zip xs)) ∧ ks.length = ds.length ∧ ds.length ≤ LIM ∧ Rps G T H ds xs
  | .ins c ds => ∃ dx xs, H a = some (.ins (G.cls c) dx ((G.fld c).zip xs)) ∧ ds.length ≤ (G.fld c).length ∧ Rps G T H ds xs

section
variable {G : Gc} {T T' : Addr → Prop} {H H' : Hp} {p a : Addr}

theorem Rd.mono (k : ∀ o, H a = some o → H' a = some o) {u : HO} (r : Rd H a u) : Rd H' a u := by
  rcases r with r | ⟨o, r⟩
  · exact .inl (k _ r)
  · exact .inr ⟨o, k _ r⟩
theorem Rd.some {u : HO} (r : Rd H a u) : H a ≠ none := by
  rcases r with r | ⟨o, r⟩ <;> rw [r] <;> exact fun z => nomatch z

theorem SL.mono {K : PySem.W.Frag} {xs : List V} (k : ∀ b o, ¬ T b → H b = some o → H' b = some o) (t : ∀ b, T' b → T b ∨ H b = none) (h : SL K T H a xs) : SL K T' H' a xs := by
  rcases h with ⟨na, r⟩ | h
  · exact .inl ⟨fun z => (t a z).elim na (Rd.some r), Rd.mono (fun o => k a o na) r⟩
  · exact .inr h
theorem SU.mono {K : PySem.W.Frag} {xs : List V} (k : ∀ b o, ¬ T b → H b = some o → H' b = some o) (t : ∀ b, T' b → T b ∨ H b = none) (h : SU K T H a xs) : SU K T' H' a xs := by
  rcases h with ⟨na, r⟩ | h
  · exact .inl ⟨fun z => (t a z).elim na (Rd.some r), Rd.mono (fun o => k a o na) r⟩
  · exact .inr h
mutual
theorem Rp.mono (k : ∀ b o, ¬ T b → H b = some o → H' b = some o) (t : ∀ b, T' b → T b ∨ H b = none) : ∀ (d : D) (v : V), Rp G T H d v → Rp G T' H' d v
  | .non, _, h => h
  | .bl _, _, h => h
  | .int _, _, h => h
  | .str _, _, h => h
  | .tup ds, v, h => by
    unfold Rp at h ⊢
    obtain ⟨a, xs, e, r, l, hs⟩ := h
    exact ⟨a, xs, e, r.mono k t, l, Rps.mono k t ds xs hs⟩
  | .lst ds, v, h => by
    unfold Rp at h ⊢
    obtain ⟨a, xs, e, na, r, l, hs⟩ := h
    exact ⟨a, xs, e, fun z => (t a z).elim na (by rw [r]; exact fun z => nomatch z), k a _ na r, l, Rps.mono k t ds xs hs⟩
  | .dic ks ds, v, h => by
    unfold Rp at h ⊢
    obtain ⟨a, xs, e, na, r, l, l2, hs⟩ := h
    exact ⟨a, xs, e, fun z => (t a z).elim na (by rw [r]; exact fun z => nomatch z), k a _ na r, l, l2, Rps.mono k t ds xs hs⟩
  | .dit ks ds, v, h => by
    unfold Rp at h ⊢
    obtain ⟨a, xs, e, na, r, l, l2, hs⟩ := h
    exact ⟨a, xs, e, fun z => (t a z).elim na (by rw [r]; exact fun z => nomatch z), k a _ na r, l, l2, Rps.mono k t ds xs hs⟩
  | .set _, _, h => by unfold Rp at h; exact h.elim
  | .ins c ds, v, h => by
    unfold Rp at h ⊢
    obtain ⟨a, dx, xs, e, na, r, l, hs⟩ := h
    exact ⟨a, dx, xs, e, fun z => (t a z).elim na (by rw [r]; exact fun z => nomatch z), k a _ na r, l, Rps.mono k t ds xs hs⟩
  | .exn _ _, _, h => by unfold Rp at h; exact h.elim
  | .ty _, _, h => h
  | .scr ns, v, h => by
    unfold Rp at h ⊢
    obtain ⟨a, e, r, l⟩ := h
    exact ⟨a, e, r.mono k t, l⟩
  | .cls _, _, h => h
theorem Rps.mono (k : ∀ b o, ¬ T b → H b = some o → H' b = some o) (t : ∀ b, T' b → T b ∨ H b = none) : ∀ (ds : List D) (xs : List V), Rps G T H ds xs → Rps G T' H' ds xs
  | [], _, h => h
  | d :: ds, xs, h => by
    unfold Rps at h ⊢
    obtain ⟨x, r, e, hx, hr⟩ := h
    exact ⟨x, r, e, Rp.mono k t d x hx, Rps.mono k t ds r hr⟩
end
theorem OAt.mono (k : ∀ b o, ¬ T b → H b = some o → H' b = some o) (t : ∀ b, T' b → T b ∨ H b = none) (ka : H' a = H a) {o : O} (h : OAt G T H a o) : OAt G T' H' a o := by
  cases o with
  | lst ds => obtain ⟨xs, e, l, r⟩ := h; exact ⟨xs, ka.trans e, l, r.mono k t⟩
  | dic ks ds => obtain ⟨xs, e, l, l2, r⟩ := h; exact ⟨xs, ka.trans e, l, l2, r.mono k t⟩
  | dit ks ds => obtain ⟨xs, e, l, l2, r⟩ := h; exact ⟨xs, ka.trans e, l, l2, r.mono k t⟩
  | ins c ds => obtain ⟨dx, xs, e, l, r⟩ := h; exact ⟨dx, xs, ka.trans e, l, r.mono k t⟩
theorem OAt.some {o : O} (h : OAt G T H a o) : H a ≠ none := by
  cases o with
  | lst ds => obtain ⟨xs, e, _⟩ := h; rw [e]; exact fun z => nomatch z
  | dic ks ds => obtain ⟨xs, e, _⟩ := h; rw [e]; exact fun z => nomatch z
  | dit ks ds => obtain ⟨xs, e, _⟩ := h; rw [e]; exact fun z => nomatch z
  | ins c ds => obtain ⟨_, xs, e, _⟩ := h; rw [e]; exact fun z => nomatch z
theorem OAt.rp {o : O} (h : OAt G T H a o) (n : ¬ T a) : Rp G T H o.toD (.ref a) := by
  cases o with
  | lst ds => obtain ⟨xs, e, l, r⟩ := h; unfold O.toD Rp; exact ⟨a, xs, rfl, n, e, l, r⟩
  | dic ks ds => obtain ⟨xs, e, l, l2, r⟩ := h; unfold O.toD Rp; exact ⟨a, xs, rfl, n, e, l, l2, r⟩
  | dit ks ds => obtain ⟨xs, e, l, l2, r⟩ := h; unfold O.toD Rp; exact ⟨a, xs, rfl, n, e, l, l2, r⟩
  | ins c ds => obtain ⟨dx, xs, e, l, r⟩ := h; unfold O.toD Rp; exact ⟨a, dx, xs, rfl, n, e, l, r⟩
theorem Rps.length : ∀ {ds : List D} {xs : List V}, Rps G T H ds xs → ds.length = xs.length
  | [], _, h => by unfold Rps at h; rw [h]; rfl
  | d :: ds, xs, h => by
    unfold Rps at h
    obtain ⟨x, r, e, _, hr⟩ := h
    rw [e, List.length_cons, List.length_cons, Rps.length hr]
theorem Rps.get : ∀ {ds : List D} {xs : List V} {i : Nat} {d : D}, Rps G T H ds xs → ds[i]? = some d → ∃ x, xs[i]? = some x ∧ Rp G T H d x
  | [], _, _, _, _, e => by simp at e
  | d :: ds, xs, i, d', h, e => by
    unfold Rps at h
    obtain ⟨x, r, rfl, hx, hr⟩ := h
    cases i with
    | zero => simp at e; subst e; exact ⟨x, rfl, hx⟩
    | succ i => obtain ⟨y, h1, h2⟩ := Rps.get (i := i) hr (by simpa using e); exact ⟨y, by simpa using h1, h2⟩
theorem Rps.get' : ∀ {ds : List D} {xs : List V} {i : Nat} {x : V}, Rps G T H ds xs → xs[i]? = some x → ∃ d, ds[i]? = some d ∧ Rp G T H d x
  | [], _, _, _, h, e => by unfold Rps at h; subst h; simp at e
  | d :: ds, xs, i, x', h, e => by
    unfold Rps at h
    obtain ⟨x, r, rfl, hx, hr⟩ := h
    cases i with
    | zero => simp at e; subst e; exact ⟨d, rfl, hx⟩
    | succ i => obtain ⟨y, h1, h2⟩ := Rps.get' (i := i) hr (by simpa using e); exact ⟨y, by simpa using h1, h2⟩
theorem Rps.nil : Rps G T H [] [] := by unfold Rps; rfl
theorem Rps.cons {d : D} {x : V} {ds : List D} {xs : List V} (h : Rp G T H d x) (r : Rps G T H ds xs) : Rps G T H (d :: ds) (x :: xs) := by
  unfold Rps; exact ⟨x, xs, rfl, h, r⟩
theorem Rps.append : ∀ {ds es : List D} {xs ys : List V}, Rps G T H ds xs → Rps G T H es ys → Rps G T H (ds ++ es) (xs ++ ys)
  | [], _, _, _, h, q => by unfold Rps at h; subst h; exact q
  | d :: ds, es, xs, ys, h, q => by
    unfold Rps at h
    obtain ⟨x, r, rfl, hx, hr⟩ := h
    exact Rps.cons hx (Rps.append hr q)
theorem Rps.one {d : D} {x : V} (h : Rp G T H d x) : Rps G T H [d] [x] := Rps.cons h Rps.nil
theorem Rps.set {e : D} {y : V} (q : Rp G T H e y) : ∀ {ds : List D} {xs : List V} (i : Nat), Rps G T H ds xs → Rps G T H (ds.set i e) (xs.set i y)
  | [], _, _, h => by unfold Rps at h; subst h; exact Rps.nil
  | d :: ds, xs, i, h => by
    unfold Rps at h
    obtain ⟨x, r, rfl, hx, hr⟩ := h
    cases i with
    | zero => exact Rps.cons q hr
    | succ i => exact Rps.cons hx (Rps.set q i hr)
end

/-! ### the slots of a def -/
inductive Sl where
  | val (d : D) | own (o : O) | bor (o : O)
abbrev Sv := List (Option Sl)
def ownI (env : Sv) (i : Nat) : Prop := ∃ o, env[i]? = some (some (.own o))
def borI (env : Sv) (i : Nat) : Prop := ∃ o, env[i]? = some (some (.bor o))
def isC (env : Sv) (i : Nat) : Prop := ownI env i ∨ borI env i
/-- what no datum leans on: the callers' changing things and one's own -/
def TT (T0 : Addr → Prop) (env : Sv) (al : Nat → Addr) (a : Addr) : Prop := T0 a ∨ ∃ i, ownI env i ∧ al i = a

structure RepE (G : Gc) (T0 : Addr → Prop) (env : Sv) (al : Nat → Addr) (σ : L2.St) (H : Hp) : Prop where
  len : env.length = σ.length
  val : ∀ (i : Nat) (d : D), env[i]? = some (some (.val d)) → ∃ v, σ[i]? = some (some v) ∧ Rp G (TT T0 env al) H d v
  own : ∀ (i : Nat) (o : O), env[i]? = some (some (.own o)) → σ[i]? = some (some (.ref (al i))) ∧ ¬ T0 (al i) ∧ OAt G (TT T0 env al) H (al i) o
  bor : ∀ (i : Nat) (o : O), env[i]? = some (some (.bor o)) → σ[i]? = some (some (.ref (al i))) ∧ T0 (al i) ∧ OAt G (TT T0 env al) H (al i) o
  inj : ∀ i j, isC env i → isC env j → al i = al j → i = j
  t0 : ∀ a, T0 a → H a ≠ none

theorem RepE.tt {G : Gc} {T0 : Addr → Prop} {env : Sv} {al : Nat → Addr} {σ : L2.St} {H : Hp} (R : RepE G T0 env al σ H) {a : Addr} (h : TT T0 env al a) : H a ≠ none := by
  rcases h with h | ⟨i, ⟨o, h⟩, rfl⟩
  · exact R.t0 a h
  · exact (R.own i o h).2.2.some

/-- one's own slots stay or are given up -/
structure Sub (env env' : Sv) (al al' : Nat → Addr) (H : Hp) : Prop where
  len : env'.length = env.length
  own : ∀ i, ownI env' i → (ownI env i ∧ al' i = al i) ∨ H (al' i) = none
  bor : ∀ i, borI env' i → borI env i ∧ al' i = al i
  fill : ∀ (i : Nat) (s : Sl), env[i]? = some (some s) → ∃ s', env'[i]? = some (some s')
/-- how things go on -/
structure Go (T0 T0' : Addr → Prop) (env env' : Sv) (al al' : Nat → Addr) (H H' : Hp) : Prop where
  sub : Sub env env' al al' H
  keep : ∀ b o, (∀ i, isC env i → al i ≠ b) → H b = some o → H' b = some o
  dom : ∀ b, H b ≠ none → H' b ≠ none
  low : ∀ a, T0 a → T0' a
  up : ∀ a, T0' a → TT T0 env al a ∨ H a = none

section
variable {G : Gc} {T0 T1 T2 : Addr → Prop} {env env1 env2 : Sv} {al al1 al2 : Nat → Addr} {σ : L2.St} {H H1 H2 : Hp}
theorem none_of_dom (d : ∀ b, H b ≠ none → H1 b ≠ none) {b : Addr} (h : H1 b = none) : H b = none := by
  cases e : H b with
  | none => rfl
  | some o => exact absurd h (d b (by rw [e]; exact fun z => nomatch z))
theorem Go.refl : Go T0 T0 env env al al H H := ⟨⟨rfl, fun i h => .inl ⟨h, rfl⟩, fun i h => ⟨h, rfl⟩, fun _ s e => ⟨s, e⟩⟩, fun _ _ _ e => e, fun _ e => e, fun _ e => e, fun _ e => .inl (.inl e)⟩
theorem Go.isC (g : Go T0 T1 env env1 al al1 H H1) {i : Nat} (h : isC env1 i) : (Pd.isC env i ∧ al1 i = al i) ∨ H (al1 i) = none := by
  rcases h with h | h
  · exact (g.sub.own i h).elim (fun z => .inl ⟨.inl z.1, z.2⟩) .inr
  · exact .inl ⟨.inr (g.sub.bor i h).1, (g.sub.bor i h).2⟩
theorem Go.trans (a : Go T0 T1 env env1 al al1 H H1) (b : Go T1 T2 env1 env2 al1 al2 H1 H2) : Go T0 T2 env env2 al al2 H H2 where
  sub := ⟨b.sub.len.trans a.sub.len, fun i h => by
    rcases b.sub.own i h with ⟨h1, e1⟩ | h1
    · rcases a.sub.own i h1 with ⟨h2, e2⟩ | h2
      · exact .inl ⟨h2, e1.trans e2⟩
      · exact .inr (by rw [e1]; exact h2)
    · exact .inr (none_of_dom a.dom h1), fun i h => by
    obtain ⟨h1, e1⟩ := b.sub.bor i h
    obtain ⟨h2, e2⟩ := a.sub.bor i h1
    exact ⟨h2, e1.trans e2⟩, fun i s e => (a.sub.fill i s e).elim fun s' e' => b.sub.fill i s' e'⟩
  keep := fun c o hc e => b.keep c o (fun i hi => by
    rcases a.isC hi with ⟨h1, e1⟩ | h1
    · rw [e1]; exact hc i h1
    · intro z; rw [z, e] at h1; cases h1) (a.keep c o hc e)
  dom := fun c h => b.dom c (a.dom c h)
  low := fun c h => b.low c (a.low c h)
  up := fun c h => by
    rcases b.up c h with h1 | h1
    · rcases h1 with h1 | ⟨i, hi, rfl⟩
      · exact a.up c h1
      · rcases a.sub.own i hi with ⟨h2, e2⟩ | h2
        · exact .inl (.inr ⟨i, h2, e2.symm⟩)
        · exact .inr h2
    · exact .inr (none_of_dom a.dom h1)
/-- what nobody may change behind the step -/
theorem Go.tt (g : Go T0 T1 env env1 al al1 H H1) {a : Addr} (h : TT T1 env1 al1 a) : TT T0 env al a ∨ H a = none := by
  rcases h with h | ⟨i, hi, rfl⟩
  · exact g.up a h
  · rcases g.sub.own i hi with ⟨h2, e2⟩ | h2
    · exact .inl (.inr ⟨i, h2, e2.symm⟩)
    · exact .inr h2
theorem RepE.ntt (R : RepE G T0 env al σ H) {b : Addr} (h : ¬ TT T0 env al b) : ∀ i, Pd.isC env i → al i ≠ b := fun i hi z => by
  rcases hi with hi | ⟨o, hi⟩
  · exact h (.inr ⟨i, hi, z⟩)
  · exact h (.inl (z ▸ (R.bor i o hi).2.1))
theorem Go.rp (g : Go T0 T1 env env1 al al1 H H1) (R : RepE G T0 env al σ H) {d : D} {v : V} (h : Rp G (TT T0 env al) H d v) : Rp G (TT T1 env1 al1) H1 d v :=
  h.mono (fun b o hb e => g.keep b o (R.ntt hb) e) (fun b hb => g.tt hb)
theorem Go.rps (g : Go T0 T1 env env1 al al1 H H1) (R : RepE G T0 env al σ H) {d : List D} {v : List V} (h : Rps G (TT T0 env al) H d v) : Rps G (TT T1 env1 al1) H1 d v :=
  h.mono (fun b o hb e => g.keep b o (R.ntt hb) e) (fun b hb => g.tt hb)
end

/-! ### what an expression gives -/
structure Xn where
  c : Nat
  ds : List D
inductive Out where
  | val (d : D) | new (o : O) | ref (i : Nat)
abbrev Res := Option (Except Xn Out × Sv)
abbrev DEn := Sv → Res
/-- H0: the heap ahead of the evaluation -/
def OutRep (G : Gc) (H0 : Hp) (T0 : Addr → Prop) (env : Sv) (al : Nat → Addr) (σ : L2.St) (H : Hp) : Out → V → Prop
  | .val d, v => Rp G (TT T0 env al) H d v
  | .new o, v => ∃ p, v = .ref p ∧ H0 p = none ∧ T0 p ∧ (∀ i, isC env i → al i ≠ p) ∧ OAt G (TT T0 env al) H p o
  | .ref i, v => σ[i]? = some (some v) ∧ ∃ s, env[i]? = some (some s)
def XnAt (G : Gc) (T : Addr → Prop) (H : Hp) (x : Xn) (cls : Value) (d : Option Addr) : Prop :=
  cls = .ref (G.cls x.c) ∧ (x.ds = [] ∨ ∃ dd xs, d = some dd ∧ H dd = some (.xd ((G.fld x.c).zip xs)) ∧ x.ds.length ≤ (G.fld x.c).length ∧ Rps G T H x.ds xs)
abbrev W0 : WX := fun _ _ _ _ => False
def Post (G : Gc) (W : WX) (T0 : Addr → Prop) (env env' : Sv) (al : Nat → Addr) (σ : L2.St) (H : Hp) (r : Except Xn Out) (Q : VK) : Prop :=
  ∀ T1 H1, Go T0 T1 env env' al al H H1 → RepE G T1 env' al σ H1 → (match r with
    | .error x => ∀ cls d, XnAt G (TT T1 env' al) H1 x cls d → W cls d σ H1
    | .ok r => ∀ v, OutRep G H T1 env' al σ H1 r v → Q v H1)
def At (G : Gc) (W : WX) (f : DEn) (T0 : Addr → Prop) (env : Sv) (al : Nat → Addr) (σ : L2.St) (H : Hp) (Q : VK) : Prop :=
  ∃ r env', RepE G T0 env al σ H ∧ f env = some (r, env') ∧ Post G W T0 env env' al σ H r Q
def tD (G : Gc) (W : WX) (f : DEn) : TE := fun σ H Q => ∃ T0 env al, At G W f T0 env al σ H Q
def DE (G : Gc) (X : Cx) (W : WX) (e : Expr) (f : DEn) : Prop := PE X e (tD G W f)
def bindR (f : DEn) (k : Out → DEn) : DEn := fun env => match f env with
  | none => none
  | some (.error x, env1) => some (.error x, env1)
  | some (.ok r, env1) => k r env1
/-- the contents as they stand -/
def peek (r : Out) (env : Sv) : Option D := match r with
  | .val d => some d
  | .new o => some o.toD
  | .ref i => match env[i]? with
    | some (some (.val d)) => some d
    | some (some (.own o)) => some o.toD
    | some (some (.bor o)) => some o.toD
    | _ => none
/-- .. as a datum that nobody changes from now on -/
def toVal (r : Out) (env : Sv) : Option (D × Sv) := match r with
  | .val d => some (d, env)
  | .new o => some (o.toD, env)
  | .ref i => match env[i]? with
    | some (some (.val d)) => some (d, env)
    | some (some (.own o)) => some (o.toD, env.set i (some (.val o.toD)))
    | _ => none
def RepB (G : Gc) (T : Addr → Prop) (H : Hp) (d : D) (v : V) : Prop := Rp G T H d v ∨ ∃ a o, v = .ref a ∧ d = o.toD ∧ OAt G T H a o

section
variable {G : Gc} {X : Cx} {W : WX} {T0 T1 T2 : Addr → Prop} {env env1 env2 env' : Sv} {al al1 al2 : Nat → Addr} {σ : L2.St} {H0 H H1 H2 : Hp} {Q Q1 : VK} {f : DEn} {k : Out → DEn}
theorem DE.of {e : Expr} {t : TE} (h : PE X e t) (k : ∀ σ H Q, tD G W f σ H Q → t σ H Q) : DE G X W e f :=
  ⟨fun pins s σ H Q I q => h.run pins s σ H Q I (k σ H Q q)⟩
theorem OutRep.back (d : ∀ b, H0 b ≠ none → H1 b ≠ none) {r : Out} {v : V} (o : OutRep G H1 T0 env al σ H r v) : OutRep G H0 T0 env al σ H r v := by
  cases r with
  | val d => exact o
  | new o' => obtain ⟨p, e, n, z⟩ := o; exact ⟨p, e, none_of_dom d n, z⟩
  | ref i => exact o
theorem Post.after {r : Except Xn Out} (g : Go T0 T1 env env1 al al H H1) (p : Post G W T0 env env' al σ H r Q) : Post G W T1 env1 env' al σ H1 r Q := fun T2 H2 g2 R2 => by
  have q := p T2 H2 (g.trans g2) R2
  cases r with
  | error x => exact q
  | ok r => exact fun v o => q v (o.back g.dom)
theorem At.bind (h : At G W (bindR f k) T0 env al σ H Q)
    (c : ∀ T1 env1 H1 r1 v1, Go T0 T1 env env1 al al H H1 → RepE G T1 env1 al σ H1 → OutRep G H T1 env1 al σ H1 r1 v1 → At G W (k r1) T1 env1 al σ H1 Q → Q1 v1 H1) : tD G W f σ H Q1 := by
  obtain ⟨r, env', R, e, p⟩ := h
  unfold bindR at e
  cases ef : f env with
  | none => rw [ef] at e; cases e
  | some q =>
    obtain ⟨r1, env1⟩ := q
    rw [ef] at e
    refine ⟨T0, env, al, r1, env1, R, ef, fun T1 H1 g R1 => ?_⟩
    cases r1 with
    | error x =>
      simp only [Option.some.injEq, Prod.mk.injEq] at e
      obtain ⟨rfl, rfl⟩ := e
      exact p T1 H1 g R1
    | ok r1 => exact fun v1 o1 => c T1 env1 H1 r1 v1 g R1 o1 ⟨r, env', R1, e, p.after g⟩
/-- a value in flight, while something else is reckoned -/
theorem OutRep.stay (g : Go T1 T2 env1 env2 al al H1 H2) (R : RepE G T1 env1 al σ H1) (R2 : RepE G T2 env2 al σ H2) {r : Out} {v : V} (o : OutRep G H T1 env1 al σ H1 r v) : OutRep G H T2 env2 al σ H2 r v := by
  cases r with
  | val d => exact g.rp R o
  | new o' =>
    obtain ⟨p, e, n, t, c, a⟩ := o
    refine ⟨p, e, n, g.low p t, fun i hi => ?_, ?_⟩
    · rcases g.isC hi with ⟨h1, e1⟩ | h1
      · exact c i h1
      · intro z; exact a.some (z ▸ h1)
    · refine a.mono (fun b o hb e => g.keep b o (R.ntt hb) e) (fun b hb => g.tt hb) ?_
      cases q : H1 p with
      | none => exact absurd q a.some
      | some u => exact g.keep p u c q
  | ref i => exact ⟨o.1, o.2.elim fun s hs' => g.sub.fill i s hs'⟩
end
end Pd

namespace Pd
open PySem PySem.Spec PyProof.Rows L2
section
variable {G : Gc} {X : Cx} {W : WX} {T T0 T1 T2 : Addr → Prop} {env env0 env1 env2 env' : Sv} {al al1 al2 : Nat → Addr} {σ : L2.St} {H0 H H1 H2 : Hp} {Q Q1 : VK} {f : DEn} {k : Out → DEn}

theorem isC_of {i : Nat} {s : Sl} (h : env[i]? = some (some s)) : (∃ d, s = .val d) ∨ isC env i := by
  cases s with
  | val d => exact .inl ⟨d, rfl⟩
  | own o => exact .inr (.inl ⟨o, h⟩)
  | bor o => exact .inr (.inr ⟨o, h⟩)
theorem peek_ok {r : Out} {v : V} {d : D} (R : RepE G T env al σ H) (o : OutRep G H0 T env al σ H r v) (e : peek r env = some d) : RepB G (TT T env al) H d v := by
  cases r with
  | val d' => simp only [peek, Option.some.injEq] at e; subst e; exact .inl o
  | new o' =>
    simp only [peek, Option.some.injEq] at e; subst e
    obtain ⟨p, rfl, _, _, _, a⟩ := o
    exact .inr ⟨p, o', rfl, rfl, a⟩
  | ref i =>
    obtain ⟨es, s, hs⟩ := o
    simp only [peek, hs] at e
    cases s with
    | val d' =>
      simp only [Option.some.injEq] at e; subst e
      obtain ⟨v', e1, q⟩ := R.val i d' hs
      rw [es] at e1; cases e1
      exact .inl q
    | own o' =>
      simp only [Option.some.injEq] at e; subst e
      obtain ⟨e1, _, a⟩ := R.own i o' hs
      rw [es] at e1; cases e1
      exact .inr ⟨_, o', rfl, rfl, a⟩
    | bor o' =>
      simp only [Option.some.injEq] at e; subst e
      obtain ⟨e1, _, a⟩ := R.bor i o' hs
      rw [es] at e1; cases e1
      exact .inr ⟨_, o', rfl, rfl, a⟩

theorem get_set_some {i j : Nat} {s : Option Sl} {x : Option Sl} (h : (env.set i s)[j]? = some x) : (j = i ∧ x = s) ∨ (j ≠ i ∧ env[j]? = some x) := by
  by_cases e : j = i
  · subst e
    rw [List.getElem?_set] at h
    simp only [if_true] at h
    split at h
    · exact .inl ⟨rfl, (Option.some.inj h).symm⟩
    · cases h
  · rw [List.getElem?_set_ne (Ne.symm e)] at h
    exact .inr ⟨e, h⟩
/-- a slot of one's own is given up: its thing stays as it is -/
theorem RepE.freeze {i : Nat} {o : O} (R : RepE G T env al σ H) (h : env[i]? = some (some (.own o))) : RepE G T (env.set i (some (.val o.toD))) al σ H := by
  have hil : i < env.length := (List.getElem?_eq_some_iff.mp h).1
  have own' : ∀ j o', (env.set i (some (.val o.toD)))[j]? = some (some (.own o')) → j ≠ i ∧ env[j]? = some (some (.own o')) := fun j o' e => by
    rcases get_set_some e with ⟨_, z⟩ | z
    · cases z
    · exact z
  have bor' : ∀ j o', (env.set i (some (.val o.toD)))[j]? = some (some (.bor o')) → j ≠ i ∧ env[j]? = some (some (.bor o')) := fun j o' e => by
    rcases get_set_some e with ⟨_, z⟩ | z
    · cases z
    · exact z
  have isC' : ∀ j, isC (env.set i (some (.val o.toD))) j → isC env j := fun j z => by
    rcases z with ⟨o', z⟩ | ⟨o', z⟩
    · exact .inl ⟨o', (own' j o' z).2⟩
    · exact .inr ⟨o', (bor' j o' z).2⟩
  have tt : ∀ a, TT T (env.set i (some (.val o.toD))) al a → TT T env al a := fun a z => by
    rcases z with z | ⟨j, ⟨o', z⟩, e⟩
    · exact .inl z
    · exact .inr ⟨j, ⟨o', (own' j o' z).2⟩, e⟩
  refine ⟨by rw [List.length_set]; exact R.len, fun j d e => ?_, fun j o' e => ?_, fun j o' e => ?_, fun a b ha hb e => R.inj a b (isC' a ha) (isC' b hb) e, R.t0⟩
  · rcases get_set_some e with ⟨rfl, z⟩ | ⟨_, z⟩
    · cases z
      obtain ⟨e1, n, a⟩ := R.own j o h
      refine ⟨_, e1, (a.mono (T' := TT T (env.set j (some (.val o.toD))) al) (fun _ _ _ e => e) (fun b hb => .inl (tt b hb)) rfl).rp ?_⟩
      rintro (z | ⟨m, ⟨o', z⟩, e⟩)
      · exact n z
      · obtain ⟨hm, hz⟩ := own' m o' z
        exact hm (R.inj m j (.inl ⟨o', hz⟩) (.inl ⟨o, h⟩) e)
    · obtain ⟨v, e1, q⟩ := R.val j d z
      exact ⟨v, e1, q.mono (fun _ _ _ e => e) (fun b hb => .inl (tt b hb))⟩
  · obtain ⟨e1, n, a⟩ := R.own j o' (own' j o' e).2
    exact ⟨e1, n, a.mono (fun _ _ _ e => e) (fun b hb => .inl (tt b hb)) rfl⟩
  · obtain ⟨e1, n, a⟩ := R.bor j o' (bor' j o' e).2
    exact ⟨e1, n, a.mono (fun _ _ _ e => e) (fun b hb => .inl (tt b hb)) rfl⟩
theorem Sub.freeze {i : Nat} {o : O} (h : env[i]? = some (some (.own o))) : Sub env (env.set i (some (.val o.toD))) al al H := by
  have hil : i < env.length := (List.getElem?_eq_some_iff.mp h).1
  refine ⟨List.length_set, fun j hj => ?_, fun j hj => ?_, fun j s e => ?_⟩
  · obtain ⟨o', z⟩ := hj
    rcases get_set_some z with ⟨_, z⟩ | ⟨_, z⟩
    · cases z
    · exact .inl ⟨⟨o', z⟩, rfl⟩
  · obtain ⟨o', z⟩ := hj
    rcases get_set_some z with ⟨_, z⟩ | ⟨_, z⟩
    · cases z
    · exact ⟨⟨o', z⟩, rfl⟩
  · by_cases e2 : j = i
    · subst e2; exact ⟨_, List.getElem?_set_self hil⟩
    · exact ⟨s, by rw [List.getElem?_set_ne (Ne.symm e2)]; exact e⟩
theorem Sub.refl : Sub env env al al H := ⟨rfl, fun _ h => .inl ⟨h, rfl⟩, fun _ h => ⟨h, rfl⟩, fun _ s e => ⟨s, e⟩⟩
/-- fewer things that may change -/
theorem RepE.fewer (R : RepE G T env al σ H) (t : ∀ a, T1 a → T a) (b : ∀ i, borI env i → T1 (al i)) : RepE G T1 env al σ H := by
  have tt : ∀ a, TT T1 env al a → TT T env al a := fun a z => z.elim (fun z => .inl (t a z)) .inr
  refine ⟨R.len, fun j d e => ?_, fun j o' e => ?_, fun j o' e => ?_, R.inj, fun a z => R.t0 a (t a z)⟩
  · obtain ⟨v, e1, q⟩ := R.val j d e
    exact ⟨v, e1, q.mono (fun _ _ _ e => e) (fun b hb => .inl (tt b hb))⟩
  · obtain ⟨e1, n, a⟩ := R.own j o' e
    exact ⟨e1, fun z => n (t _ z), a.mono (fun _ _ _ e => e) (fun b hb => .inl (tt b hb)) rfl⟩
  · obtain ⟨e1, n, a⟩ := R.bor j o' e
    exact ⟨e1, b j ⟨o', e⟩, a.mono (fun _ _ _ e => e) (fun b hb => .inl (tt b hb)) rfl⟩
/-- a value taken as a datum -/
theorem toVal_ok {r : Out} {v : V} {d : D} (g : Go T0 T env0 env al al H0 H) (R0 : RepE G T0 env0 al σ H0) (R : RepE G T env al σ H) (o : OutRep G H0 T env al σ H r v) (e : toVal r env = some (d, env')) :
    ∃ T', Go T0 T' env0 env' al al H0 H ∧ RepE G T' env' al σ H ∧ Rp G (TT T' env' al) H d v ∧ (∀ a, TT T' env' al a → TT T env al a) := by
  cases r with
  | val d' =>
    simp only [toVal, Option.some.injEq, Prod.mk.injEq] at e
    obtain ⟨rfl, rfl⟩ := e
    exact ⟨T, g, R, o, fun _ z => z⟩
  | new o' =>
    simp only [toVal, Option.some.injEq, Prod.mk.injEq] at e
    obtain ⟨rfl, rfl⟩ := e
    obtain ⟨p, rfl, n, t, c, a⟩ := o
    have np : ∀ a, T0 a → a ≠ p := fun a z q => R0.t0 a z (q ▸ n)
    have tt : ∀ a, TT (fun a => T a ∧ a ≠ p) env al a → TT T env al a := fun a z => z.elim (fun z => .inl z.1) .inr
    refine ⟨fun a => T a ∧ a ≠ p, ⟨g.sub, g.keep, g.dom, fun a z => ⟨g.low a z, np a z⟩, fun a z => g.up a z.1⟩, R.fewer (fun a z => z.1) (fun i hi => ?_), ?_, tt⟩
    · obtain ⟨h1, e1⟩ := g.sub.bor i hi
      obtain ⟨o2, h2⟩ := h1
      exact ⟨g.low _ (R0.bor i o2 h2).2.1, np _ (R0.bor i o2 h2).2.1⟩
    · refine (a.mono (fun _ _ _ e => e) (fun b hb => .inl (tt b hb)) rfl).rp ?_
      rintro (z | ⟨i, hi, e⟩)
      · exact z.2 rfl
      · exact c i (.inl hi) e
  | ref i =>
    obtain ⟨es, s, hs⟩ := o
    simp only [toVal, hs] at e
    cases s with
    | val d' =>
      simp only [Option.some.injEq, Prod.mk.injEq] at e
      obtain ⟨rfl, rfl⟩ := e
      obtain ⟨v', e1, q⟩ := R.val i d' hs
      rw [es] at e1; cases e1
      exact ⟨T, g, R, q, fun _ z => z⟩
    | own o' =>
      simp only [Option.some.injEq, Prod.mk.injEq] at e
      obtain ⟨rfl, rfl⟩ := e
      have R' := R.freeze hs
      have hil : i < env.length := (List.getElem?_eq_some_iff.mp hs).1
      obtain ⟨v', e1, q⟩ := R'.val i o'.toD (List.getElem?_set_self hil)
      rw [es] at e1; cases e1
      have tt : ∀ a, TT T (env.set i (some (.val o'.toD))) al a → TT T env al a := fun a z => by
        rcases z with z | ⟨j, ⟨o2, z⟩, e⟩
        · exact .inl z
        · rcases get_set_some z with ⟨_, z⟩ | ⟨_, z⟩
          · cases z
          · exact .inr ⟨j, ⟨o2, z⟩, e⟩
      refine ⟨T, g.trans ⟨Sub.freeze hs, fun _ _ _ e => e, fun _ e => e, fun _ e => e, fun _ e => .inl (.inl e)⟩, R', q, tt⟩
    | bor o' => cases e
def bindV (f : DEn) (k : D → DEn) : DEn := fun env => match f env with
  | none => none
  | some (.error x, env1) => some (.error x, env1)
  | some (.ok r, env1) => match toVal r env1 with
    | none => none
    | some (d, env2) => k d env2
def peeked (f : DEn) (k : D → DEn) : DEn := bindR f fun r env => match peek r env with
  | some d => k d env
  | none => none
theorem At.bindV {k : D → DEn} (h : At G W (Pd.bindV f k) T0 env al σ H Q)
    (c : ∀ T1 env1 H1 d1 v1, Go T0 T1 env env1 al al H H1 → RepE G T1 env1 al σ H1 → Rp G (TT T1 env1 al) H1 d1 v1 → At G W (k d1) T1 env1 al σ H1 Q → Q1 v1 H1) : tD G W f σ H Q1 := by
  obtain ⟨r, env', R, e, p⟩ := h
  unfold Pd.bindV at e
  cases ef : f env with
  | none => rw [ef] at e; cases e
  | some q =>
    obtain ⟨r1, env1⟩ := q
    rw [ef] at e
    refine ⟨T0, env, al, r1, env1, R, ef, fun T1 H1 g R1 => ?_⟩
    cases r1 with
    | error x =>
      simp only [Option.some.injEq, Prod.mk.injEq] at e
      obtain ⟨rfl, rfl⟩ := e
      exact p T1 H1 g R1
    | ok r1 =>
      intro v1 o1
      cases et : toVal r1 env1 with
      | none => simp only [et] at e; cases e
      | some q =>
        obtain ⟨d, env2⟩ := q
        simp only [et] at e
        obtain ⟨T', g', R', rp, _⟩ := toVal_ok g R R1 o1 et
        exact c T' env2 H1 d v1 g' R' rp ⟨r, env', R', e, p.after g'⟩
theorem At.peeked {k : D → DEn} (h : At G W (Pd.peeked f k) T0 env al σ H Q)
    (c : ∀ T1 env1 H1 d1 v1, Go T0 T1 env env1 al al H H1 → RepE G T1 env1 al σ H1 → RepB G (TT T1 env1 al) H1 d1 v1 → At G W (k d1) T1 env1 al σ H1 Q → Q1 v1 H1) : tD G W f σ H Q1 :=
  At.bind h fun T1 env1 H1 r1 v1 g R1 o1 A => by
    obtain ⟨r, env', _, e, p⟩ := A
    cases et : peek r1 env1 with
    | none => simp only [et] at e; cases e
    | some d =>
      simp only [et] at e
      exact c T1 env1 H1 d v1 g R1 (peek_ok R1 o1 et) ⟨r, env', R1, e, p⟩

/-! ### what a built-in thing does to data -/
def PP (G : Gc) (T : Addr → Prop) (H : Hp) (o : Out) (Q : VK) : Prop := match o with
  | .val d => ∀ v H', Same H H' → Rp G T H' d v → Q v H'
  | .new o => ∀ p H', Same H H' → H p = none → OAt G (fun a => T a ∨ a = p) H' p o → Q (.ref p) H'
  | .ref _ => False
theorem same_dom (s : Same H H1) {b : Addr} (h : H b ≠ none) : H1 b ≠ none := by
  cases e : H b with
  | none => exact absurd e h
  | some o => rw [s b o e]; exact fun z => nomatch z
theorem RepE.same (R : RepE G T env al σ H) (s : Same H H1) : RepE G T env al σ H1 := by
  have k : ∀ b o, ¬ TT T env al b → H b = some o → H1 b = some o := fun b o _ e => s b o e
  refine ⟨R.len, fun j d e => ?_, fun j o' e => ?_, fun j o' e => ?_, R.inj, fun a z => same_dom s (R.t0 a z)⟩
  · obtain ⟨v, e1, q⟩ := R.val j d e
    exact ⟨v, e1, q.mono k (fun _ z => .inl z)⟩
  · obtain ⟨e1, n, a⟩ := R.own j o' e
    refine ⟨e1, n, a.mono k (fun _ z => .inl z) ?_⟩
    cases q : H (al j) with
    | none => exact absurd q a.some
    | some u => exact s _ u q
  · obtain ⟨e1, n, a⟩ := R.bor j o' e
    refine ⟨e1, n, a.mono k (fun _ z => .inl z) ?_⟩
    cases q : H (al j) with
    | none => exact absurd q a.some
    | some u => exact s _ u q
theorem Go.same (s : Same H H1) : Go T T env env al al H H1 := ⟨Sub.refl, fun b o _ e => s b o e, fun _ h => same_dom s h, fun _ z => z, fun _ z => .inl (.inl z)⟩
/-- one more thing that may change: a new one -/
theorem RepE.plus {p : Addr} (R : RepE G T env al σ H) (n : H p = none) (s : Same H H1) (np : H1 p ≠ none) : RepE G (fun a => T a ∨ a = p) env al σ H1 := by
  have k : ∀ b o, ¬ TT T env al b → H b = some o → H1 b = some o := fun b o _ e => s b o e
  have tt : ∀ a, TT (fun a => T a ∨ a = p) env al a → TT T env al a ∨ H a = none := fun a z => by
    rcases z with (z | z) | z
    · exact .inl (.inl z)
    · exact .inr (z ▸ n)
    · exact .inl (.inr z)
  refine ⟨R.len, fun j d e => ?_, fun j o' e => ?_, fun j o' e => ?_, R.inj, fun a z => ?_⟩
  · obtain ⟨v, e1, q⟩ := R.val j d e
    exact ⟨v, e1, q.mono k tt⟩
  · obtain ⟨e1, n', a⟩ := R.own j o' e
    refine ⟨e1, fun z => z.elim n' fun z => a.some (z ▸ n), a.mono k tt ?_⟩
    cases q : H (al j) with
    | none => exact absurd q a.some
    | some u => exact s _ u q
  · obtain ⟨e1, n', a⟩ := R.bor j o' e
    refine ⟨e1, .inl n', a.mono k tt ?_⟩
    cases q : H (al j) with
    | none => exact absurd q a.some
    | some u => exact s _ u q
  · rcases z with z | z
    · exact same_dom s (R.t0 a z)
    · exact z ▸ np
theorem Post.prim {o : Out} (R : RepE G T env al σ H) (p : Post G W T env env al σ H (.ok o) Q) (n : ∀ i, o ≠ .ref i) : PP G (TT T env al) H o Q := by
  cases o with
  | val d => exact fun v H' s rp => p T H' (Go.same s) (R.same s) v rp
  | new o' =>
    intro q H' s hq a
    have nq : ∀ i, isC env i → al i ≠ q := fun i hi z => by
      rcases hi with ⟨o2, hi⟩ | ⟨o2, hi⟩
      · exact (R.own i o2 hi).2.2.some (z ▸ hq)
      · exact (R.bor i o2 hi).2.2.some (z ▸ hq)
    refine p (fun a => T a ∨ a = q) H' ⟨Sub.refl, fun b o _ e => s b o e, fun _ h => same_dom s h, fun _ z => .inl z, fun a z => z.elim (fun z => .inl (.inl z)) fun z => .inr (z ▸ hq)⟩ (R.plus hq s a.some) _ ⟨q, rfl, hq, .inr rfl, nq, a.mono (fun _ _ _ e => e) (fun b z => .inl ?_) rfl⟩
    rcases z with (z | z) | z
    · exact .inl (.inl z)
    · exact .inr z
    · exact .inl (.inr z)
  | ref i => exact absurd rfl (n i)
def isPrim : Out → Bool
  | .ref _ => false
  | _ => true
/-- the end of an evaluation by a built-in thing -/
def done (o : Option Out) : DEn := fun env => match o with
  | some (.val d) => some (.ok (.val d), env)
  | some (.new o) => some (.ok (.new o), env)
  | _ => none
theorem At.done {o : Option Out} (A : At G W (Pd.done o) T env al σ H Q) : ∃ u, o = some u ∧ PP G (TT T env al) H u Q := by
  obtain ⟨r, env', R, e, p⟩ := A
  unfold Pd.done at e
  cases o with
  | none => cases e
  | some u =>
    cases u with
    | val d =>
      simp only [Option.some.injEq, Prod.mk.injEq] at e
      obtain ⟨rfl, rfl⟩ := e
      exact ⟨_, rfl, p.prim R fun _ z => nomatch z⟩
    | new d =>
      simp only [Option.some.injEq, Prod.mk.injEq] at e
      obtain ⟨rfl, rfl⟩ := e
      exact ⟨_, rfl, p.prim R fun _ z => nomatch z⟩
    | ref i => cases e
/-- a two-place thing, by data -/
def R2ok (G : Gc) (r : R2) (g : D → D → Option Out) : Prop := ∀ T H v1 v2 d1 d2 o, (∀ a, T a → H a ≠ none) → RepB G T H d1 v1 → RepB G T H d2 v2 → g d1 d2 = some o → ∀ Q, PP G T H o Q → r v1 v2 H Q
def R1ok (G : Gc) (r : V → Hp → VK → Prop) (g : D → Option Out) : Prop := ∀ T H v1 d1 o, (∀ a, T a → H a ≠ none) → RepB G T H d1 v1 → g d1 = some o → ∀ Q, PP G T H o Q → r v1 H Q
def cOp2 (g : D → D → Option Out) (f h : DEn) : DEn := bindR f fun r1 => bindR h fun r2 env => match peek r1 env, peek r2 env with
  | some d1, some d2 => Pd.done (g d1 d2) env
  | _, _ => none
def cOp1 (g : D → Option Out) (f : DEn) : DEn := Pd.peeked f fun d => Pd.done (g d)
theorem op2_core {r : R2} {g : D → D → Option Out} (hg : R2ok G r g) {ta tb : TE} {h : DEn} (ha : ∀ σ H Q, tD G W f σ H Q → ta σ H Q) (hb : ∀ σ H Q, tD G W h σ H Q → tb σ H Q) : ∀ σ H Q, tD G W (cOp2 g f h) σ H Q → tOp r ta tb σ H Q :=
  fun σ H Q ⟨T0, env, al, A⟩ => ha _ _ _ <| At.bind A fun T1 env1 H1 r1 v1 g1 R1 o1 A1 => hb _ _ _ <| At.bind A1 fun T2 env2 H2 r2 v2 g2 R2 o2 A2 => by
    have o1' := o1.stay g2 R1 R2
    obtain ⟨rr, env', _, e, p⟩ := A2
    cases e1 : peek r1 env2 with
    | none => simp only [e1] at e; cases e
    | some d1 =>
      cases e2 : peek r2 env2 with
      | none => simp only [e1, e2] at e; cases e
      | some d2 =>
        simp only [e1, e2] at e
        obtain ⟨u, eu, pp⟩ := At.done (o := g d1 d2) ⟨rr, env', R2, e, p⟩
        exact hg _ _ _ _ _ _ _ (fun a z => R2.tt z) (peek_ok R2 o1' e1) (peek_ok R2 o2 e2) eu _ pp
end
end Pd

namespace Pd
open PySem PySem.Spec PyProof.Rows L2
section
variable {G : Gc} {X : Cx} {W : WX} {T T0 T1 T2 : Addr → Prop} {env env0 env1 env2 env' : Sv} {al al1 al2 : Nat → Addr} {σ : L2.St} {H0 H H1 H2 : Hp} {Q Q1 : VK} {f h : DEn} {k : Out → DEn} {pos : Pos} {e e1 e2 e3 : Expr}
theorem Same.refl' : Same H H := fun _ _ e => e
theorem At.same (A : At G W f T env al σ H Q) (s : Same H H1) : At G W f T env al σ H1 Q := by
  obtain ⟨r, env', R, e, p⟩ := A
  exact ⟨r, env', R.same s, e, p.after (Go.same s)⟩
theorem At.done' {u : Out} (R : RepE G T env al σ H) (q : PP G (TT T env al) H u Q) : True := trivial

/-! ### constants, names -/
def cC (d : D) : DEn := fun env => some (.ok (.val d), env)
theorem de_tC {v : V} {d : D} (he : PE X e (tC v)) (hd : ∀ T H, Rp G T H d v) : DE G X W e (cC d) := DE.of he fun σ H Q ⟨T0, env, al, r, env', R, e, p⟩ => by
  simp only [cC, Option.some.injEq, Prod.mk.injEq] at e
  obtain ⟨rfl, rfl⟩ := e
  exact p T0 H Go.refl R v (hd _ _)
theorem de_int {i j p} : DE G X W (.Constant (.int i) j p) (cC (.int i)) := de_tC pe_int fun _ _ => rfl
theorem de_bl {b j p} : DE G X W (.Constant (.bool b) j p) (cC (.bl b)) := de_tC pe_bl fun _ _ => rfl
theorem de_non {j p} : DE G X W (.Constant .none j p) (cC .non) := de_tC pe_non fun _ _ => rfl
theorem de_str {s : Str} {j p} (hl : sOk s = true := by decide +kernel) : DE G X W (.Constant (.str s) j p) (cC (.str s)) := de_tC pe_str fun _ _ => ⟨rfl, hl⟩
theorem de_globI {x : Str} {i : Int} {t : Tok} {p : Pos} (hg : Gl X x) (hm : X.mg x = some (.int i t)) (hd : (x == ("__debug__" : Str)) = false := by decide) : DE G X W (.Name x p) (cC (.int i)) :=
  de_tC (pe_glob hg hm (v := .int i) ⟨t, rfl⟩ hd) fun _ _ => rfl
theorem de_globS {x : Str} {s : Str} {t : Tok} {p : Pos} (hg : Gl X x) (hm : X.mg x = some (.str s t)) (hl : sOk s = true := by decide +kernel) (hd : (x == ("__debug__" : Str)) = false := by decide) : DE G X W (.Name x p) (cC (.str s)) :=
  de_tC (pe_glob hg hm (v := .str s) ⟨t, rfl⟩ hd) fun _ _ => ⟨rfl, hl⟩
def cVar (i : Nat) : DEn := fun env => match env[i]? with
  | some (some (.val d)) => some (.ok (.val d), env)
  | some (some _) => some (.ok (.ref i), env)
  | _ => none
theorem de_var' {x : Str} {p : Pos} (i : Nat) (he : PE X (.Name x p) (tVar i)) : DE G X W (.Name x p) (cVar i) := DE.of he fun σ H Q ⟨T0, env, al, r, env', R, e, p⟩ => by
  unfold cVar at e
  cases es : env[i]? with
  | none => rw [es] at e; cases e
  | some s =>
    rw [es] at e
    cases s with
    | none => cases e
    | some s =>
      cases s with
      | val d =>
        simp only [Option.some.injEq, Prod.mk.injEq] at e
        obtain ⟨rfl, rfl⟩ := e
        obtain ⟨v, e1, q⟩ := R.val i d es
        exact ⟨v, e1, p T0 H Go.refl R v q⟩
      | own o =>
        simp only [Option.some.injEq, Prod.mk.injEq] at e
        obtain ⟨rfl, rfl⟩ := e
        exact ⟨_, (R.own i o es).1, p T0 H Go.refl R _ ⟨(R.own i o es).1, _, es⟩⟩
      | bor o =>
        simp only [Option.some.injEq, Prod.mk.injEq] at e
        obtain ⟨rfl, rfl⟩ := e
        exact ⟨_, (R.bor i o es).1, p T0 H Go.refl R _ ⟨(R.bor i o es).1, _, es⟩⟩
theorem dv (i : Nat) {x : Str} {pos : Pos} (hN : X.N[i]? = some x := by rfl) (hv : Vis X.env.scope x := by first | exact Or.inl rfl | exact Or.inr (Or.inl rfl) | exact Or.inr (Or.inr rfl)) (hd : (x == ("__debug__" : Str)) = false := by decide)
    (hcd : (x == ("__classdict__" : Str)) = false := by decide) : DE G X W (.Name x pos) (cVar i) := de_var' i (pe_var hN hv hd hcd)

/-! ### operators -/
theorem de_op2 {op : Operator} {r : R2} {g : D → D → Option Out} (ho : OpR X (binaryOp op) r) (hg : R2ok G r g) (ha : DE G X W e1 f) (hb : DE G X W e2 h) : DE G X W (.BinOp e1 op e2 pos) (cOp2 g f h) :=
  DE.of (pe_op ho ha hb) (op2_core hg (fun _ _ _ q => q) (fun _ _ _ q => q))
theorem de_cmp {op : CmpOp} {r : R2} {g : D → D → Option Out} (ho : OpR X (compareOp op) r) (hg : R2ok G r g) (ha : DE G X W e1 f) (hb : DE G X W e2 h) (hm : behindInMarks op e2 = false := by first | exact nomark _ | rfl) : DE G X W (.Compare e1 [op] [e2] pos) (cOp2 g f h) :=
  DE.of (pe_cmpR ho ha hb hm) (op2_core hg (fun _ _ _ q => q) (fun _ _ _ q => q))
theorem de_ix {r : R2} {g : D → D → Option Out} (ho : IxR X r) (hg : R2ok G r g) (ha : DE G X W e1 f) (hb : DE G X W e2 h) (hs : PlainIx e2 := by exact fun _ _ => rfl) : DE G X W (.Subscript e1 e2 pos) (cOp2 g f h) :=
  DE.of (pe_ix ho ha hb hs) (op2_core hg (fun _ _ _ q => q) (fun _ _ _ q => q))
theorem op1_core {r : V → Hp → VK → Prop} {g : D → Option Out} (hg : R1ok G r g) {ta : TE} (ha : ∀ σ H Q, tD G W f σ H Q → ta σ H Q) : ∀ σ H Q, tD G W (cOp1 g f) σ H Q → (ta σ H fun x H1 => r x H1 Q) :=
  fun σ H Q ⟨T0, env, al, A⟩ => ha _ _ _ <| At.peeked A fun T1 env1 H1 d1 v1 g1 R1 o1 A1 => by
    obtain ⟨u, eu, pp⟩ := A1.done
    exact hg _ _ _ _ _ (fun a z => R1.tt z) o1 eu _ pp
theorem de_un {op : UnaryOp} {r : V → Hp → VK → Prop} {g : D → Option Out} (ho : UnR X (unaryOp op) r) (hg : R1ok G r g) (ha : DE G X W e1 f) : DE G X W (.UnaryOp op e1 pos) (cOp1 g f) :=
  DE.of (pe_un ho ha) (op1_core hg fun _ _ _ q => q)

/-! ### tests -/
def tT (G : Gc) (W : WX) (f : DEn) : L2.TT := fun σ H Q => tD G W f σ H fun v H1 => ∃ b, v = .bl b ∧ Q b H1
def DT (G : Gc) (X : Cx) (W : WX) (e : Expr) (f : DEn) : Prop := PT X e (tT G W f)
theorem DT.of {t : L2.TT} (h : PT X e t) (k : ∀ σ H Q, tT G W f σ H Q → t σ H Q) : DT G X W e f :=
  ⟨fun pins s σ H Q I q => h.run pins s σ H Q I (k σ H Q q)⟩
theorem dt_val (he : DE G X W e f) (hw : ∀ whole, isTrue e X.env whole = (do let v ← whole; standAt e.pos; holding [v] (truthy v)) := by intro _; rfl) : DT G X W e f :=
  DT.of (pt_val he hw) fun σ H Q q => q
theorem dt_cmp {op : CmpOp} {r : R2} {g : D → D → Option Out} (ho : OpR X (compareOp op) r) (hg : R2ok G r g) (ha : DE G X W e1 f) (hb : DE G X W e2 h) (hm : behindInMarks op e2 = false := by first | exact nomark _ | rfl) : DT G X W (.Compare e1 [op] [e2] pos) (cOp2 g f h) :=
  DT.of (pt_cmpR ho ha hb hm) fun σ H Q q => op2_core hg (fun _ _ _ q => q) (fun _ _ _ q => q) σ H _ q
def truth : D → Option Bool
  | .non => some false
  | .bl b => some b
  | .int i => some (i != 0)
  | .str s => some ((s.length : Int) != 0)
  | .tup ds => some (!ds.isEmpty)
  | .lst ds => some (!ds.isEmpty)
  | .dic ks _ => some (!ks.isEmpty)
  | _ => none
theorem lim_line {n : Nat} (h : n ≤ LIM) : n ≤ sizeLine := Nat.le_trans h (by rw [sizeLine_eq]; decide)
theorem lim_line' {n : Nat} (h : n ≤ LIM) : n < sizeLine := Nat.lt_of_le_of_lt h (by rw [sizeLine_eq]; decide)
theorem isEmpty_of_len {α β : Type} {a : List α} {b : List β} (h : a.length = b.length) : a.isEmpty = b.isEmpty := by
  cases a <;> cases b <;> simp at h ⊢
theorem RepB.seqL {ds : List D} {v : V} (h : RepB G T H (.lst ds) v) : ∃ a xs, v = .ref a ∧ H a = some (.lst xs) ∧ ds.length ≤ LIM ∧ Rps G T H ds xs := by
  rcases h with h | ⟨a, o, rfl, e, h⟩
  · unfold Rp at h
    obtain ⟨a, xs, e, _, r, l, q⟩ := h
    exact ⟨a, xs, e, r, l, q⟩
  · cases o with
    | lst ds' =>
      cases e
      obtain ⟨xs, e, l, q⟩ := h
      exact ⟨a, xs, rfl, e, l, q⟩
    | _ => cases e
theorem RepB.rp {d : D} {v : V} (h : RepB G T H d v) (n : ∀ o : O, d ≠ o.toD) : Rp G T H d v := by
  rcases h with h | ⟨a, o, _, e, _⟩
  · exact h
  · exact absurd e (n o)
theorem RepB.int {i : Int} {v : V} (h : RepB G T H (.int i) v) : v = .int i := h.rp fun o => by cases o <;> exact fun z => nomatch z
theorem RepB.bl {i : Bool} {v : V} (h : RepB G T H (.bl i) v) : v = .bl i := h.rp fun o => by cases o <;> exact fun z => nomatch z
theorem RepB.non {v : V} (h : RepB G T H .non v) : v = .non := h.rp fun o => by cases o <;> exact fun z => nomatch z
theorem RepB.str {s : Str} {v : V} (h : RepB G T H (.str s) v) : v = .str s ∧ sOk s = true := h.rp fun o => by cases o <;> exact fun z => nomatch z
theorem RepB.tup {ds : List D} {v : V} (h : RepB G T H (.tup ds) v) : ∃ a xs, v = .ref a ∧ SU G.K T H a xs ∧ ds.length ≤ LIM ∧ Rps G T H ds xs := by
  have := h.rp fun o => by cases o <;> exact fun z => nomatch z
  unfold Rp at this
  exact this
theorem RepB.scr {ns : List Int} {v : V} (h : RepB G T H (.scr ns) v) : ∃ a, v = .ref a ∧ SL G.K T H a (ns.map V.int) ∧ ns.length ≤ LIM := by
  have := h.rp fun o => by cases o <;> exact fun z => nomatch z
  unfold Rp at this
  exact this
theorem RepB.dic {ks : List Key} {ds : List D} {v : V} (h : RepB G T H (.dic ks ds) v) : ∃ a xs, v = .ref a ∧ H a = some (.dK (ks.zip xs)) ∧ ks.length = ds.length ∧ ds.length ≤ LIM ∧ Rps G T H ds xs := by
  rcases h with h | ⟨a, o, rfl, e, h⟩
  · unfold Rp at h
    obtain ⟨a, xs, e, _, r, l, q⟩ := h
    exact ⟨a, xs, e, r, l, q⟩
  · cases o with
    | dic ks' ds' =>
      cases e
      obtain ⟨xs, e, q⟩ := h
      exact ⟨a, xs, rfl, e, q⟩
    | _ => cases e
theorem RepB.ins {c : Nat} {ds : List D} {v : V} (h : RepB G T H (.ins c ds) v) : ∃ a dx xs, v = .ref a ∧ H a = some (.ins (G.cls c) dx ((G.fld c).zip xs)) ∧ ds.length ≤ (G.fld c).length ∧ Rps G T H ds xs := by
  rcases h with h | ⟨a, o, rfl, e, h⟩
  · unfold Rp at h
    obtain ⟨a, dx, xs, e, _, r⟩ := h
    exact ⟨a, dx, xs, e, r⟩
  · cases o with
    | ins c' ds' =>
      cases e
      obtain ⟨dx, xs, e, q⟩ := h
      exact ⟨a, dx, xs, rfl, e, q⟩
    | _ => cases e
theorem truth_ok {d : D} {v : V} {b : Bool} (h : RepB G T H d v) (e : truth d = some b) : TruV G.K v H b := by
  cases d with
  | non => cases h.non; simp only [truth, Option.some.injEq] at e; exact e.symm
  | bl i => cases h.bl; simp only [truth, Option.some.injEq] at e; exact e.symm
  | int i => cases h.int; simp only [truth, Option.some.injEq] at e; exact e.symm
  | str s => obtain ⟨rfl, l⟩ := h.str; simp only [truth, Option.some.injEq] at e; exact ⟨lim_line (sOk_len l), e.symm⟩
  | tup ds =>
    obtain ⟨a, xs, rfl, r, _, q⟩ := h.tup
    simp only [truth, Option.some.injEq] at e
    exact .inr (.inl ⟨xs, r.sq, by rw [← isEmpty_of_len q.length]; exact e.symm⟩)
  | lst ds =>
    obtain ⟨a, xs, rfl, r, _, q⟩ := h.seqL
    simp only [truth, Option.some.injEq] at e
    exact .inl ⟨xs, SqL.of r, by rw [← isEmpty_of_len q.length]; exact e.symm⟩
  | dic ks ds =>
    obtain ⟨a, xs, rfl, r, l, _, q⟩ := h.dic
    simp only [truth, Option.some.injEq] at e
    refine .inr (.inr ⟨_, r, ?_⟩)
    rw [← isEmpty_of_len (a := ks) (b := ks.zip xs) (by rw [List.length_zip, ← q.length, l, Nat.min_self])]
    exact e.symm
  | _ => cases e
def cTruth (f : DEn) : DEn := Pd.peeked f fun d => Pd.done ((truth d).map fun b => .val (.bl b))
theorem dt_truth (hK : X.K = G.K) (he : DE G X W e f) (hw : ∀ whole, isTrue e X.env whole = (do let v ← whole; standAt e.pos; holding [v] (truthy v)) := by intro _; rfl) : DT G X W e (cTruth f) :=
  DT.of (pt_truth he hw) fun σ H Q ⟨T0, env, al, A⟩ => At.peeked A fun T1 env1 H1 d1 v1 g1 R1 o1 A1 => by
    obtain ⟨u, eu, pp⟩ := A1.done
    cases et : truth d1 with
    | none => rw [et] at eu; cases eu
    | some b =>
      rw [et] at eu
      simp only [Option.map_some, Option.some.injEq] at eu
      subst eu
      obtain ⟨b', e', q⟩ := pp (.bl b) H1 Same.refl' rfl
      cases e'
      exact ⟨b, hK ▸ truth_ok o1 et, q⟩
def onB (f : DEn) (k : Bool → DEn) : DEn := bindR f fun r => match r with
  | .val (.bl b) => k b
  | _ => fun _ => none
theorem At.onB {k : Bool → DEn} (A : At G W (Pd.onB f k) T0 env al σ H Q) (c : ∀ T1 env1 H1 b, Go T0 T1 env env1 al al H H1 → RepE G T1 env1 al σ H1 → At G W (k b) T1 env1 al σ H1 Q → Q1 (.bl b) H1) : tD G W f σ H Q1 :=
  At.bind A fun T1 env1 H1 r1 v1 g R1 o1 A1 => by
    obtain ⟨r, env', R, e, p⟩ := A1
    cases r1 with
    | val d =>
      cases d with
      | bl b => cases o1; exact c T1 env1 H1 b g R1 ⟨r, env', R, e, p⟩
      | _ => cases e
    | _ => cases e
def ret (d : D) : DEn := fun env => some (.ok (.val d), env)
theorem At.ret {d : D} (A : At G W (Pd.ret d) T env al σ H Q) : ∀ v, Rp G (TT T env al) H d v → Q v H := by
  obtain ⟨r, env', R, e, p⟩ := A
  simp only [Pd.ret, Option.some.injEq, Prod.mk.injEq] at e
  obtain ⟨rfl, rfl⟩ := e
  exact p T H Go.refl R
def cNot (f : DEn) : DEn := onB f fun b => ret (.bl !b)
def cAnd (f h : DEn) : DEn := onB f fun b => if b then h else ret (.bl false)
def cOr (f h : DEn) : DEn := onB f fun b => if b then ret (.bl true) else h
def cIf (c f h : DEn) : DEn := onB c fun b => if b then f else h
theorem dt_not (he : DT G X W e f) : DT G X W (.UnaryOp .Not e pos) (cNot f) := DT.of (pt_not he) fun σ H Q ⟨T0, env, al, A⟩ => A.onB fun T1 env1 H1 b g R1 A1 => by
  obtain ⟨b', e', q⟩ := A1.ret _ rfl
  cases e'
  exact ⟨b, rfl, q⟩
theorem DT.tt (A : At G W f T0 env al σ H fun v H1 => ∃ b, v = .bl b ∧ Q1 (.bl b) H1) : tD G W f σ H fun v H1 => ∃ b, v = .bl b ∧ Q1 (.bl b) H1 := ⟨T0, env, al, A⟩
def DW (G : Gc) (X : Cx) (W : WX) (e : Expr) (f : DEn) : Prop := PW X e (tT G W f)
theorem DW.of {t : L2.TT} (h : PW X e t) (k : ∀ σ H Q, tT G W f σ H Q → t σ H Q) : DW G X W e f :=
  ⟨fun wh pins s σ H Q I q => h.run wh pins s σ H Q I (k σ H Q q)⟩
theorem dw (h : DW G X W e f) : DT G X W e f := PW.pt h
variable {rest : List Expr} {op' : BoolOp}
theorem dw_and1 (he : DT G X W e f) : DW G X W (.BoolOp .And [e] pos) f := pw_and1 he
theorem dw_or1 (he : DT G X W e f) : DW G X W (.BoolOp .Or [e] pos) f := pw_or1 he
theorem dw_and (ha : DT G X W e1 f) (hb : DW G X W (.BoolOp .And (e2 :: rest) pos) h) : DW G X W (.BoolOp .And (e1 :: e2 :: rest) pos) (cAnd f h) := DW.of (pw_and ha hb) fun σ H Q ⟨T0, env, al, A⟩ => A.onB fun T1 env1 H1 b g R1 A1 => by
  refine ⟨b, rfl, ?_⟩
  cases b with
  | true => exact iteT ⟨T1, env1, al, A1⟩
  | false =>
    obtain ⟨b', e', q⟩ := At.ret (d := .bl false) A1 _ rfl
    cases e'
    exact iteF q
theorem dw_or (ha : DT G X W e1 f) (hb : DW G X W (.BoolOp .Or (e2 :: rest) pos) h) : DW G X W (.BoolOp .Or (e1 :: e2 :: rest) pos) (cOr f h) := DW.of (pw_or ha hb) fun σ H Q ⟨T0, env, al, A⟩ => A.onB fun T1 env1 H1 b g R1 A1 => by
  refine ⟨b, rfl, ?_⟩
  cases b with
  | false => exact iteF ⟨T1, env1, al, A1⟩
  | true =>
    obtain ⟨b', e', q⟩ := At.ret (d := .bl true) A1 _ rfl
    cases e'
    exact iteT q
/-! .. as values -/
theorem de_one {op : BoolOp} (he : DE G X W e f) : DE G X W (.BoolOp op [e] pos) f := pe_one he
theorem de_and (ha : DE G X W e1 f) (hb : DE G X W (.BoolOp .And (e2 :: rest) pos) h) : DE G X W (.BoolOp .And (e1 :: e2 :: rest) pos) (cAnd f h) := DE.of (pe_and ha hb) fun σ H Q ⟨T0, env, al, A⟩ => A.onB fun T1 env1 H1 b g R1 A1 => by
  refine ⟨b, rfl, ?_⟩
  cases b with
  | true => exact iteT ⟨T1, env1, al, A1⟩
  | false => exact iteF (At.ret (d := .bl false) A1 _ rfl)
theorem de_or (ha : DE G X W e1 f) (hb : DE G X W (.BoolOp .Or (e2 :: rest) pos) h) : DE G X W (.BoolOp .Or (e1 :: e2 :: rest) pos) (cOr f h) := DE.of (pe_or ha hb) fun σ H Q ⟨T0, env, al, A⟩ => A.onB fun T1 env1 H1 b g R1 A1 => by
  refine ⟨b, rfl, ?_⟩
  cases b with
  | false => exact iteF ⟨T1, env1, al, A1⟩
  | true => exact iteT (At.ret (d := .bl true) A1 _ rfl)
theorem de_not (ha : DE G X W e f) : DE G X W (.UnaryOp .Not e pos) (cNot f) := DE.of (pe_not ha) fun σ H Q ⟨T0, env, al, A⟩ => A.onB fun T1 env1 H1 b g R1 A1 =>
  ⟨b, rfl, A1.ret _ rfl⟩
theorem de_if {c : DEn} (hc : DT G X W e3 c) (ha : DE G X W e1 f) (hb : DE G X W e2 h) : DE G X W (.IfExp e3 e1 e2 pos) (cIf c f h) := DE.of (pe_ifExp hc ha hb) fun σ H Q ⟨T0, env, al, A⟩ => A.onB fun T1 env1 H1 b g R1 A1 => by
  refine ⟨b, rfl, ?_⟩
  cases b with
  | true => exact iteT ⟨T1, env1, al, A1⟩
  | false => exact iteF ⟨T1, env1, al, A1⟩
end
end Pd

namespace Pd
open PySem PySem.Spec PyProof.Rows L2
section
variable {G : Gc} {X : Cx} {W : WX} {T T0 T1 T2 : Addr → Prop} {env env0 env1 env2 env' : Sv} {al al1 al2 : Nat → Addr} {σ : L2.St} {H0 H H1 H2 : Hp} {Q Q1 : VK} {f h : DEn} {k : Out → DEn} {pos : Pos} {e e1 e2 e3 : Expr}

theorem R2ok.or {r r' : R2} {g g' : D → D → Option Out} (a : R2ok G r g) (b : R2ok G r' g') : R2ok G (fun x y H Q => r x y H Q ∨ r' x y H Q) (fun x y => match g x y with | some o => some o | none => g' x y) :=
  fun T H v1 v2 d1 d2 o ht h1 h2 e Q p => by
    dsimp only at e
    cases eg : g d1 d2 with
    | some u =>
      rw [eg] at e
      cases e
      exact .inl (a T H v1 v2 d1 d2 _ ht h1 h2 eg Q p)
    | none =>
      rw [eg] at e
      exact .inr (b T H v1 v2 d1 d2 o ht h1 h2 e Q p)
theorem PP.val {d : D} {v : V} (p : PP G T H (.val d) Q) (r : Rp G T H d v) : Q v H := p v H Same.refl' r
theorem same_new {p : Addr} {o : HO} (n : H p = none) : Same H (upd H p o) := fun b u e => by
  rw [upd_ne (ne_of_none e n)]; exact e
theorem PP.lst {ds : List D} {xs : List V} {p : Addr} (q : PP G T H (.new (.lst ds)) Q) (n : H p = none) (l : ds.length ≤ LIM) (r : Rps G T H ds xs) : Q (.ref p) (upd H p (.lst xs)) :=
  q p _ (same_new n) n ⟨xs, upd_same, l, r.mono (fun b o _ e => same_new n b o e) (fun b z => z.elim .inl fun z => .inr (z ▸ n))⟩
theorem PP.tup {ds : List D} {xs : List V} {p : Addr} (q : PP G T H (.val (.tup ds)) Q) (t : ∀ a, T a → H a ≠ none) (n : H p = none) (l : ds.length ≤ LIM) (r : Rps G T H ds xs) : Q (.ref p) (upd H p (.tup xs)) :=
  q _ _ (same_new n) (by unfold Rp; exact ⟨p, xs, rfl, .inl ⟨fun z => t p z n, .inl upd_same⟩, l, r.mono (fun b o _ e => same_new n b o e) (fun b z => .inl z)⟩)
def vI (i : Int) : Option Out := some (.val (.int i))
def vB (b : Bool) : Option Out := some (.val (.bl b))
def vS (s : Str) : Option Out := if s.length ≤ LIM then some (.val (.str s)) else none
theorem vS_ok {s : Str} {o : Out} (e : vS s = some o) : o = .val (.str s) ∧ s.length ≤ LIM := by
  unfold vS at e
  split at e
  · exact ⟨(Option.some.inj e).symm, by assumption⟩
  · cases e
theorem sOk_app {a b : Str} (h1 : sOk a = true) (h2 : sOk b = true) (l : (a ++ b).length ≤ LIM) : sOk (a ++ b) = true := by
  unfold sOk at h1 h2 ⊢
  rw [Bool.and_eq_true_iff] at h1 h2 ⊢
  refine ⟨decide_eq_true l, ?_⟩
  show (a.cps ++ b.cps).all _ = true
  rw [Array.all_append, h1.2, h2.2]
  rfl
/-- ints -/
theorem r2_int {r : Int → Int → V} {c : Int → Int → Prop} {g : Int → Int → D} {b : Int → Int → Bool} (hb : ∀ i j, b i j = true → c i j) (hr : ∀ T H i j, Rp G T H (g i j) (r i j)) :
    R2ok G (rI c r) (fun x y => match x, y with | .int i, .int j => if b i j then some (.val (g i j)) else none | _, _ => none) :=
  fun T H v1 v2 d1 d2 o _ h1 h2 e Q p => by
    cases d1 <;> first | (cases e; done) | skip
    cases d2 <;> first | (cases e; done) | skip
    rename_i i j
    simp only at e
    split at e
    · cases e
      cases h1.int; cases h2.int
      exact ⟨i, j, rfl, rfl, hb i j (by assumption), p.val (hr T H i j)⟩
    · cases e
theorem r2_int0 {r : Int → Int → V} {g : Int → Int → D} (hr : ∀ T H i j, Rp G T H (g i j) (r i j)) :
    R2ok G (rI0 r) (fun x y => match x, y with | .int i, .int j => some (.val (g i j)) | _, _ => none) :=
  fun T H v1 v2 d1 d2 o _ h1 h2 e Q p => by
    cases d1 <;> first | (cases e; done) | skip
    cases d2 <;> first | (cases e; done) | skip
    rename_i i j
    cases e
    cases h1.int; cases h2.int
    exact ⟨i, j, rfl, rfl, p.val (hr T H i j)⟩
def gAdd : D → D → Option Out
  | .int i, .int j => vI (i + j)
  | .str s, .str t => vS (s ++ t)
  | .tup a, .tup b => if a.length + b.length ≤ LIM then some (.val (.tup (a ++ b))) else none
  | .lst a, .lst b => if a.length + b.length ≤ LIM then some (.new (.lst (a ++ b))) else none
  | _, _ => none
abbrev rAdd (K : PySem.W.Frag) : R2 := fun x y H Q => rI0 (fun i j => .int (i + j)) x y H Q ∨ ((∃ i j, x = .str i ∧ y = .str j ∧ i.length + j.length ≤ sizeLine ∧ Q (.str (i ++ j)) H) ∨ (rCatA K x y H Q ∨ rCat x y H Q))
theorem op_addA : OpR X (binaryOp .Add) (rAdd X.K) := op_add.or (op_add_str.or (op_catA.or op_cat))
theorem str_app_len (a b : Str) : (a ++ b).length = a.length + b.length := by
  show (a.cps ++ b.cps).size = _
  rw [Array.size_append]
  rfl
theorem r2_add : R2ok G (rAdd G.K) gAdd := fun T H v1 v2 d1 d2 o ht h1 h2 e Q p => by
  cases d1 <;> cases d2 <;> first | (cases e; done) | skip
  · cases e; cases h1.int; cases h2.int
    exact .inl ⟨_, _, rfl, rfl, p.val rfl⟩
  · obtain ⟨rfl, l⟩ := vS_ok e
    obtain ⟨rfl, l1⟩ := h1.str
    obtain ⟨rfl, l2⟩ := h2.str
    exact .inr (.inl ⟨_, _, rfl, rfl, by rw [← str_app_len]; exact lim_line l, p.val ⟨rfl, sOk_app l1 l2 l⟩⟩)
  · simp only [gAdd] at e
    split at e
    · rename_i hz
      cases e
      obtain ⟨a, xs, rfl, r1, l1, q1⟩ := h1.tup
      obtain ⟨b, ys, rfl, r2, l2, q2⟩ := h2.tup
      refine .inr (.inr (.inl ⟨a, b, xs, ys, rfl, rfl, r1.sq, r2.sq, by rw [← q1.length, ← q2.length]; exact lim_line hz, fun z => ?_, fun z1 z2 => ?_, fun z1 z2 p0 n => ?_⟩))
      · subst z
        have q1' := List.length_eq_zero_iff.mp q1.length
        subst q1'
        exact p.val (by unfold Rp; exact ⟨b, ys, rfl, r2, l2, q2⟩)
      · subst z2
        have q2' := List.length_eq_zero_iff.mp q2.length
        subst q2'
        rw [List.append_nil] at p
        exact p.val (by unfold Rp; exact ⟨a, xs, rfl, r1, l1, q1⟩)
      · exact p.tup ht n (by rw [List.length_append]; exact hz) (q1.append q2)
    · cases e
  · simp only [gAdd] at e
    split at e
    · rename_i hz
      cases e
      obtain ⟨a, xs, rfl, r1, l1, q1⟩ := h1.seqL
      obtain ⟨b, ys, rfl, r2, l2, q2⟩ := h2.seqL
      exact .inr (.inr (.inr ⟨a, b, xs, ys, rfl, rfl, r1, r2, by rw [← q1.length, ← q2.length]; exact lim_line hz, fun p0 n => p.lst n (by rw [List.length_append]; exact hz) (q1.append q2)⟩))
    · cases e
def gSub : D → D → Option Out
  | .int i, .int j => vI (i - j)
  | _, _ => none
theorem r2_sub : R2ok G (rI0 fun i j => .int (i - j)) gSub := r2_int0 (g := fun i j => .int (i - j)) fun _ _ _ _ => rfl
/-- * : one factor below 2 ^ 64; a text -/
def bMul (i j : Int) : Bool := (decide (-(2 ^ 64) < i) && decide (i < 2 ^ 64)) || (decide (-(2 ^ 64) < j) && decide (j < 2 ^ 64))
def strMul (s : Str) (n : Int) : Str := ⟨((List.replicate n.toNat s.cps.toList).flatten).toArray⟩
def gMul : D → D → Option Out
  | .int i, .int j => if bMul i j then vI (i * j) else none
  | .str s, .int n => if 0 ≤ n ∧ n ≤ 100 ∧ s.length ≤ 1000 then some (.val (.str (strMul s n))) else none
  | _, _ => none
def gMod : D → D → Option Out
  | .int i, .int j => if 0 < j then vI (i % j) else none
  | _, _ => none
theorem r2_mod : R2ok G (rI (fun _ j => 0 < j) fun i j => .int (i % j)) gMod :=
  fun T H v1 v2 d1 d2 o ht h1 h2 e Q p => r2_int (c := fun _ j => 0 < j) (r := fun i j => .int (i % j)) (g := fun i j => .int (i % j)) (b := fun _ j => decide (0 < j)) (fun _ _ z => of_decide_eq_true z) (fun _ _ _ _ => rfl) T H v1 v2 d1 d2 o ht h1 h2 (by
    rw [← e]
    cases d1 <;> first | rfl | skip
    cases d2 <;> first | rfl | skip
    simp only [gMod, vI, decide_eq_true_eq]) Q p
def gFdiv : D → D → Option Out
  | .int i, .int j => if 0 < j ∧ j < 1073741824 then vI (i / j) else none
  | _, _ => none
theorem r2_fdiv : R2ok G (rI CDiv fun i j => .int (i / j)) gFdiv :=
  fun T H v1 v2 d1 d2 o ht h1 h2 e Q p => r2_int (c := CDiv) (r := fun i j => .int (i / j)) (g := fun i j => .int (i / j)) (b := fun _ j => decide (0 < j ∧ j < 1073741824)) (fun i j z => show 0 < j ∧ j < 1073741824 from of_decide_eq_true z) (fun _ _ _ _ => rfl) T H v1 v2 d1 d2 o ht h1 h2 (by
    rw [← e]
    cases d1 <;> first | rfl | skip
    cases d2 <;> first | rfl | skip
    simp only [gFdiv, vI, decide_eq_true_eq]) Q p
def gPow : D → D → Option Out
  | .int i, .int j => if 0 ≤ j ∧ j ≤ 1000 ∧ i.natAbs < 2 ^ 64 then vI (i ^ j.toNat) else none
  | _, _ => none
theorem r2_pow : R2ok G (rI CPow fun i j => .int (i ^ j.toNat)) gPow :=
  fun T H v1 v2 d1 d2 o ht h1 h2 e Q p => r2_int (c := CPow) (r := fun i j => .int (i ^ j.toNat)) (g := fun i j => .int (i ^ j.toNat)) (b := fun i j => decide (0 ≤ j ∧ j ≤ 1000 ∧ i.natAbs < 2 ^ 64)) (fun i j z => by
      have := of_decide_eq_true z
      exact ⟨this.1, by omega, this.2.2⟩) (fun _ _ _ _ => rfl) T H v1 v2 d1 d2 o ht h1 h2 (by
    rw [← e]
    cases d1 <;> first | rfl | skip
    cases d2 <;> first | rfl | skip
    simp only [gPow, vI, decide_eq_true_eq]) Q p
def gNeg : D → Option Out
  | .int i => vI (-i)
  | _ => none
theorem r1_neg : R1ok G (rU fun i => .int (-i)) gNeg := fun T H v1 d1 o _ h1 e Q p => by
  cases d1 <;> first | (cases e; done) | skip
  cases e; cases h1.int
  exact ⟨_, rfl, p.val rfl⟩
/-! comparisons by order -/
def gCmp (ci : Int → Int → Bool) (cs : Str → Str → Bool) : D → D → Option Out
  | .int i, .int j => vB (ci i j)
  | .str s, .str t => vB (cs s t)
  | _, _ => none
theorem r2_cmp {ci : Int → Int → Bool} {cs : Str → Str → Bool} : R2ok G (fun x y H Q => rI0 (fun i j => .bl (ci i j)) x y H Q ∨ ∃ i j, x = .str i ∧ y = .str j ∧ Q (.bl (cs i j)) H) (gCmp ci cs) := fun T H v1 v2 d1 d2 o _ h1 h2 e Q p => by
  cases d1 <;> cases d2 <;> first | (cases e; done) | skip
  · cases e; cases h1.int; cases h2.int
    exact .inl ⟨_, _, rfl, rfl, p.val rfl⟩
  · cases e; obtain ⟨rfl, _⟩ := h1.str; obtain ⟨rfl, _⟩ := h2.str
    exact .inr ⟨_, _, rfl, rfl, p.val rfl⟩
def gLt := gCmp (fun i j => decide (i < j)) (fun s t => decide (s.cps.toList < t.cps.toList))
def gLe := gCmp (fun i j => decide (i ≤ j)) (fun s t => decide (s.cps.toList ≤ t.cps.toList))
def gGt := gCmp (fun i j => decide (j < i)) (fun s t => decide (t.cps.toList < s.cps.toList))
def gGe := gCmp (fun i j => decide (j ≤ i)) (fun s t => decide (t.cps.toList ≤ s.cps.toList))
theorem lt_to_le {a b : List Nat} : decide (a ≤ b) = !decide (b < a) := by
  by_cases h : b < a
  · rw [decide_eq_true h, decide_eq_false (fun z => absurd h (List.not_lt.mpr z))]; rfl
  · rw [decide_eq_false h, decide_eq_true (List.not_lt.mp h)]; rfl
theorem op_ltA : OpR X (compareOp .Lt) (fun x y H Q => rI0 (fun i j => .bl (decide (i < j))) x y H Q ∨ ∃ i j, x = .str i ∧ y = .str j ∧ Q (.bl (decide (i.cps.toList < j.cps.toList))) H) := op_lt.or op_lt_str
theorem op_leA : OpR X (compareOp .LtE) (fun x y H Q => rI0 (fun i j => .bl (decide (i ≤ j))) x y H Q ∨ ∃ i j, x = .str i ∧ y = .str j ∧ Q (.bl (decide (i.cps.toList ≤ j.cps.toList))) H) := op_le.or (by
  intro pins s σ H x y v u Q I rx ry h
  obtain ⟨i, j, e1, e2, q⟩ := h
  exact op_le_str pins s σ H x y v u Q I rx ry ⟨i, j, e1, e2, by rw [← lt_to_le]; exact q⟩)
theorem op_gtA : OpR X (compareOp .Gt) (fun x y H Q => rI0 (fun i j => .bl (decide (j < i))) x y H Q ∨ ∃ i j, x = .str i ∧ y = .str j ∧ Q (.bl (decide (j.cps.toList < i.cps.toList))) H) := op_gt.or op_gt_str
theorem op_geA : OpR X (compareOp .GtE) (fun x y H Q => rI0 (fun i j => .bl (decide (j ≤ i))) x y H Q ∨ ∃ i j, x = .str i ∧ y = .str j ∧ Q (.bl (decide (j.cps.toList ≤ i.cps.toList))) H) := op_ge.or (by
  intro pins s σ H x y v u Q I rx ry h
  obtain ⟨i, j, e1, e2, q⟩ := h
  exact op_ge_str pins s σ H x y v u Q I rx ry ⟨i, j, e1, e2, by rw [← lt_to_le]; exact q⟩)
theorem r2_lt : R2ok G (fun x y H Q => rI0 (fun i j => .bl (decide (i < j))) x y H Q ∨ ∃ i j, x = .str i ∧ y = .str j ∧ Q (.bl (decide (i.cps.toList < j.cps.toList))) H) gLt := r2_cmp
theorem r2_le : R2ok G (fun x y H Q => rI0 (fun i j => .bl (decide (i ≤ j))) x y H Q ∨ ∃ i j, x = .str i ∧ y = .str j ∧ Q (.bl (decide (i.cps.toList ≤ j.cps.toList))) H) gLe := r2_cmp
theorem r2_gt : R2ok G (fun x y H Q => rI0 (fun i j => .bl (decide (j < i))) x y H Q ∨ ∃ i j, x = .str i ∧ y = .str j ∧ Q (.bl (decide (j.cps.toList < i.cps.toList))) H) gGt := r2_cmp
theorem r2_ge : R2ok G (fun x y H Q => rI0 (fun i j => .bl (decide (j ≤ i))) x y H Q ∨ ∃ i j, x = .str i ∧ y = .str j ∧ Q (.bl (decide (j.cps.toList ≤ i.cps.toList))) H) gGe := r2_cmp

/-! ### data as the library's data -/
mutual
def D.py : D → Option PyData
  | .non => some .none
  | .bl b => some (.bool b)
  | .int i => some (.int i)
  | .str s => some (.str s)
  | .tup ds => (D.pys ds).map .tuple
  | .lst ds => (D.pys ds).map .list
  | _ => none
def D.pys : List D → Option (List PyData)
  | [] => some []
  | d :: ds => match D.py d, D.pys ds with
    | some p, some ps => some (p :: ps)
    | _, _ => none
end
mutual
theorem Rp.dp : ∀ (d : D) (v : V) (p : PyData), Rp G T H d v → d.py = some p → Dp G.K H v p ∧ p.canLay0 = true
  | .non, v, p, h, e => by cases h; cases e; exact ⟨.non, rfl⟩
  | .bl b, v, p, h, e => by cases h; cases e; exact ⟨.bl b, rfl⟩
  | .int b, v, p, h, e => by cases h; cases e; exact ⟨.int b, rfl⟩
  | .str s, v, p, h, e => by
    obtain ⟨rfl, l⟩ := h
    cases e
    exact ⟨.str s, by unfold PyData.canLay0; exact (Bool.and_eq_true_iff.mp l).2⟩
  | .tup ds, v, p, h, e => by
    unfold Rp at h
    obtain ⟨a, xs, rfl, r, _, q⟩ := h
    unfold D.py at e
    cases es : D.pys ds with
    | none => rw [es] at e; cases e
    | some ps =>
      rw [es] at e
      cases e
      obtain ⟨h1, h2⟩ := Rps.dp ds xs ps q es
      exact ⟨.tup r.sq h1, by unfold PyData.canLay0; exact h2⟩
  | .lst ds, v, p, h, e => by
    unfold Rp at h
    obtain ⟨a, xs, rfl, _, r, _, q⟩ := h
    unfold D.py at e
    cases es : D.pys ds with
    | none => rw [es] at e; cases e
    | some ps =>
      rw [es] at e
      cases e
      obtain ⟨h1, h2⟩ := Rps.dp ds xs ps q es
      exact ⟨.lst (SqL.of r) h1, by unfold PyData.canLay0; exact h2⟩
  | .dic _ _, _, _, _, e => by cases e
  | .dit _ _, _, _, _, e => by cases e
  | .set _, _, _, _, e => by cases e
  | .ins _ _, _, _, _, e => by cases e
  | .exn _ _, _, _, _, e => by cases e
  | .ty _, _, _, _, e => by cases e
  | .scr _, _, _, _, e => by cases e
  | .cls _, _, _, _, e => by cases e
theorem Rps.dp : ∀ (ds : List D) (xs : List V) (ps : List PyData), Rps G T H ds xs → D.pys ds = some ps → DpAll G.K H xs ps ∧ PyData.canLayAll0 ps = true
  | [], xs, ps, h, e => by unfold Rps at h; cases h; cases e; exact ⟨.nil, rfl⟩
  | d :: ds, xs, ps, h, e => by
    unfold Rps at h
    obtain ⟨x, r, rfl, hx, hr⟩ := h
    unfold D.pys at e
    cases e1 : D.py d with
    | none => simp only [e1] at e; cases e
    | some p =>
      cases e2 : D.pys ds with
      | none => simp only [e1, e2] at e; cases e
      | some qs =>
        simp only [e1, e2] at e
        cases e
        obtain ⟨a1, a2⟩ := Rp.dp d x p hx e1
        obtain ⟨b1, b2⟩ := Rps.dp ds r qs hr e2
        exact ⟨.cons a1 b1, by unfold PyData.canLayAll0; rw [a2, b2]; rfl⟩
end
theorem RepB.dp {d : D} {v : V} {p : PyData} (h : RepB G T H d v) (e : d.py = some p) : Dp G.K H v p ∧ p.canLay0 = true := by
  rcases h with h | ⟨a, o, rfl, rfl, h⟩
  · exact h.dp d v p e
  · cases o with
    | lst ds =>
      obtain ⟨xs, r, _, q⟩ := h
      unfold O.toD D.py at e
      cases es : D.pys ds with
      | none => rw [es] at e; cases e
      | some ps =>
        rw [es] at e
        cases e
        obtain ⟨h1, h2⟩ := Rps.dp ds xs ps q es
        exact ⟨.lst (SqL.of r) h1, by unfold PyData.canLay0; exact h2⟩
    | _ => cases e
def eqD (d e : D) : Option Bool := match d.py, e.py with
  | some p, some q => if p.depth ≤ 64 ∧ q.depth ≤ 64 then some (PyData.eqv p q) else none
  | _, _ => none
theorem eqD_ok {d1 d2 : D} {v1 v2 : V} {b : Bool} (h1 : RepB G T H d1 v1) (h2 : RepB G T H d2 v2) (e : eqD d1 d2 = some b) : ∃ p q, Dp G.K H v1 p ∧ Dp G.K H v2 q ∧ SeqAt.shaped p = true ∧ SeqAt.shaped q = true ∧ b = PyData.eqv p q := by
  unfold eqD at e
  cases e1 : d1.py with
  | none => simp only [e1] at e; cases e
  | some p =>
    cases e2 : d2.py with
    | none => simp only [e1, e2] at e; cases e
    | some q =>
      simp only [e1, e2] at e
      split at e
      · rename_i hd
        cases e
        obtain ⟨a1, a2⟩ := h1.dp e1
        obtain ⟨b1, b2⟩ := h2.dp e2
        exact ⟨p, q, a1, b1, by unfold SeqAt.shaped; rw [a2, decide_eq_true hd.1]; rfl, by unfold SeqAt.shaped; rw [b2, decide_eq_true hd.2]; rfl, rfl⟩
      · cases e
def gEq (d e : D) : Option Out := (eqD d e).map fun b => .val (.bl b)
def gNe (d e : D) : Option Out := (eqD d e).map fun b => .val (.bl !b)
theorem r2_eq : R2ok G (rEqD G.K) gEq := fun T H v1 v2 d1 d2 o _ h1 h2 e Q p => by
  obtain ⟨b, e1, rfl⟩ := Option.map_eq_some_iff.mp e
  obtain ⟨x, y, a1, a2, a3, a4, rfl⟩ := eqD_ok h1 h2 e1
  exact ⟨x, y, a1, a2, a3, a4, p.val rfl⟩
theorem r2_ne : R2ok G (rNeD G.K) gNe := fun T H v1 v2 d1 d2 o _ h1 h2 e Q p => by
  obtain ⟨b, e1, rfl⟩ := Option.map_eq_some_iff.mp e
  obtain ⟨x, y, a1, a2, a3, a4, rfl⟩ := eqD_ok h1 h2 e1
  exact ⟨x, y, a1, a2, a3, a4, p.val rfl⟩
end
end Pd

namespace Pd
open PySem PySem.Spec PyProof.Rows L2
/-- an argument: by value, or as it stands -/
inductive AK where
  | v (f : DEn) | r (f : DEn)
inductive Av where
  | val (d : D) | out (r : Out)
def evs : List AK → (List Av → DEn) → DEn
  | [], k => k []
  | .v f :: fs, k => bindV f fun d => evs fs fun as => k (.val d :: as)
  | .r f :: fs, k => bindR f fun r => evs fs fun as => k (.out r :: as)
section
variable {G : Gc} {X : Cx} {W : WX} {T T0 T1 T2 : Addr → Prop} {env env0 env1 env2 env' : Sv} {al al1 al2 : Nat → Addr} {σ : L2.St} {H0 H H1 H2 : Hp} {Q Q1 : VK} {f h : DEn} {k : Out → DEn} {pos : Pos} {e e1 e2 e3 : Expr} {es : List Expr} {ks : List AK}
def AvRep (G : Gc) (H0 : Hp) (T0 : Addr → Prop) (env : Sv) (al : Nat → Addr) (σ : L2.St) (H : Hp) : Av → V → Prop
  | .val d, v => Rp G (TT T0 env al) H d v
  | .out r, v => OutRep G H0 T0 env al σ H r v
def AvReps (G : Gc) (H0 : Hp) (T0 : Addr → Prop) (env : Sv) (al : Nat → Addr) (σ : L2.St) (H : Hp) : List Av → List V → Prop
  | [], vs => vs = []
  | a :: as, vs => ∃ x r, vs = x :: r ∧ AvRep G H0 T0 env al σ H a x ∧ AvReps G H0 T0 env al σ H as r
theorem AvRep.stay (g : Go T1 T2 env1 env2 al al H1 H2) (R : RepE G T1 env1 al σ H1) (R2 : RepE G T2 env2 al σ H2) {a : Av} {v : V} (o : AvRep G H T1 env1 al σ H1 a v) : AvRep G H T2 env2 al σ H2 a v := by
  cases a with
  | val d => exact g.rp R o
  | out r => exact OutRep.stay g R R2 o
theorem AvReps.back (d : ∀ b, H0 b ≠ none → H1 b ≠ none) : ∀ {as : List Av} {vs : List V}, AvReps G H1 T0 env al σ H as vs → AvReps G H0 T0 env al σ H as vs
  | [], _, h => h
  | a :: as, vs, h => by
    obtain ⟨x, r, e, hx, hr⟩ := h
    refine ⟨x, r, e, ?_, AvReps.back d hr⟩
    cases a with
    | val _ => exact hx
    | out _ => exact OutRep.back d hx
def tO (G : Gc) (W : WX) (ks : List AK) : TA := fun σ H Q => ∃ T0 env al k Qv, RepE G T0 env al σ H ∧ At G W (evs ks k) T0 env al σ H Qv ∧
  ∀ T1 env1 H1 avs vs, Go T0 T1 env env1 al al H H1 → RepE G T1 env1 al σ H1 → AvReps G H T1 env1 al σ H1 avs vs → At G W (k avs) T1 env1 al σ H1 Qv → Q vs H1
def DA (G : Gc) (X : Cx) (W : WX) (es : List Expr) (ks : List AK) : Prop := PA X es (tO G W ks)
theorem DA.of {t : TA} (h : PA X es t) (k : ∀ σ H Q, tO G W ks σ H Q → t σ H Q) : DA G X W es ks :=
  ⟨fun pos pins s σ H Q I q => h.run pos pins s σ H Q I (k σ H Q q)⟩
theorem da_nil : DA G X W [] [] := DA.of pa_nil fun σ H Q ⟨T0, env, al, k, Qv, R, A, c⟩ => c T0 env H [] [] Go.refl R rfl A
theorem da_r (ha : DE G X W e f) (hr : DA G X W es ks) (hs : starEach (e :: es) X.env = (false, eval e X.env) :: starEach es X.env := by rfl) : DA G X W (e :: es) (.r f :: ks) :=
  DA.of (pa_cons ha hr hs) fun σ H Q ⟨T0, env, al, k, Qv, R, A, c⟩ => At.bind (k := fun r => evs ks fun as => k (.out r :: as)) A fun T1 env1 H1 r1 v1 g R1 o1 A1 =>
    ⟨T1, env1, al, fun as => k (.out r1 :: as), Qv, R1, A1, fun T2 env2 H2 avs vs g2 R2 os A2 => c T2 env2 H2 (.out r1 :: avs) (v1 :: vs) (g.trans g2) R2 ⟨v1, vs, rfl, OutRep.stay g2 R1 R2 o1, os.back g.dom⟩ A2⟩
theorem da_v (ha : DE G X W e f) (hr : DA G X W es ks) (hs : starEach (e :: es) X.env = (false, eval e X.env) :: starEach es X.env := by rfl) : DA G X W (e :: es) (.v f :: ks) :=
  DA.of (pa_cons ha hr hs) fun σ H Q ⟨T0, env, al, k, Qv, R, A, c⟩ => At.bindV (k := fun d => evs ks fun as => k (.val d :: as)) A fun T1 env1 H1 r1 v1 g R1 o1 A1 =>
    ⟨T1, env1, al, fun as => k (.val r1 :: as), Qv, R1, A1, fun T2 env2 H2 avs vs g2 R2 os A2 => c T2 env2 H2 (.val r1 :: avs) (v1 :: vs) (g.trans g2) R2 ⟨v1, vs, rfl, g2.rp R1 o1, os.back g.dom⟩ A2⟩
/-! ### displays -/
def vals : List Av → Option (List D)
  | [] => some []
  | .val d :: as => (vals as).map (d :: ·)
  | _ => none
theorem vals_ok : ∀ {as : List Av} {vs : List V} {ds : List D}, AvReps G H0 T env al σ H as vs → vals as = some ds → Rps G (TT T env al) H ds vs
  | [], vs, ds, h, e => by cases h; cases e; exact Rps.nil
  | .val d :: as, vs, ds, h, e => by
    obtain ⟨x, r, rfl, hx, hr⟩ := h
    obtain ⟨ds', e1, rfl⟩ := Option.map_eq_some_iff.mp e
    exact Rps.cons hx (vals_ok hr e1)
  | .out _ :: _, _, _, _, e => by cases e
def cTup (ks : List AK) : DEn := evs ks fun as env => match vals as with
  | some ds => done (if ds.length ≤ LIM then some (.val (.tup ds)) else none) env
  | none => none
def cLst (ks : List AK) : DEn := evs ks fun as env => match vals as with
  | some ds => done (if ds.length ≤ LIM then some (.new (.lst ds)) else none) env
  | none => none
theorem At.vals {as : List Av} {k : List D → DEn} (A : At G W (fun env => match Pd.vals as with
    | some ds => k ds env
    | none => none) T env al σ H Q) : ∃ ds, Pd.vals as = some ds ∧ At G W (k ds) T env al σ H Q := by
  obtain ⟨r, env', R, e, p⟩ := A
  cases ev : Pd.vals as with
  | none => simp only [ev] at e; cases e
  | some ds => exact ⟨ds, rfl, r, env', R, by simpa only [ev] using e, p⟩
theorem de_tup {x1} (ha : DA G X W es ks) : DE G X W (.Tuple es x1 pos) (cTup ks) := DE.of (pe_tup ha) fun σ H Q ⟨T0, env, al, A⟩ =>
  ⟨T0, env, al, _, Q, A.choose_spec.choose_spec.1, A, fun T1 env1 H1 avs vs g R1 os A1 => by
    obtain ⟨ds, ev, A2⟩ := At.vals A1
    obtain ⟨u, eu, pp⟩ := A2.done
    have q := vals_ok os ev
    split at eu
    · rename_i hl
      cases eu
      exact ⟨by rw [← q.length]; exact lim_line hl, fun p n => pp.tup (fun a z => R1.tt z) n hl q⟩
    · cases eu⟩
theorem de_lst (ha : DA G X W es ks) : DE G X W (.List es pos) (cLst ks) := DE.of (pe_lst ha) fun σ H Q ⟨T0, env, al, A⟩ =>
  ⟨T0, env, al, _, Q, A.choose_spec.choose_spec.1, A, fun T1 env1 H1 avs vs g R1 os A1 => by
    obtain ⟨ds, ev, A2⟩ := At.vals A1
    obtain ⟨u, eu, pp⟩ := A2.done
    have q := vals_ok os ev
    split at eu
    · rename_i hl
      cases eu
      exact ⟨by rw [← q.length]; exact lim_line hl, fun p n => pp.lst n hl q⟩
    · cases eu⟩
/-! ### built-ins by name -/
def peeks (env : Sv) : List Av → Option (List D)
  | [] => some []
  | .val d :: as => (peeks env as).map (d :: ·)
  | .out r :: as => match peek r env, peeks env as with
    | some d, some ds => some (d :: ds)
    | _, _ => none
def RepBs (G : Gc) (T : Addr → Prop) (H : Hp) : List D → List V → Prop
  | [], vs => vs = []
  | d :: ds, vs => ∃ x r, vs = x :: r ∧ RepB G T H d x ∧ RepBs G T H ds r
theorem peeks_ok (R : RepE G T env al σ H) : ∀ {as : List Av} {vs : List V} {ds : List D}, AvReps G H0 T env al σ H as vs → peeks env as = some ds → RepBs G (TT T env al) H ds vs
  | [], vs, ds, h, e => by cases h; cases e; exact rfl
  | .val d :: as, vs, ds, h, e => by
    obtain ⟨x, r, rfl, hx, hr⟩ := h
    obtain ⟨ds', e1, rfl⟩ := Option.map_eq_some_iff.mp e
    exact ⟨x, r, rfl, .inl hx, peeks_ok R hr e1⟩
  | .out o :: as, vs, ds, h, e => by
    obtain ⟨x, r, rfl, hx, hr⟩ := h
    unfold peeks at e
    cases e1 : peek o env with
    | none => simp only [e1] at e; cases e
    | some d =>
      cases e2 : peeks env as with
      | none => simp only [e1, e2] at e; cases e
      | some ds' =>
        simp only [e1, e2] at e
        cases e
        exact ⟨x, r, rfl, peek_ok R hx e1, peeks_ok R hr e2⟩
def cB (g : List D → Option Out) (ks : List AK) : DEn := evs ks fun as env => match peeks env as with
  | some ds => done (g ds) env
  | none => none
def RCok (G : Gc) (r : List V → Hp → VK → Prop) (g : List D → Option Out) : Prop := ∀ T H vs ds o, (∀ a, T a → H a ≠ none) → RepBs G T H ds vs → g ds = some o → ∀ Q, PP G T H o Q → r vs H Q
theorem cb_core {r : List V → Hp → VK → Prop} {g : List D → Option Out} (hg : RCok G r g) (A : At G W (cB g ks) T0 env al σ H Q) : tO G W ks σ H fun vs H1 => r vs H1 Q :=
  ⟨T0, env, al, _, Q, A.choose_spec.choose_spec.1, A, fun T1 env1 H1 avs vs g R1 os A1 => by
    obtain ⟨rr, env', R, e, p⟩ := A1
    cases ev : peeks env1 avs with
    | none => simp only [ev] at e; cases e
    | some ds =>
      simp only [ev] at e
      obtain ⟨u, eu, pp⟩ := At.done ⟨rr, env', R, e, p⟩
      exact hg _ _ _ _ _ (fun a z => R1.tt z) (peeks_ok R1 os ev) eu _ pp⟩
theorem de_callB {x : Str} {id : String} {p : Pos} {r : List V → Hp → VK → Prop} {g : List D → Option Out} (hc : CallR X (.builtin id) r) (hg : RCok G r g) (hl : Gl X x) (hm : X.mg x = none) (hv : bootBuiltins x = some (.builtin id)) (ha : DA G X W (e :: es) ks)
    (hn : x ≠ "__name__" := by decide) (hdb : (x == ("__debug__" : Str)) = false := by decide) (he : starEach (e :: es) X.env = (false, eval e X.env) :: starEach es X.env := by rfl) (hpl : (backTo pos (starEach es X.env)).any (·.1) = false := by rfl) : DE G X W (.Call (.Name x p) (e :: es) [] pos) (cB g ks) :=
  DE.of (pe_callB hc hl hm hv ha hn hdb he hpl) fun σ H Q ⟨T0, env, al, A⟩ => cb_core hg A
theorem de_callTy {x : Str} {id : String} {p : Pos} {r : List V → Hp → VK → Prop} {g : List D → Option Out} (hc : CallR X (.type id) r) (hg : RCok G r g) (hl : Gl X x) (hm : X.mg x = none) (hv : bootBuiltins x = some (.type id)) (ha : DA G X W (e :: es) ks)
    (hn : x ≠ "__name__" := by decide) (hdb : (x == ("__debug__" : Str)) = false := by decide) (he : starEach (e :: es) X.env = (false, eval e X.env) :: starEach es X.env := by rfl) (hpl : (backTo pos (starEach es X.env)).any (·.1) = false := by rfl) : DE G X W (.Call (.Name x p) (e :: es) [] pos) (cB g ks) :=
  DE.of (pe_callTy hc hl hm hv ha hn hdb he hpl) fun σ H Q ⟨T0, env, al, A⟩ => cb_core hg A
theorem RepBs.one {d : D} {vs : List V} (h : RepBs G T H [d] vs) : ∃ v, vs = [v] ∧ RepB G T H d v := by
  obtain ⟨x, r, rfl, hx, hr⟩ := h
  cases hr
  exact ⟨x, rfl, hx⟩
theorem RepBs.two {d e : D} {vs : List V} (h : RepBs G T H [d, e] vs) : ∃ v w, vs = [v, w] ∧ RepB G T H d v ∧ RepB G T H e w := by
  obtain ⟨x, r, rfl, hx, hr⟩ := h
  obtain ⟨y, rfl, hy⟩ := hr.one
  exact ⟨x, y, rfl, hx, hy⟩
/-! len -/
def lenD : D → Option Int
  | .str s => some s.length
  | .tup ds => some ds.length
  | .lst ds => some ds.length
  | .scr ns => some ns.length
  | _ => none
def gLen : List D → Option Out
  | [d] => (lenD d).map fun n => .val (.int n)
  | _ => none
theorem rc_len : RCok G (fun xs H Q => ∃ x n, xs = [x] ∧ LenV G.K x H n ∧ Q (.int n) H) gLen := fun T H vs ds o _ h e Q p => by
  match ds, e with
  | [d], e =>
    obtain ⟨v, rfl, hv⟩ := h.one
    obtain ⟨n, en, rfl⟩ := Option.map_eq_some_iff.mp e
    cases d <;> first | (cases en; done) | skip
    · obtain ⟨rfl, l⟩ := hv.str
      cases en
      exact ⟨_, _, rfl, ⟨lim_line (sOk_len l), rfl⟩, p.val rfl⟩
    · obtain ⟨a, xs, rfl, r, l, q⟩ := hv.tup
      cases en
      refine ⟨_, xs.length, rfl, .inr ⟨xs, r.sq, rfl⟩, ?_⟩
      rw [← q.length]
      exact p.val rfl
    · obtain ⟨a, xs, rfl, r, l, q⟩ := hv.seqL
      cases en
      refine ⟨_, xs.length, rfl, .inl ⟨xs, SqL.of r, rfl⟩, ?_⟩
      rw [← q.length]
      exact p.val rfl
    · obtain ⟨a, rfl, r, l⟩ := hv.scr
      cases en
      refine ⟨_, _, rfl, .inl ⟨_, r.sq, rfl⟩, ?_⟩
      rw [List.length_map]
      exact p.val rfl
/-! min, max, abs of ints; int of a truth; truth of an int -/
def gMax2 : List D → Option Out
  | [.int i, .int j] => vI (if j > i then j else i)
  | _ => none
def gMin2 : List D → Option Out
  | [.int i, .int j] => vI (if j < i then j else i)
  | _ => none
theorem rc_max2 : RCok G (fun xs H Q => ∃ i j, xs = [.int i, .int j] ∧ Q (.int (if j > i then j else i)) H) gMax2 := fun T H vs ds o _ h e Q p => by
  unfold gMax2 at e
  split at e
  · obtain ⟨v, w, rfl, h1, h2⟩ := h.two
    cases h1.int; cases h2.int; cases e
    exact ⟨_, _, rfl, p.val rfl⟩
  · cases e
theorem rc_min2 : RCok G (fun xs H Q => ∃ i j, xs = [.int i, .int j] ∧ Q (.int (if j < i then j else i)) H) gMin2 := fun T H vs ds o _ h e Q p => by
  unfold gMin2 at e
  split at e
  · obtain ⟨v, w, rfl, h1, h2⟩ := h.two
    cases h1.int; cases h2.int; cases e
    exact ⟨_, _, rfl, p.val rfl⟩
  · cases e
def gAbs : List D → Option Out
  | [.int i] => vI (if i < 0 then -i else i)
  | _ => none
theorem rc_abs : RCok G (fun xs H Q => ∃ i, xs = [.int i] ∧ Q (.int (if i < 0 then -i else i)) H) gAbs := fun T H vs ds o _ h e Q p => by
  unfold gAbs at e
  split at e
  · obtain ⟨v, rfl, h1⟩ := h.one
    cases h1.int; cases e
    exact ⟨_, rfl, p.val rfl⟩
  · cases e
def gInt : List D → Option Out
  | [.int i] => vI i
  | [.bl b] => vI (if b then 1 else 0)
  | _ => none
theorem rc_int : RCok G (fun xs H Q => (∃ i, xs = [.int i] ∧ Q (.int i) H) ∨ ∃ k, xs = [.bl k] ∧ Q (.int (if k then 1 else 0)) H) gInt := fun T H vs ds o _ h e Q p => by
  unfold gInt at e
  split at e
  · obtain ⟨v, rfl, h1⟩ := h.one
    cases h1.int; cases e
    exact .inl ⟨_, rfl, p.val rfl⟩
  · obtain ⟨v, rfl, h1⟩ := h.one
    cases h1.bl; cases e
    exact .inr ⟨_, rfl, p.val rfl⟩
  · cases e
def gStrI : List D → Option Out
  | [.int i] => if i.natAbs < 2 ^ 64 then some (.val (.str (toString i))) else none
  | _ => none
def gDivmod : List D → Option Out
  | [.int i, .int j] => if 0 < j ∧ j < 1073741824 then some (.val (.tup [.int (i / j), .int (i % j)])) else none
  | _ => none
theorem rc_divmod : RCok G (fun xs H Q => ∃ i j, xs = [.int i, .int j] ∧ CDiv i j ∧ ∀ p, H p = none → Q (.ref p) (upd H p (.tup [.int (i / j), .int (i % j)]))) gDivmod := fun T H vs ds o ht h e Q p => by
  unfold gDivmod at e
  split at e
  · split at e
    · rename_i hc
      obtain ⟨v, w, rfl, h1, h2⟩ := h.two
      cases h1.int; cases h2.int; cases e
      exact ⟨_, _, rfl, hc, fun q n => p.tup ht n (by show 2 ≤ LIM; decide) (Rps.cons rfl (Rps.one rfl))⟩
    · cases e
  · cases e
/-! all, any of truths -/
def blsD : List D → Option (List Bool)
  | [] => some []
  | .bl b :: ds => (blsD ds).map (b :: ·)
  | _ => none
theorem bls_ok : ∀ {ds : List D} {xs : List V} {bs : List Bool}, Rps G T H ds xs → blsD ds = some bs → xs = bs.map V.bl
  | [], xs, bs, h, e => by unfold Rps at h; cases h; cases e; rfl
  | d :: ds, xs, bs, h, e => by
    unfold Rps at h
    obtain ⟨x, r, rfl, hx, hr⟩ := h
    cases d <;> first | (cases e; done) | skip
    obtain ⟨bs', e1, rfl⟩ := Option.map_eq_some_iff.mp e
    cases hx
    rw [bls_ok hr e1]
    rfl
def gAll : List D → Option Out
  | [.lst ds] => (blsD ds).map fun bs => .val (.bl (bs.all id))
  | _ => none
def gAny : List D → Option Out
  | [.lst ds] => (blsD ds).map fun bs => .val (.bl (bs.any id))
  | _ => none
theorem rc_all : RCok G (rAll G.K) gAll := fun T H vs ds o ht h e Q p => by
  unfold gAll at e
  split at e
  · obtain ⟨v, rfl, h1⟩ := h.one
    obtain ⟨bs, eb, rfl⟩ := Option.map_eq_some_iff.mp e
    obtain ⟨a, xs, rfl, r, _, q⟩ := h1.seqL
    have := bls_ok q eb
    subst this
    exact ⟨a, bs, rfl, SqL.of r, p.val rfl⟩
  · cases e
theorem rc_any : RCok G (rAny G.K) gAny := fun T H vs ds o ht h e Q p => by
  unfold gAny at e
  split at e
  · obtain ⟨v, rfl, h1⟩ := h.one
    obtain ⟨bs, eb, rfl⟩ := Option.map_eq_some_iff.mp e
    obtain ⟨a, xs, rfl, r, _, q⟩ := h1.seqL
    have := bls_ok q eb
    subst this
    exact ⟨a, bs, rfl, SqL.of r, p.val rfl⟩
  · cases e
/-! tuple(..), list(..) -/
def gTuple : List D → Option Out
  | [.lst ds] => some (.val (.tup ds))
  | [.tup ds] => some (.val (.tup ds))
  | _ => none
theorem rc_tuple : RCok G (fun xs H Q => ∃ p ys, xs = [.ref p] ∧ ((SqL G.K H p ys ∧ ∀ l, H l = none → Q (.ref l) (upd H l (.tup ys))) ∨ (SqT G.K H p ys ∧ Q (.ref p) H))) gTuple := fun T H vs ds o ht h e Q p => by
  unfold gTuple at e
  split at e
  · obtain ⟨v, rfl, h1⟩ := h.one
    cases e
    obtain ⟨a, xs, rfl, r, l, q⟩ := h1.seqL
    exact ⟨a, xs, rfl, .inl ⟨SqL.of r, fun z n => p.tup ht n l q⟩⟩
  · obtain ⟨v, rfl, h1⟩ := h.one
    cases e
    obtain ⟨a, xs, rfl, r, l, q⟩ := h1.tup
    exact ⟨a, xs, rfl, .inr ⟨r.sq, p.val (by unfold Rp; exact ⟨a, xs, rfl, r, l, q⟩)⟩⟩
  · cases e
def gList : List D → Option Out
  | [.lst ds] => some (.new (.lst ds))
  | [.tup ds] => some (.new (.lst ds))
  | _ => none
theorem rc_list : RCok G (fun xs H Q => ∃ p ys, xs = [.ref p] ∧ (SqL G.K H p ys ∨ SqT G.K H p ys) ∧ ∀ l, H l = none → Q (.ref l) (upd H l (.lst ys))) gList := fun T H vs ds o ht h e Q p => by
  unfold gList at e
  split at e
  · obtain ⟨v, rfl, h1⟩ := h.one
    cases e
    obtain ⟨a, xs, rfl, r, l, q⟩ := h1.seqL
    exact ⟨a, xs, rfl, .inl (SqL.of r), fun z n => p.lst n l q⟩
  · obtain ⟨v, rfl, h1⟩ := h.one
    cases e
    obtain ⟨a, xs, rfl, r, l, q⟩ := h1.tup
    exact ⟨a, xs, rfl, .inr r.sq, fun z n => p.lst n l q⟩
  · cases e
/-! items -/
def gIx : D → D → Option Out
  | .lst ds, .int i => (atI ds i).map .val
  | .tup ds, .int i => (atI ds i).map .val
  | .scr ns, .int i => (atI ns i).map fun n => .val (.int n)
  | .str s, .int i => (atI s.cps.toList i).map fun c => .val (.str ⟨#[c]⟩)
  | _, _ => none
end
end Pd

namespace Pd
open PySem PySem.Spec PyProof.Rows L2
section
variable {G : Gc} {X : Cx} {W : WX} {T T0 T1 T2 : Addr → Prop} {env env0 env1 env2 env' : Sv} {al al1 al2 : Nat → Addr} {σ : L2.St} {H0 H H1 H2 : Hp} {Q Q1 : VK} {f h : DEn} {k : Out → DEn} {pos : Pos} {e e1 e2 e3 : Expr} {es : List Expr} {ks : List AK}
/-! ### items -/
theorem atI_rps {ds : List D} {xs : List V} {i : Int} {d : D} (q : Rps G T H ds xs) (h : atI ds i = some d) : ∃ x, atI xs i = some x ∧ Rp G T H d x := by
  unfold atI at h ⊢
  rw [← q.length]
  cases e : ixN ds.length i with
  | none => rw [e] at h; cases h
  | some j =>
    rw [e] at h
    exact q.get h
theorem sOk_one {s : Str} {c : Nat} (h : sOk s = true) (m : c ∈ s.cps.toList) : sOk ⟨#[c]⟩ = true := by
  unfold sOk at h ⊢
  rw [Bool.and_eq_true_iff] at h ⊢
  refine ⟨decide_eq_true (show 1 ≤ LIM by decide), ?_⟩
  have := Array.all_eq_true'.mp h.2 c (Array.mem_toList_iff.mp m)
  simpa using this
theorem r2_ix : R2ok G (rIx G.K) gIx := fun T H v1 v2 d1 d2 o ht h1 h2 e Q p => by
  cases d1 <;> cases d2 <;> first | (cases e; done) | skip
  · obtain ⟨c, ec, rfl⟩ := Option.map_eq_some_iff.mp e
    obtain ⟨rfl, l⟩ := h1.str
    cases h2.int
    have hm : c ∈ _ := (Option.bind_eq_some_iff.mp ec).elim fun j hj => List.mem_of_getElem? hj.2
    exact .inr (.inr ⟨_, _, c, rfl, rfl, lim_line (sOk_len l), ec, p.val ⟨rfl, sOk_one l hm⟩⟩)
  · obtain ⟨d, ec, rfl⟩ := Option.map_eq_some_iff.mp e
    obtain ⟨a, xs, rfl, r, l, q⟩ := h1.tup
    cases h2.int
    obtain ⟨x, hx, rx⟩ := atI_rps q ec
    exact .inr (.inl ⟨a, xs, _, x, rfl, rfl, r.sq, hx, p.val rx⟩)
  · obtain ⟨d, ec, rfl⟩ := Option.map_eq_some_iff.mp e
    obtain ⟨a, xs, rfl, r, l, q⟩ := h1.seqL
    cases h2.int
    obtain ⟨x, hx, rx⟩ := atI_rps q ec
    exact .inl ⟨a, xs, _, x, rfl, rfl, SqL.of r, hx, p.val rx⟩
  · obtain ⟨n, ec, rfl⟩ := Option.map_eq_some_iff.mp e
    obtain ⟨a, rfl, r, l⟩ := h1.scr
    cases h2.int
    refine .inl ⟨a, _, _, .int n, rfl, rfl, r.sq, ?_, p.val rfl⟩
    unfold atI at ec ⊢
    rw [List.length_map]
    cases e : ixN _ _ with
    | none => rw [e] at ec; cases ec
    | some j =>
      rw [e] at ec
      show (List.map V.int _)[j]? = _
      have ec' : _ = some n := ec
      simp only [Option.bind_some] at ec'
      rw [List.getElem?_map, ec']
      rfl
/-! ### slices -/
def cut {α : Type} (xs : List α) (lo hi : Option Int) : List α := (xs.drop (HT.sIx xs.length 0 lo)).take (HT.sIx xs.length xs.length hi - HT.sIx xs.length 0 lo)
theorem cut_len {α : Type} (xs : List α) (lo hi : Option Int) : (cut xs lo hi).length ≤ xs.length := by
  unfold cut
  rw [List.length_take, List.length_drop]
  omega
theorem Rps.drop : ∀ {ds : List D} {xs : List V} (n : Nat), Rps G T H ds xs → Rps G T H (ds.drop n) (xs.drop n)
  | ds, xs, 0, h => h
  | [], xs, n + 1, h => by unfold Rps at h; cases h; exact Rps.nil
  | d :: ds, xs, n + 1, h => by
    unfold Rps at h
    obtain ⟨x, r, rfl, _, hr⟩ := h
    exact Rps.drop n hr
theorem Rps.take : ∀ {ds : List D} {xs : List V} (n : Nat), Rps G T H ds xs → Rps G T H (ds.take n) (xs.take n)
  | ds, xs, 0, h => Rps.nil
  | [], xs, n + 1, h => by unfold Rps at h; cases h; exact Rps.nil
  | d :: ds, xs, n + 1, h => by
    unfold Rps at h
    obtain ⟨x, r, rfl, hx, hr⟩ := h
    exact Rps.cons hx (Rps.take n hr)
theorem Rps.cut {ds : List D} {xs : List V} (q : Rps G T H ds xs) (lo hi : Option Int) : Rps G T H (Pd.cut ds lo hi) (cutV xs lo hi) := by
  unfold Pd.cut cutV
  rw [q.length]
  exact (q.drop _).take _
def gSl : D → Option Int → Option Int → Option Out
  | .lst ds, lo, hi => some (.new (.lst (cut ds lo hi)))
  | .scr ns, lo, hi => some (.new (.lst ((cut ns lo hi).map .int)))
  | .tup ds, lo, hi => some (.val (.tup (cut ds lo hi)))
  | .str s, lo, hi => some (.val (.str (cutS s lo hi)))
  | _, _, _ => none
def part : Option DEn → (Option Int → DEn) → DEn
  | none, k => k none
  | some h, k => bindR h fun r => match r with
    | .val (.int i) => k (some i)
    | _ => fun _ => none
def cSl (g : D → Option Int → Option Int → Option Out) (f : DEn) (lo hi : Option DEn) : DEn := bindR f fun r => part lo fun l => part hi fun u env => match peek r env with
  | some d => done (g d l u) env
  | none => none
def DP (G : Gc) (X : Cx) (W : WX) (e : Option Expr) (h : Option DEn) : Prop := ∃ t, PO X e t ∧ ∀ T0 env al σ H k Q Qv, At G W (part h k) T0 env al σ H Q → (∀ T1 env1 H1 i, Go T0 T1 env env1 al al H H1 → RepE G T1 env1 al σ H1 → At G W (k i) T1 env1 al σ H1 Q → Qv i H1) → t σ H Qv
theorem dp_none : DP G X W none none := ⟨_, po_none, fun T0 env al σ H k Q Qv A c => c T0 env H none Go.refl A.choose_spec.choose_spec.1 A⟩
theorem dp_some (he : DE G X W e h) : DP G X W (some e) (some h) := ⟨_, po_some he, fun T0 env al σ H k Q Qv A c => At.bind A fun T1 env1 H1 r1 v1 g R1 o1 A1 => by
  cases r1 with
  | val d =>
    cases d with
    | int i => cases o1; exact ⟨i, rfl, c T1 env1 H1 (some i) g R1 A1⟩
    | _ => obtain ⟨_, _, _, e, _⟩ := A1; cases e
  | _ => obtain ⟨_, _, _, e, _⟩ := A1; cases e⟩
def RSok (G : Gc) (r : V → Option Int → Option Int → Hp → VK → Prop) (g : D → Option Int → Option Int → Option Out) : Prop := ∀ T H v d lo hi o, (∀ a, T a → H a ≠ none) → RepB G T H d v → g d lo hi = some o → ∀ Q, PP G T H o Q → r v lo hi H Q
theorem de_slice {r : V → Option Int → Option Int → Hp → VK → Prop} {g : D → Option Int → Option Int → Option Out} {lo hi : Option Expr} {tl th : Option DEn} {p2 : Pos} (hr : SlR X r) (hg : RSok G r g) (he : DE G X W e f) (hl : DP G X W lo tl) (hh : DP G X W hi th) :
    DE G X W (.Subscript e (.Slice lo hi none p2) pos) (cSl g f tl th) := by
  obtain ⟨t1, p1, q1⟩ := hl
  obtain ⟨t2, p2, q2⟩ := hh
  exact DE.of (pe_slice hr he p1 p2) fun σ H Q ⟨T0, env, al, A⟩ => At.bind A fun T1 env1 H1 r1 v1 g1 R1 o1 A1 =>
    q1 _ _ _ _ _ _ _ _ A1 fun T2 env2 H2 l g2 R2 A2 => q2 _ _ _ _ _ _ _ _ A2 fun T3 env3 H3 u g3 R3 A3 => by
      have o1' := (o1.stay g2 R1 R2).stay g3 R2 R3
      obtain ⟨rr, env', _, e, p⟩ := A3
      cases ep : peek r1 env3 with
      | none => simp only [ep] at e; cases e
      | some d =>
        simp only [ep] at e
        obtain ⟨o, eo, pp⟩ := At.done (o := g d l u) ⟨rr, env', R3, e, p⟩
        exact hg _ _ _ _ _ _ _ (fun a z => R3.tt z) (peek_ok R3 o1' ep) eo _ pp
abbrev rSlAny (K : PySem.W.Frag) : V → Option Int → Option Int → Hp → VK → Prop := fun x lo hi H Q => rSlL K x lo hi H Q ∨ (rSlA K x lo hi H Q ∨ rSlS x lo hi H Q)
theorem sl_any : SlR X (rSlAny X.K) := sl_list.or (sl_tupA.or sl_str)
theorem cutS_ok {s : Str} (h : sOk s = true) (lo hi : Option Int) : sOk (cutS s lo hi) = true := by
  unfold sOk at h ⊢
  rw [Bool.and_eq_true_iff] at h ⊢
  have hl := of_decide_eq_true h.1
  refine ⟨decide_eq_true ?_, ?_⟩
  · show (cutS s lo hi).cps.size ≤ LIM
    unfold cutS
    rw [List.size_toArray, List.length_take, List.length_drop]
    have : s.cps.toList.length = s.length := rfl
    omega
  · unfold cutS
    rw [← Array.all_toList] at h ⊢
    show List.all (List.take _ _) _ = true
    rw [List.all_eq_true]
    intro c hc
    exact List.all_eq_true.mp h.2 c (List.mem_of_mem_drop (List.mem_of_mem_take hc))
theorem cut_whole {α : Type} {xs : List α} {lo hi : Option Int} (h : HT.sIx xs.length 0 lo = 0 ∧ HT.sIx xs.length xs.length hi = xs.length) : cut xs lo hi = xs := by
  unfold cut
  rw [h.1, h.2, List.drop_zero, Nat.sub_zero, List.take_length]
theorem rs_any : RSok G (rSlAny G.K) gSl := fun T H v d lo hi o ht h1 e Q p => by
  cases d <;> first | (cases e; done) | skip
  · cases e
    obtain ⟨rfl, l⟩ := h1.str
    exact .inr (.inr ⟨_, rfl, lim_line (sOk_len l), p.val ⟨rfl, cutS_ok l lo hi⟩⟩)
  · cases e
    obtain ⟨a, xs, rfl, r, l, q⟩ := h1.tup
    refine .inr (.inl ⟨a, xs, rfl, r.sq, fun w => ?_, fun w z n => p.tup ht n (Nat.le_trans (cut_len _ _ _) l) (q.cut lo hi)⟩)
    rw [cut_whole (by rw [q.length]; exact w)] at p
    exact p.val (by unfold Rp; exact ⟨a, xs, rfl, r, l, q⟩)
  · cases e
    obtain ⟨a, xs, rfl, r, l, q⟩ := h1.seqL
    exact .inl ⟨a, xs, rfl, SqL.of r, fun z n => p.lst n (Nat.le_trans (cut_len _ _ _) l) (q.cut lo hi)⟩
  · rename_i ns
    cases e
    obtain ⟨a, rfl, r, l⟩ := h1.scr
    refine .inl ⟨a, _, rfl, r.sq, fun z n => p.lst n (by rw [List.length_map]; exact Nat.le_trans (cut_len _ _ _) l) ?_⟩
    have : ∀ ns : List Int, Rps G T H (ns.map .int) (ns.map V.int) := fun ns => by
      induction ns with
      | nil => exact Rps.nil
      | cons n ns ih => exact Rps.cons rfl ih
    have e2 : cutV (List.map V.int ns) lo hi = List.map V.int (cut ns lo hi) := by
      unfold cutV cut
      rw [List.length_map, ← List.map_drop, ← List.map_take]
    rw [e2]
    exact this _
/-! ### in -/
def anyEq (d : D) (ds : List D) : Option Bool := match d.py, D.pys ds with
  | some p, some ps => if p.depth ≤ 64 ∧ PyData.depthAll ps ≤ 63 then some (ps.any fun z => PyData.eqv z p) else none
  | _, _ => none
def inD (d e : D) : Option Bool := match e with
  | .lst ds => anyEq d ds
  | .tup ds => anyEq d ds
  | .str t => match d with
    | .str s => if s.length = 1 then some (decide ((s.cps.toList.headD 0) ∈ t.cps.toList)) else none
    | _ => none
  | _ => none
def rInA (K : PySem.W.Frag) (n : Bool) : R2 := fun x y H Q => ∃ d e b, Dp K H x d ∧ Dp K H y e ∧ SeqAt.shaped d = true ∧ SeqAt.shaped e = true ∧ ((∃ ds, (e = .list ds ∨ e = .tuple ds) ∧ b = ds.any fun z => PyData.eqv z d)) ∧ Q (.bl (if n then !b else b)) H
theorem op_inA (hu : X.A.units + 65 < cLine) : OpR X (compareOp .In) (rInA X.K false) := by
  intro pins s σ H x y v u Q I rx ry ⟨d, e, b, hd, he, sd, se, ⟨ds, ee, eb⟩, q⟩
  obtain ⟨as, r1⟩ := Dp.reads I d x v hd rx
  obtain ⟨bs, r2⟩ := Dp.reads I e y u he ry
  subst eb
  rcases ee with rfl | rfl
  · exact SeqAt.in_list_reads r2 r1 (SeqAt.canLay_of_shaped se) (SeqAt.canLay_of_shaped sd) (room_in_shaped sd hu) ⟨.bl _, H, I, rfl, q⟩
  · exact SeqAt.in_tuple_reads r2 r1 (SeqAt.canLay_of_shaped se) (SeqAt.canLay_of_shaped sd) (room_in_shaped sd hu) ⟨.bl _, H, I, rfl, q⟩
theorem op_niA (hu : X.A.units + 65 < cLine) : OpR X (compareOp .NotIn) (rInA X.K true) := by
  intro pins s σ H x y v u Q I rx ry ⟨d, e, b, hd, he, sd, se, ⟨ds, ee, eb⟩, q⟩
  obtain ⟨as, r1⟩ := Dp.reads I d x v hd rx
  obtain ⟨bs, r2⟩ := Dp.reads I e y u he ry
  subst eb
  rcases ee with rfl | rfl
  · exact SeqAt.notIn_list_reads r2 r1 (SeqAt.canLay_of_shaped se) (SeqAt.canLay_of_shaped sd) (room_in_shaped sd hu) ⟨.bl _, H, I, rfl, q⟩
  · exact SeqAt.notIn_tuple_reads r2 r1 (SeqAt.canLay_of_shaped se) (SeqAt.canLay_of_shaped sd) (room_in_shaped sd hu) ⟨.bl _, H, I, rfl, q⟩
abbrev rInS (n : Bool) : R2 := fun x y H Q => ∃ c z, x = .str ⟨#[c]⟩ ∧ y = .str z ∧ Q (.bl (if n then !decide (c ∈ z.cps.toList) else decide (c ∈ z.cps.toList))) H
theorem op_in (hu : X.A.units + 65 < cLine) : OpR X (compareOp .In) (fun x y H Q => rInA X.K false x y H Q ∨ rInS false x y H Q) := (op_inA hu).or op_in_sign
theorem op_ni (hu : X.A.units + 65 < cLine) : OpR X (compareOp .NotIn) (fun x y H Q => rInA X.K true x y H Q ∨ rInS true x y H Q) := (op_niA hu).or op_notIn_sign
def gIn (n : Bool) (d e : D) : Option Out := (inD d e).map fun b => .val (.bl (if n then !b else b))
theorem str_one {s : Str} (h : s.length = 1) : s = ⟨#[s.cps.toList.headD 0]⟩ := by
  obtain ⟨⟨l⟩⟩ := s
  have h : l.length = 1 := h
  match l, h with
  | [c], _ => rfl
theorem r2_in (n : Bool) : R2ok G (fun x y H Q => rInA G.K n x y H Q ∨ rInS n x y H Q) (gIn n) := fun T H v1 v2 d1 d2 o ht h1 h2 e Q p => by
  obtain ⟨b, e1, rfl⟩ := Option.map_eq_some_iff.mp e
  unfold inD at e1
  have seq : ∀ ds, anyEq d1 ds = some b → (d2 = .lst ds ∨ d2 = .tup ds) → rInA G.K n v1 v2 H Q := fun ds ea ed => by
    unfold anyEq at ea
    cases ep : d1.py with
    | none => simp only [ep] at ea; cases ea
    | some pd =>
      cases eq : D.pys ds with
      | none => simp only [ep, eq] at ea; cases ea
      | some ps =>
        simp only [ep, eq] at ea
        split at ea
        · rename_i hd
          cases ea
          obtain ⟨a1, a2⟩ := h1.dp ep
          have hs1 : SeqAt.shaped pd = true := by unfold SeqAt.shaped; rw [a2, decide_eq_true hd.1]; rfl
          rcases ed with rfl | rfl
          · obtain ⟨b1, b2⟩ := h2.dp (p := .list ps) (by unfold D.py; rw [eq]; rfl)
            exact ⟨pd, .list ps, _, a1, b1, hs1, by unfold SeqAt.shaped; rw [b2]; exact decide_eq_true (by unfold PyData.depth; omega), ⟨ps, .inl rfl, rfl⟩, p.val rfl⟩
          · obtain ⟨b1, b2⟩ := h2.dp (p := .tuple ps) (by unfold D.py; rw [eq]; rfl)
            exact ⟨pd, .tuple ps, _, a1, b1, hs1, by unfold SeqAt.shaped; rw [b2]; exact decide_eq_true (by unfold PyData.depth; omega), ⟨ps, .inr rfl, rfl⟩, p.val rfl⟩
        · cases ea
  cases d2 <;> first | (cases e1; done) | skip
  · cases d1 <;> first | (cases e1; done) | skip
    simp only at e1
    split at e1
    · rename_i h1'
      cases e1
      obtain ⟨rfl, l1⟩ := h1.str
      obtain ⟨rfl, l2⟩ := h2.str
      exact .inr ⟨_, _, congrArg V.str (str_one h1'), rfl, p.val rfl⟩
    · cases e1
  · exact .inl (seq _ e1 (.inr rfl))
  · exact .inl (seq _ e1 (.inl rfl))
/-! ### is None, is True, is False -/
def gIsN (d e : D) : Option Out := match e with
  | .non => match d with
    | .non => vB true
    | _ => vB false
  | _ => none
def gNotN (d e : D) : Option Out := match e with
  | .non => match d with
    | .non => vB false
    | _ => vB true
  | _ => none
theorem rp_non {d : D} {v : V} (h : RepB G T H d v) : decide (v = .non) = (match d with | .non => true | _ => false) := by
  rcases h with h | ⟨a, o, rfl, rfl, h⟩
  · cases d <;> first | (unfold Rp at h) | skip
    all_goals first
      | (subst h; rfl)
      | (obtain ⟨rfl, _⟩ := h; rfl)
      | (obtain ⟨a, xs, rfl, _⟩ := h; rfl)
      | (obtain ⟨a, dx, xs, rfl, _⟩ := h; rfl)
      | (obtain ⟨a, rfl, _⟩ := h; rfl)
      | exact h.elim
  · cases o <;> rfl
theorem r2_isN : R2ok G (fun x y H Q => y = .non ∧ Q (.bl (decide (x = .non))) H) gIsN := fun T H v1 v2 d1 d2 o ht h1 h2 e Q p => by
  cases d2 <;> first | (cases e; done) | skip
  refine ⟨h2.non, ?_⟩
  rw [rp_non h1]
  cases d1 <;> (cases e; exact p.val rfl)
theorem r2_notN : R2ok G (fun x y H Q => y = .non ∧ Q (.bl (!decide (x = .non))) H) gNotN := fun T H v1 v2 d1 d2 o ht h1 h2 e Q p => by
  cases d2 <;> first | (cases e; done) | skip
  refine ⟨h2.non, ?_⟩
  rw [rp_non h1]
  cases d1 <;> (cases e; exact p.val rfl)
end
end Pd

namespace Pd
open PySem PySem.Spec PyProof.Rows L2
def tags : List String := ["NoneType", "bool", "int", "str", "tuple", "list", "dict"]
def asked : List String := ["bool", "int", "str", "tuple", "list", "dict"]
theorem kit_tab : tags.all (fun a => asked.all fun b => decide (kitB a b = some (a == b || (a == "bool" && b == "int")))) = true := by decide +kernel
/-- what the top knows of the own classes -/
structure ClsOk (K : PySem.W.Frag) (C : Addr) : Prop where
  cl : Cls K C
  ha : PySem.W.findIn K (.ref C) "__class__" = some (some (.builtin "object.__class__"))
  hn : PySem.W.specialIn K (.builtin "object.__class__") "__get__" = some (some (.builtin "getset_descriptor.__get__"))
  ht : PySem.W.takesIn K (.builtin "object.__class__") = some true
  hm : PySem.W.mroIn K C (.type "object") = some true
structure Gok (G : Gc) : Prop where
  ok : ∀ c, c < G.many → ClsOk G.K (G.cls c)
  insTy : ∀ c, c < G.many → ∀ b, b ∈ asked → PySem.W.kitOne G.K (.ref (G.cls c)) (.type b) = some false
  tyIns : ∀ c, c < G.many → ∀ a, a ∈ tags → PySem.W.kitOne G.K (.type a) (.ref (G.cls c)) = some false
  insIns : ∀ c c', c < G.many → c' < G.many → PySem.W.kitOne G.K (.ref (G.cls c)) (.ref (G.cls c')) = some (decide (c = c'))
section
variable {G : Gc} {X : Cx} {W : WX} {T T0 T1 T2 : Addr → Prop} {env env0 env1 env2 env' : Sv} {al al1 al2 : Nat → Addr} {σ : L2.St} {H0 H H1 H2 : Hp} {Q Q1 : VK} {f h : DEn} {k : Out → DEn} {pos : Pos} {e e1 e2 e3 : Expr} {es : List Expr} {ks : List AK}
/-! ### isinstance -/
def tag : D → Option String
  | .non => some "NoneType"
  | .bl _ => some "bool"
  | .int _ => some "int"
  | .str _ => some "str"
  | .tup _ => some "tuple"
  | .lst _ => some "list"
  | .scr _ => some "list"
  | .dic _ _ => some "dict"
  | .dit _ _ => some "dict"
  | _ => none
theorem tag_mem {d : D} {t : String} (h : tag d = some t) : t ∈ tags := by
  cases d <;> first | (cases h; done) | (cases h; decide)
theorem rd_or {a : Addr} {u : HO} (h : Rd H a u) : H a = some u ∨ ∃ o, H a = some (.frz o u) := h
theorem tyx_of {d : D} {v : V} {t : String} (h : RepB G T H d v) (e : tag d = some t) : TyX G.K H v (.type t) := by
  cases d <;> first | (cases e; done) | (cases e)
  · cases h.non; exact .base .non
  · cases h.bl; exact .base (.bl _)
  · cases h.int; exact .base (.int _)
  · obtain ⟨rfl, _⟩ := h.str; exact .base (.str _)
  · obtain ⟨a, xs, rfl, r, _⟩ := h.tup
    rcases r.sq with (r | ⟨o, r⟩) | ⟨o, _, _, l, c, _⟩
    · exact .base (.tup r)
    · exact .fTuple r
    · exact .kTuple l c
  · obtain ⟨a, xs, rfl, r, _⟩ := h.seqL
    exact .base (.lst r)
  · obtain ⟨a, xs, rfl, r, _⟩ := h.dic
    exact .base (.dK r)
  · rcases h with h | ⟨a, o, rfl, e, h⟩
    · unfold Rp at h
      obtain ⟨a, xs, rfl, _, r, _⟩ := h
      exact .base (.dT r)
    · cases o with
      | dit ks' ds' =>
        cases e
        obtain ⟨xs, r, _⟩ := h
        exact .base (.dT r)
      | _ => cases e
  · obtain ⟨a, rfl, r, _⟩ := h.scr
    rcases r.sq with (r | ⟨o, r⟩) | ⟨o, _, _, l, c, _⟩
    · exact .base (.lst r)
    · exact .base (.frz r)
    · exact .kList l c
def isiOne (many : Nat) (d : D) : D → Option Bool
  | .ty n => if n ∈ asked then (match d with
    | .ins c _ => if c < many then some false else none
    | d => (tag d).map fun t => t == n || (t == "bool" && n == "int")) else none
  | .cls c' => if c' < many then (match d with
    | .ins c _ => if c < many then some (decide (c = c')) else none
    | d => (tag d).map fun _ => false) else none
  | _ => none
theorem isi_ok (g : Gok G) {d c : D} {v w : V} {b : Bool} (h1 : RepB G T H d v) (h2 : Rp G T H c w) (e : isiOne G.many d c = some b) : ∃ t u, ClsV w u ∧ TyX G.K H v t ∧ PySem.W.kitOne G.K t u = some b := by
  have ins : ∀ c0 ds, d = .ins c0 ds → c0 < G.many → TyX G.K H v (.ref (G.cls c0)) := fun c0 ds ed hc => by
    subst ed
    obtain ⟨a, dx, xs, rfl, r, _⟩ := h1.ins
    have k := g.ok c0 hc
    exact .base (.ins r k.cl k.ha k.hn k.ht k.hm)
  cases c <;> first | (cases e; done) | skip
  · rename_i n
    cases h2
    simp only [isiOne] at e
    split at e
    · rename_i hn
      refine (?_ : ∃ t u, _)
      by_cases hi : ∃ c0 ds, d = .ins c0 ds
      · obtain ⟨c0, ds, rfl⟩ := hi
        simp only at e
        split at e
        · rename_i hc
          cases e
          exact ⟨_, _, .ty n, ins c0 ds rfl hc, g.insTy c0 hc n hn⟩
        · cases e
      · have e' : (tag d).map (fun t => t == n || (t == "bool" && n == "int")) = some b := by
          cases d <;> first | exact e | exact absurd ⟨_, _, rfl⟩ hi
        obtain ⟨t, et, rfl⟩ := Option.map_eq_some_iff.mp e'
        have := of_decide_eq_true (List.all_eq_true.mp (List.all_eq_true.mp kit_tab t (tag_mem et)) n hn)
        exact ⟨_, _, .ty n, tyx_of h1 et, kit_ty this⟩
    · cases e
  · rename_i c'
    cases h2
    simp only [isiOne] at e
    split at e
    · rename_i hc'
      by_cases hi : ∃ c0 ds, d = .ins c0 ds
      · obtain ⟨c0, ds, rfl⟩ := hi
        simp only at e
        split at e
        · rename_i hc
          cases e
          exact ⟨_, _, .own _, ins c0 ds rfl hc, g.insIns c0 c' hc hc'⟩
        · cases e
      · have e' : (tag d).map (fun _ => false) = some b := by
          cases d <;> first | exact e | exact absurd ⟨_, _, rfl⟩ hi
        obtain ⟨t, et, rfl⟩ := Option.map_eq_some_iff.mp e'
        exact ⟨_, _, .own _, tyx_of h1 et, g.tyIns c' hc' t (tag_mem et)⟩
    · cases e
def gIsi (many : Nat) : List D → Option Out
  | [d, c] => (isiOne many d c).map fun b => .val (.bl b)
  | _ => none
theorem rc_isi (g : Gok G) : RCok G (rIsi G.K) (gIsi G.many) := fun T H vs ds o ht h e Q p => by
  unfold gIsi at e
  split at e
  · rename_i d c
    obtain ⟨v, w, rfl, h1, h2⟩ := h.two
    obtain ⟨b, eb, rfl⟩ := Option.map_eq_some_iff.mp e
    have h2' : Rp G T H c w := h2.rp fun o => by
      cases o <;> (rintro rfl; cases eb)
    obtain ⟨t, u, a1, a2, a3⟩ := isi_ok g h1 h2' eb
    exact ⟨v, w, t, u, b, rfl, a1, a2, a3, p.val rfl⟩
  · cases e
theorem de_ty {x : Str} {n : String} {p : Pos} (hg : Gl X x) (hm : X.mg x = none) (hv : bootBuiltins x = some (.type n)) (hn : x ≠ "__name__" := by decide) (hd : (x == ("__debug__" : Str)) = false := by decide) : DE G X W (.Name x p) (cC (.ty n)) :=
  de_tC (pe_bltn hg hm hv (v := .ty n) rfl hn hd) fun _ _ => rfl
theorem de_cls {x : Str} {c : Nat} {p : Pos} (hg : Gl X x) (hm : X.mg x = some (.ref (G.cls c))) (hd : (x == ("__debug__" : Str)) = false := by decide) : DE G X W (.Name x p) (cC (.cls c)) :=
  de_tC (pe_glob hg hm (v := .ref (G.cls c)) rfl hd) fun _ _ => rfl
/-! ### repr, str -/
def okS (s : Str) : Bool := s.cps.all (· < 0x110000)
theorem okS_iff {s : Str} : okS s = true ↔ ∀ c ∈ s.cps.toList, c < 0x110000 := by
  unfold okS
  rw [← Array.all_toList, List.all_eq_true]
  exact ⟨fun h c hc => of_decide_eq_true (h c hc), fun h c hc => decide_eq_true (h c hc)⟩
theorem okS_app {a b : Str} (h1 : okS a = true) (h2 : okS b = true) : okS (a ++ b) = true := by
  unfold okS at *
  show (a.cps ++ b.cps).all _ = true
  rw [Array.all_append, h1, h2]
  rfl
theorem hexes {w c : Nat} : ∀ d ∈ List.replicate w 48 ++ (Nat.toDigits 16 c).map Char.toNat, d < 0x110000 := fun d hd => by
  rcases List.mem_append.mp hd with hd | hd
  · rw [(List.mem_replicate.mp hd).2]; decide
  · obtain ⟨ch, _, rfl⟩ := List.mem_map.mp hd
    have := ch.valid
    rcases this with h | h
    · show ch.val.toNat < _
      have := UInt32.lt_iff_toNat_lt.mp (show ch.val < 0xd800 from h)
      omega
    · show ch.val.toNat < _
      have h2 : ch.val.toNat < 0x110000 := h.2
      exact h2
theorem reprChar_ok {q c : Nat} (hc : c < 0x110000) : ∀ d ∈ Builtin.Str.reprChar q c, d < 0x110000 := by
  have two : ∀ a b : Nat, a < 0x110000 → b < 0x110000 → ∀ d ∈ [a, b], d < 0x110000 := fun a b ha hb d hd => by
    simp only [List.mem_cons, List.not_mem_nil, or_false] at hd
    rcases hd with rfl | rfl <;> assumption
  unfold Builtin.Str.reprChar
  dsimp only
  split
  · exact two _ _ (by decide) hc
  split
  · exact two _ _ (by decide) (by decide)
  split
  · exact two _ _ (by decide) (by decide)
  split
  · exact two _ _ (by decide) (by decide)
  split
  · intro d hd
    rw [List.mem_singleton.mp hd]
    exact hc
  split
  · intro d hd
    rcases List.mem_append.mp hd with hd | hd
    · exact two _ _ (by decide) (by decide) d hd
    · exact hexes d hd
  split
  · intro d hd
    rcases List.mem_append.mp hd with hd | hd
    · exact two _ _ (by decide) (by decide) d hd
    · exact hexes d hd
  · intro d hd
    rcases List.mem_append.mp hd with hd | hd
    · exact two _ _ (by decide) (by decide) d hd
    · exact hexes d hd
theorem okS_quote (x : Str) : reprQuote x < 0x110000 := by
  unfold reprQuote
  split <;> decide
theorem okS_repr {x : Str} (h : okS x = true) : okS (reprText x) = true := by
  rw [okS_iff] at h ⊢
  unfold reprText
  have fold : ∀ (l : List Nat) (acc : Array Nat), (∀ c ∈ l, c < 0x110000) → (∀ c ∈ acc.toList, c < 0x110000) → ∀ c ∈ (l.foldl (fun out c => out ++ (Builtin.Str.reprChar (reprQuote x) c).toArray) acc).toList, c < 0x110000 := fun l => by
    induction l with
    | nil => exact fun acc _ h => h
    | cons d l ih =>
      intro acc h1 h2
      refine ih _ (fun c hc => h1 c (List.mem_cons_of_mem _ hc)) fun c hc => ?_
      rw [Array.toList_append] at hc
      rcases List.mem_append.mp hc with hc | hc
      · exact h2 c hc
      · exact reprChar_ok (h1 d List.mem_cons_self) c hc
  intro c hc
  rw [Array.toList_push, ← Array.foldl_toList] at hc
  rcases List.mem_append.mp hc with hc | hc
  · exact fold _ _ h (fun c hc => by rw [List.mem_singleton.mp hc]; exact okS_quote x) c hc
  · rw [List.mem_singleton.mp hc]; exact okS_quote x
theorem okS_of (s : String) : okS (Str.ofString s) = true := by
  rw [okS_iff, Str.ofString_eq_toList]
  intro c hc
  obtain ⟨ch, _, rfl⟩ := List.mem_map.mp (by simpa using hc)
  rcases ch.valid with h | h
  · show ch.val.toNat < _
    have := UInt32.lt_iff_toNat_lt.mp (show ch.val < 0xd800 from h)
    omega
  · exact h.2
theorem okS_textFrom : ∀ (ts : List Str) (k : Nat) (acc : Str), okS acc = true → (∀ t ∈ ts, okS t = true) → okS (textFrom k acc ts) = true
  | [], _, _, h, _ => h
  | t :: ts, k, acc, h, q => by
    unfold textFrom
    refine okS_textFrom ts _ _ (okS_app (okS_app h ?_) (q t List.mem_cons_self)) fun u hu => q u (List.mem_cons_of_mem _ hu)
    split <;> exact okS_of _
theorem okS_join (sep : Str) (hs : okS sep = true) : ∀ (ts : List Str), (∀ t ∈ ts, okS t = true) → okS (Str.join sep ts) = true
  | [], _ => by unfold Str.join; decide +kernel
  | [x], q => q x List.mem_cons_self
  | x :: y :: r, q => by
    unfold Str.join
    exact okS_app (okS_app (q x List.mem_cons_self) hs) (okS_join sep hs (y :: r) fun t ht => q t (List.mem_cons_of_mem _ ht))
mutual
theorem okS_shown : ∀ p : PyData, p.canLay0 = true → okS p.shown = true
  | .none, _ => okS_of _
  | .bool b, _ => by cases b <;> exact okS_of _
  | .int i, _ => okS_of _
  | .str x, h => okS_repr (by unfold PyData.canLay0 at h; exact h)
  | .list xs, h => by
    unfold PyData.canLay0 at h
    show okS (listText _) = true
    unfold listText
    exact okS_app (okS_textFrom _ _ _ (okS_of _) (okS_showns xs h)) (okS_of _)
  | .tuple xs, h => by
    unfold PyData.canLay0 at h
    show okS (tupleText _) = true
    unfold tupleText
    refine okS_app (okS_app (okS_of _) (okS_join _ (okS_of _) _ (okS_showns xs h))) ?_
    exact okS_of _
  | .dict _, h => by unfold PyData.canLay0 at h; cases h
theorem okS_showns : ∀ ps : List PyData, PyData.canLayAll0 ps = true → ∀ t ∈ PyData.shownAll ps, okS t = true
  | [], _, _, h => nomatch h
  | p :: ps, h, t, ht => by
    unfold PyData.canLayAll0 at h
    rw [Bool.and_eq_true_iff] at h
    rcases List.mem_cons.mp ht with rfl | ht
    · exact okS_shown p h.1
    · exact okS_showns ps h.2 t ht
end
def fitsR (p : PyData) : Bool := (decide (p.weight ≤ 2 ^ 20) && PyData.intsShort 13 p) || (decide (p.weight ≤ 20000) && PyData.intsShort 700 p)
theorem fitsR_ok {p : PyData} (hc : p.canLay0 = true) (hd : p.depth ≤ 60) (h : fitsR p = true) : p.shown.length ≤ LIM := by
  unfold fitsR at h
  rcases Bool.or_eq_true_iff.mp h with h | h
  · rw [Bool.and_eq_true_iff] at h
    have := PyData.shown_le_of_layable0 (d := p) (by unfold PyData.layable0; rw [hc, decide_eq_true (show p.depth ≤ 64 by omega), h.1]; rfl) h.2
    show _ ≤ 15800000
    omega
  · rw [Bool.and_eq_true_iff] at h
    have h1 := of_decide_eq_true h.1
    have := PyData.shown_le 700 (by decide) p (PyData.leavesShort_of_canLay0 700 p hc h.2)
    show _ ≤ 15800000
    omega
def shownD (d : D) : Option Str := match d.py with
  | some p => if p.depth ≤ 60 ∧ p.showable = true ∧ fitsR p = true then some p.shown else none
  | none => none
def rReprD (K : PySem.W.Frag) : List V → Hp → VK → Prop := fun xs H Q => ∃ v p, xs = [v] ∧ Dp K H v p ∧ p.canLay0 = true ∧ p.depth ≤ 60 ∧ p.showable = true ∧ p.shown.length ≤ sizeLine ∧ Q (.str p.shown) H
theorem call_reprD (hg : X.A.guards = some []) (hu : X.A.units + 64 < cLine) : CallR X (.builtin "repr") (rReprD X.K) := by
  intro pins s σ H xs us Q I r h
  obtain ⟨v, p, rfl, hd, hc, hz, hs, hl, q⟩ := h
  obtain ⟨u, rfl, ru⟩ := vals1 r
  have ref : ∀ a, u = .ref a → wpAny (model X.prog X.w) X.A (call (.builtin "repr") [u]) (EP X pins σ Q) X.xe s := fun a e => by
    obtain ⟨as, rd⟩ := Dp.reads I p v u hd ru
    subst e
    exact repr_of_reads' rd hs (fun z => absurd z (by rw [PyData.hasDict_of_canLay p hc]; decide)) hg (by omega) (fun _ _ e => e) (fun h' t tk k => ⟨.str p.shown, H, I.kept k, ⟨t, rfl⟩, q⟩) hl
  cases hd with
  | non => cases ru; exact PySem.P.repr_of_none ⟨.str _, H, I.tok _, ⟨_, rfl⟩, q⟩
  | bl b =>
    cases ru
    refine PySem.P.repr_of_bool ⟨.str (PyData.shown (.bool b)), H, I.tok _, ⟨s.toks, ?_⟩, q⟩
    unfold PyData.shown
    cases b <;> rfl
  | int i => obtain ⟨t, rfl⟩ := ru; exact PySem.P.repr_of_int (by simpa [PyData.showable] using hs) ⟨.str _, H, I.tok _, ⟨_, rfl⟩, q⟩
  | str x => obtain ⟨t, rfl⟩ := ru; exact PySem.P.repr_of_str ⟨.str _, H, I.tok _, ⟨_, rfl⟩, q⟩ hl
  | lst a b => exact ref _ ru
  | tup a b => exact ref _ ru
def gRepr : List D → Option Out
  | [d] => (shownD d).map fun s => .val (.str s)
  | _ => none
theorem rc_repr : RCok G (rReprD G.K) gRepr := fun T H vs ds o ht h e Q p => by
  match ds, e with
  | [d], e =>
    obtain ⟨v, rfl, hv⟩ := h.one
    obtain ⟨s, es, rfl⟩ := Option.map_eq_some_iff.mp e
    unfold shownD at es
    cases ep : d.py with
    | none => rw [ep] at es; cases es
    | some q =>
      rw [ep] at es
      simp only at es
      split at es
      · rename_i hc
        cases es
        obtain ⟨a1, a2⟩ := hv.dp ep
        have hl := fitsR_ok a2 hc.1 hc.2.2
        refine ⟨v, q, rfl, a1, a2, hc.1, hc.2.1, lim_line hl, p.val ⟨rfl, ?_⟩⟩
        unfold sOk
        rw [decide_eq_true hl]
        exact okS_shown q a2
      · cases es
/-! str of an int, of a text -/
def natS (i : Int) : Str := Str.ofString (toString i)
def gStr : List D → Option Out
  | [.int i] => if i.natAbs.log2 < 1920 ∧ (natS i).length ≤ LIM then some (.val (.str (natS i))) else none
  | [.str s] => some (.val (.str s))
  | _ => none
theorem rc_str : RCok G (fun xs H Q => (∃ i, xs = [.int i] ∧ i.natAbs.log2 < 1920 ∧ Q (.str (natS i)) H) ∨ ∃ a, xs = [.str a] ∧ Q (.str a) H) gStr := fun T H vs ds o ht h e Q p => by
  unfold gStr at e
  split at e
  · split at e
    · rename_i hc
      obtain ⟨v, rfl, h1⟩ := h.one
      cases h1.int; cases e
      refine .inl ⟨_, rfl, hc.1, p.val ⟨rfl, ?_⟩⟩
      unfold sOk
      rw [decide_eq_true hc.2]
      exact okS_of _
    · cases e
  · obtain ⟨v, rfl, h1⟩ := h.one
    obtain ⟨rfl, l⟩ := h1.str
    cases e
    exact .inr ⟨_, rfl, p.val ⟨rfl, l⟩⟩
  · cases e
theorem call_strA : CallR X (.type "str") (fun xs H Q => (∃ i, xs = [.int i] ∧ i.natAbs.log2 < 1920 ∧ Q (.str (natS i)) H) ∨ ∃ a, xs = [.str a] ∧ Q (.str a) H) := by
  intro pins s σ H xs us Q I r h
  rcases h with h | ⟨a, rfl, q⟩
  · exact call_str_int pins s σ H xs us Q I r h
  · obtain ⟨u, rfl, t, rfl⟩ := vals1 r
    exact PySem.P.str_of_str ⟨.str a, H, I, ⟨t, rfl⟩, q⟩
/-! texts joined -/
def strsD : List D → Option (List Str)
  | [] => some []
  | .str s :: ds => (strsD ds).map (s :: ·)
  | _ => none
theorem strs_ok : ∀ {ds : List D} {xs : List V} {ss : List Str}, Rps G T H ds xs → strsD ds = some ss → xs = ss.map V.str ∧ ∀ s ∈ ss, sOk s = true
  | [], xs, ss, h, e => by unfold Rps at h; cases h; cases e; exact ⟨rfl, fun _ h => nomatch h⟩
  | d :: ds, xs, ss, h, e => by
    unfold Rps at h
    obtain ⟨x, r, rfl, hx, hr⟩ := h
    cases d <;> first | (cases e; done) | skip
    obtain ⟨ss', e1, rfl⟩ := Option.map_eq_some_iff.mp e
    obtain ⟨rfl, l⟩ := hx
    obtain ⟨rfl, l2⟩ := strs_ok hr e1
    exact ⟨rfl, fun s hs => (List.mem_cons.mp hs).elim (fun z => z ▸ l) (l2 s)⟩
theorem strs_rps : ∀ {ss : List Str}, (∀ s ∈ ss, sOk s = true) → Rps G T H (ss.map .str) (ss.map V.str)
  | [], _ => Rps.nil
  | s :: ss, h => Rps.cons ⟨rfl, h s List.mem_cons_self⟩ (strs_rps fun t ht => h t (List.mem_cons_of_mem _ ht))
def joinS (sep : Str) (ss : List Str) : Option Out :=
  if (ss.map (·.length)).sum + ss.length * sep.length ≤ LIM then some (.val (.str (Str.join sep ss))) else none
def gJoin (sep : Str) : D → Option Out
  | .lst ds => (strsD ds).bind (joinS sep)
  | .tup ds => (strsD ds).bind (joinS sep)
  | _ => none
theorem join_len (sep : Str) : ∀ ss : List Str, (Str.join sep ss).length ≤ (ss.map (·.length)).sum + ss.length * sep.length
  | [] => Nat.zero_le _
  | [x] => by unfold Str.join; simp
  | x :: y :: r => by
    unfold Str.join
    rw [str_app_len, str_app_len]
    have := join_len sep (y :: r)
    simp only [List.map_cons, List.sum_cons, List.length_cons] at this ⊢
    have : (r.length + 1 + 1) * sep.length = (r.length + 1) * sep.length + sep.length := by rw [Nat.succ_mul]
    omega
theorem sOk_join {sep : Str} {ss : List Str} (h1 : sOk sep = true) (h2 : ∀ s ∈ ss, sOk s = true) (hl : (ss.map (·.length)).sum + ss.length * sep.length ≤ LIM) : sOk (Str.join sep ss) = true := by
  unfold sOk at *
  rw [Bool.and_eq_true_iff] at *
  exact ⟨decide_eq_true (Nat.le_trans (join_len _ _) hl), okS_join sep h1.2 ss fun t ht => ((Bool.and_eq_true_iff.mp (h2 t ht)).2)⟩
/-- a text's method with one argument -/
def cStrM (g : Str → D → Option Out) (f h : DEn) : DEn := bindR f fun r1 => match r1 with
  | .val (.str s) => bindR h fun r2 env => match peek r2 env with
    | some d => done (g s d) env
    | none => none
  | _ => fun _ => none
def RMok (G : Gc) (r : V → List V → Hp → VK → Prop) (g : Str → D → Option Out) : Prop := ∀ T H s v d o, (∀ a, T a → H a ≠ none) → sOk s = true → RepB G T H d v → g s d = some o → ∀ Q, PP G T H o Q → r (.str s) [v] H Q
theorem strM_core {r : V → List V → Hp → VK → Prop} {g : Str → D → Option Out} {ta tb : TE} (hg : RMok G r g) (ha : ∀ σ H Q, tD G W f σ H Q → ta σ H Q) (hb : ∀ σ H Q, tD G W h σ H Q → tb σ H Q) : ∀ σ H Q, tD G W (cStrM g f h) σ H Q → tM1 r ta tb σ H Q :=
  fun σ H Q ⟨T0, env, al, A⟩ => ha _ _ _ <| At.bind A fun T1 env1 H1 r1 v1 g1 R1 o1 A1 => by
    have no : ∀ {P : Prop}, At G W (fun _ => none) T1 env1 al σ H1 Q → P := fun ⟨_, _, _, e, _⟩ => by cases e
    cases r1 with
    | val d =>
      cases d with
      | str s =>
        obtain ⟨rfl, l⟩ := o1
        refine ⟨⟨s, rfl⟩, hb _ _ _ <| At.bind (k := fun r2 env => match peek r2 env with
          | some d => done (g s d) env
          | none => none) A1 fun T2 env2 H2 r2 v2 g2 R2 o2 A2 => ?_⟩
        obtain ⟨rr, env', _, e, p⟩ := A2
        cases ep : peek r2 env2 with
        | none => simp only [ep] at e; cases e
        | some d =>
          simp only [ep] at e
          obtain ⟨u, eu, pp⟩ := At.done (o := g s d) ⟨rr, env', R2, e, p⟩
          exact hg _ _ _ _ _ _ (fun a z => R2.tt z) l (peek_ok R2 o2 ep) eu _ pp
      | _ => exact no A1
    | _ => exact no A1
theorem rm_join : RMok G (fun x xs H Q => ∃ a p, ∃ ys : List Str, x = .str a ∧ xs = [.ref p] ∧ (SqL G.K H p (ys.map V.str) ∨ SqT G.K H p (ys.map V.str)) ∧ (ys.map (·.length)).sum + ys.length * a.length ≤ 16777216 ∧ Q (.str (Txt.join a ys)) H) gJoin := fun T H s v d o ht hs hv e Q p => by
  have fin : ∀ a ss, (SqL G.K H a (ss.map V.str) ∨ SqT G.K H a (ss.map V.str)) → (∀ t ∈ ss, sOk t = true) → joinS s ss = some o → ∃ b p, ∃ ys : List Str, V.str s = .str b ∧ [V.ref a] = [.ref p] ∧ (SqL G.K H p (ys.map V.str) ∨ SqT G.K H p (ys.map V.str)) ∧ (ys.map (·.length)).sum + ys.length * b.length ≤ 16777216 ∧ Q (.str (Txt.join b ys)) H := fun a ss hq ok ej => by
    unfold joinS at ej
    split at ej
    · rename_i hl
      cases ej
      refine ⟨s, a, ss, rfl, rfl, hq, Nat.le_trans hl (by decide), ?_⟩
      have : Txt.join s ss = Str.join s ss := StrLaws.glued_eq_join s ss
      rw [this]
      exact p.val ⟨rfl, sOk_join hs ok hl⟩
    · cases ej
  cases d <;> first | (cases e; done) | skip
  · obtain ⟨ss, es, ej⟩ := Option.bind_eq_some_iff.mp e
    obtain ⟨a, xs, rfl, r, l, q⟩ := hv.tup
    obtain ⟨rfl, ok⟩ := strs_ok q es
    exact fin a ss (.inr r.sq) ok ej
  · obtain ⟨ss, es, ej⟩ := Option.bind_eq_some_iff.mp e
    obtain ⟨a, xs, rfl, r, l, q⟩ := hv.seqL
    obtain ⟨rfl, ok⟩ := strs_ok q es
    exact fin a ss (.inl (SqL.of r)) ok ej
theorem de_join {apos : Pos} (hK : X.K = G.K) (ha : DE G X W e1 f) (hb : DE G X W e2 h) (hs : starEach [e2] X.env = [(false, eval e2 X.env)] := by rfl) (hbase : attributeBase e1 "join" X.env (eval e1 X.env) = eval e1 X.env := by rfl) (hline : (apos.endLine == pos.line) = true := by rfl) :
    DE G X W (.Call (.Attribute e1 "join" apos) [e2] [] pos) (cStrM gJoin f h) :=
  DE.of (pe_join ha hb hs hbase hline) (by rw [hK]; exact strM_core rm_join (fun _ _ _ q => q) (fun _ _ _ q => q))
/-! sorted texts -/
def leS (a b : Str) : Bool := !decide (b.cps.toList < a.cps.toList)
def sortS (l : List Str) : List Str := l.mergeSort leS
theorem leS_iff {a b : Str} : leS a b = true ↔ a.cps.toList ≤ b.cps.toList := by
  unfold leS
  rw [← lt_to_le]
  exact decide_eq_true_iff
theorem leS_trans {a b c : Str} (h1 : leS a b = true) (h2 : leS b c = true) : leS a c = true := by
  rw [leS_iff] at *
  exact List.le_trans h1 h2
theorem leS_total (a b : Str) : (leS a b || leS b a) = true := by
  rw [Bool.or_eq_true, leS_iff, leS_iff]
  exact List.le_total _ _
theorem leS_anti {a b : Str} (h1 : leS a b = true) (h2 : leS b a = true) : a = b := by
  rw [leS_iff] at *
  have := List.le_antisymm h1 h2
  obtain ⟨⟨x⟩⟩ := a
  obtain ⟨⟨y⟩⟩ := b
  simp only at this
  rw [this]
theorem rising_pair : ∀ (l : List Str) (p : Str), risingS p l = true → List.Pairwise (fun a b => leS a b = true) (p :: l)
  | [], p, _ => List.pairwise_singleton _ _
  | x :: r, p, h => by
    unfold risingS at h
    rw [Bool.and_eq_true_iff, ltCps_eq] at h
    have ih := rising_pair r x h.2
    refine List.pairwise_cons.mpr ⟨fun y hy => ?_, ih⟩
    rcases List.mem_cons.mp hy with rfl | hy
    · exact h.1
    · exact leS_trans h.1 ((List.pairwise_cons.mp ih).1 y hy)
theorem sorted_uniq {ys xs : List Str} (hp : ys.Perm xs) (hs : sortedS ys = true) : ys = sortS xs := by
  have h1 : List.Pairwise (fun a b => leS a b = true) ys := by
    cases ys with
    | nil => exact .nil
    | cons y r => exact rising_pair r y hs
  have h2 := List.pairwise_mergeSort (le := leS) (fun a b c => leS_trans) leS_total xs
  exact List.Perm.eq_of_pairwise (fun a b _ _ => leS_anti) h1 h2 (hp.trans (List.mergeSort_perm xs leS).symm)
def gSortS : List D → Option Out
  | [.lst ds] => match strsD ds with
    | some ss => if ss.length < 64 then some (.new (.lst ((sortS ss).map .str))) else none
    | none => none
  | _ => none
theorem rc_sortS : RCok G (rSortedS G.K) gSortS := fun T H vs ds o ht h e Q p => by
  unfold gSortS at e
  split at e
  · obtain ⟨v, rfl, h1⟩ := h.one
    split at e
    · rename_i ss es
      split at e
      · rename_i h64
        cases e
        obtain ⟨a, xs, rfl, r, l, q⟩ := h1.seqL
        obtain ⟨rfl, ok⟩ := strs_ok q es
        refine ⟨a, ss, rfl, SqL.of r, h64, fun ys z hp hs n => ?_⟩
        have ey := sorted_uniq hp hs
        rw [ey]
        refine p.lst n (by rw [List.length_map, ← ey, hp.length_eq]; show _ ≤ 15800000; omega) (strs_rps fun s hs' => ok s (hp.mem_iff.mp (ey ▸ hs')))
      · cases e
    · cases e
  · cases e
/-! a text times a small int -/
def rStrMul : R2 := fun x y H Q => ∃ s n, x = .str s ∧ y = .int n ∧ 0 ≤ n ∧ n ≤ 100 ∧ s.length ≤ 1000 ∧ Q (.str (Txt.mul s n)) H
theorem op_strMul : OpR X (binaryOp .Mult) rStrMul := by
  intro pins s σ H x y v u Q I rx ry ⟨a, n, ex, ey, h0, h1, hl, q⟩
  subst ex ey
  obtain ⟨t, rfl⟩ := rx
  obtain ⟨t', rfl⟩ := ry
  refine PySem.SB.mul ⟨?_, fun _ _ => ?_, fun _ _ => ?_⟩ fun tk k => ⟨.str (Txt.mul a n), H, I.tok k, ⟨tk, rfl⟩, q⟩
  · rw [Bool.or_eq_false_iff]
    exact ⟨decide_eq_false (by omega), decide_eq_false (by omega)⟩
  · have : (a.length : Int) ≤ 1000 := by omega
    have h3 : (2 ^ 63 - 1 : Int) / n ≥ 1000 := by
      have hn : 0 < n := by omega
      rw [ge_iff_le, Int.le_ediv_iff_mul_le hn]
      omega
    omega
  · have h2 : a.length * n.toNat ≤ 1000 * 100 := Nat.mul_le_mul hl (by omega)
    unfold Builtin.Str.tooLong
    exact decide_eq_false (by rw [sizeLine_eq]; omega)
theorem mulS_len (s : Str) (n : Int) : (Txt.mul s n).length ≤ s.length * n.toNat := by
  unfold Txt.mul
  split
  · exact Nat.zero_le _
  split
  · rename_i h1 h2
    have : 1 ≤ n.toNat := by omega
    exact Nat.le_mul_of_pos_right _ this
  · have : ∀ (k : Nat) (acc : Array Nat), ((List.replicate k s.cps).foldl (· ++ ·) acc).size = acc.size + s.cps.size * k := fun k => by
      induction k with
      | zero => intro acc; rfl
      | succ k ih =>
        intro acc
        rw [List.replicate_succ, List.foldl_cons, ih, Array.size_append, Nat.mul_succ]
        omega
    show Array.size _ ≤ _
    rw [this]
    show 0 + s.length * _ ≤ _
    omega
theorem okS_mul {s : Str} (h : okS s = true) (n : Int) : okS (Txt.mul s n) = true := by
  unfold Txt.mul
  split
  · decide +kernel
  split
  · exact h
  · have : ∀ (k : Nat) (acc : Array Nat), okS ⟨acc⟩ = true → okS ⟨(List.replicate k s.cps).foldl (· ++ ·) acc⟩ = true := fun k => by
      induction k with
      | zero => exact fun acc q => q
      | succ k ih =>
        intro acc q
        rw [List.replicate_succ, List.foldl_cons]
        exact ih _ (okS_app (a := ⟨acc⟩) q h)
    exact this _ _ (by decide +kernel)
def gMulA : D → D → Option Out
  | .int i, .int j => if bMul i j then vI (i * j) else none
  | .str s, .int n => if 0 ≤ n ∧ n ≤ 100 ∧ s.length ≤ 1000 then some (.val (.str (Txt.mul s n))) else none
  | .tup ds, .int n => if ds ≠ [] ∧ 2 ≤ n ∧ n ≤ 1000 ∧ ds.length ≤ 1000 then some (.val (.tup (List.replicate n.toNat ds).flatten)) else none
  | _, _ => none
abbrev rMulA (K : PySem.W.Frag) : R2 := fun x y H Q => rI CMul (fun i j => .int (i * j)) x y H Q ∨ (rStrMul x y H Q ∨ rRepT K x y H Q)
theorem op_mulA : OpR X (binaryOp .Mult) (rMulA X.K) := op_mul.or (op_strMul.or op_repT)
theorem bMul_ok {i j : Int} (h : bMul i j = true) : CMul i j := by
  unfold bMul at h
  unfold CMul
  rcases Bool.or_eq_true_iff.mp h with h | h <;> rw [Bool.and_eq_true_iff] at h
  · exact .inl ⟨of_decide_eq_true h.1, of_decide_eq_true h.2⟩
  · exact .inr ⟨of_decide_eq_true h.1, of_decide_eq_true h.2⟩
theorem Rps.rep {ds : List D} {xs : List V} (q : Rps G T H ds xs) : ∀ n, Rps G T H (List.replicate n ds).flatten (List.replicate n xs).flatten
  | 0 => Rps.nil
  | n + 1 => by
    rw [List.replicate_succ, List.replicate_succ, List.flatten_cons, List.flatten_cons]
    exact q.append (Rps.rep q n)
theorem r2_mul : R2ok G (rMulA G.K) gMulA := fun T H v1 v2 d1 d2 o ht h1 h2 e Q p => by
  cases d1 <;> cases d2 <;> first | (cases e; done) | skip
  · simp only [gMulA] at e
    split at e
    · rename_i hb
      cases e; cases h1.int; cases h2.int
      exact .inl ⟨_, _, rfl, rfl, bMul_ok hb, p.val rfl⟩
    · cases e
  · simp only [gMulA] at e
    split at e
    · rename_i hb
      cases e
      obtain ⟨rfl, l⟩ := h1.str
      cases h2.int
      refine .inr (.inl ⟨_, _, rfl, rfl, hb.1, hb.2.1, hb.2.2, p.val ⟨rfl, ?_⟩⟩)
      unfold sOk at l ⊢
      rw [Bool.and_eq_true_iff] at l ⊢
      refine ⟨decide_eq_true (Nat.le_trans (mulS_len _ _) (Nat.le_trans (Nat.mul_le_mul hb.2.2 (by omega : _ ≤ 100)) (by decide))), okS_mul l.2 _⟩
    · cases e
  · simp only [gMulA] at e
    split at e
    · rename_i hb
      cases e
      obtain ⟨a, xs, rfl, r, l, q⟩ := h1.tup
      cases h2.int
      refine .inr (.inr ⟨a, _, xs, rfl, rfl, r.sq, fun z => hb.1 (List.length_eq_zero_iff.mp (by rw [q.length, z]; rfl)), hb.2.1, hb.2.2.1, by rw [← q.length]; exact hb.2.2.2, fun z n => p.tup ht n ?_ (q.rep _)⟩)
      rw [List.length_flatten, List.map_replicate, List.sum_replicate_nat]
      exact Nat.le_trans (Nat.mul_le_mul (by omega : _ ≤ 1000) hb.2.2.2) (by decide)
    · cases e
/-! ### attributes -/
theorem zip_lookup {ns : List Str} {xs : List V} {f : Str} : ∀ {k : Nat}, ns[k]? = some f → (∀ j, j < k → ns[j]? ≠ some f) → (ns.zip xs).lookup f = xs[k]? := by
  induction ns generalizing xs with
  | nil => intro k h; simp at h
  | cons n ns ih =>
    intro k h1 h2
    cases xs with
    | nil => simp
    | cons x xs =>
      rw [List.zip_cons_cons, List.lookup_cons]
      cases k with
      | zero =>
        simp at h1
        subst h1
        simp
      | succ k =>
        have hne : n ≠ f := fun z => h2 0 (Nat.succ_pos _) (by simp [z])
        have : (f == n) = false := beq_eq_false_iff_ne.mpr (Ne.symm hne)
        rw [this]
        simp only
        rw [ih (k := k) (by simpa using h1) (fun j hj => by simpa using h2 (j + 1) (Nat.succ_lt_succ hj))]
        simp
theorem zip_lookup_none {ns : List Str} {xs : List V} {m : Str} (h : m ∉ ns) : (ns.zip xs).lookup m = none := by
  induction ns generalizing xs with
  | nil => simp
  | cons n ns ih =>
    cases xs with
    | nil => simp
    | cons x xs =>
      rw [List.zip_cons_cons, List.lookup_cons]
      have : (m == n) = false := beq_eq_false_iff_ne.mpr fun z => h (z ▸ List.mem_cons_self)
      rw [this]
      exact ih fun z => h (List.mem_cons_of_mem _ z)
/-- the k-th attribute of class c is f -/
structure AttrOk (G : Gc) (f : Str) (c k : Nat) : Prop where
  cl : Cls G.K (G.cls c)
  no : NoAttr G.K (G.cls c) f
  at_ : (G.fld c)[k]? = some f
  fst : ∀ j, j < k → (G.fld c)[j]? ≠ some f
def gAttr (tab : List (Nat × Nat)) : D → Option Out
  | .ins c ds => (tab.lookup c).bind fun k => (ds[k]?).map .val
  | _ => none
theorem lookup_mem {tab : List (Nat × Nat)} {c k : Nat} (h : tab.lookup c = some k) : (c, k) ∈ tab := by
  induction tab with
  | nil => cases h
  | cons p tab ih =>
    rw [List.lookup_cons] at h
    split at h
    · rename_i hb
      cases h
      rw [eq_of_beq hb]
      exact List.mem_cons_self
    · exact List.mem_cons_of_mem _ (ih h)
theorem de_attr {n : Str} {tab : List (Nat × Nat)} (hK : X.K = G.K) (ht : ∀ p ∈ tab, AttrOk G n p.1 p.2) (he : DE G X W e f) (hb : attributeBase e n X.env (eval e X.env) = eval e X.env := by rfl) : DE G X W (.Attribute e n pos) (cOp1 (gAttr tab) f) :=
  DE.of (pe_fld he hb) fun σ H Q ⟨T0, env, al, A⟩ => At.peeked A fun T1 env1 H1 d1 v1 g1 R1 o1 A1 => by
    obtain ⟨u, eu, pp⟩ := A1.done
    cases d1 <;> first | (cases eu; done) | skip
    obtain ⟨k, ek, eu⟩ := Option.bind_eq_some_iff.mp eu
    obtain ⟨d, ed, rfl⟩ := Option.map_eq_some_iff.mp eu
    obtain ⟨a, dx, xs, rfl, r, l, q⟩ := o1.ins
    obtain ⟨x, hx, rx⟩ := q.get ed
    have t := ht _ (lookup_mem ek)
    refine ⟨a, _, dx, _, x, rfl, r, hK ▸ t.cl, hK ▸ t.no, ?_, pp.val rx⟩
    rw [zip_lookup t.at_ t.fst]
    exact hx
/-! ### f-strings -/
def gFmt : D → Option Out
  | .str s => some (.val (.str s))
  | .int i => if i.natAbs.log2 < 1920 ∧ (natS i).length ≤ LIM then some (.val (.str (natS i))) else none
  | _ => none
theorem de_fmt (he : DE G X W e f) : DE G X W (.FormattedValue e (-1) none pos) (cOp1 gFmt f) :=
  DE.of (pe_fmt he) fun σ H Q ⟨T0, env, al, A⟩ => At.peeked A fun T1 env1 H1 d1 v1 g1 R1 o1 A1 => by
    obtain ⟨u, eu, pp⟩ := A1.done
    cases d1 <;> first | (cases eu; done) | skip
    · simp only [gFmt] at eu
      split at eu
      · rename_i hc
        cases eu
        refine .inr ⟨_, o1.int, hc.1, pp.val ⟨rfl, ?_⟩⟩
        unfold sOk
        rw [decide_eq_true hc.2]
        exact okS_of _
      · cases eu
    · cases eu
      obtain ⟨rfl, l⟩ := o1.str
      exact .inl ⟨_, rfl, lim_line (sOk_len l), pp.val ⟨rfl, l⟩⟩
inductive DJ (G : Gc) (X : Cx) (W : WX) : List Expr → List DEn → Prop where
  | nil : DJ G X W [] []
  | cons {e : Expr} {f : DEn} {es : List Expr} {fs : List DEn} (h : DE G X W e f) (r : DJ G X W es fs) : DJ G X W (e :: es) (f :: fs)
def joins : List DEn → Str → DEn
  | [], acc => ret (.str acc)
  | f :: fs, acc => bindR f fun r => match r with
    | .val (.str s) => if (acc ++ s).length ≤ LIM then joins fs (acc ++ s) else fun _ => none
    | _ => fun _ => none
theorem dj_pj {fs : List DEn} (h : DJ G X W es fs) : PJ X es (fs.map (tD G W)) := by
  induction h with
  | nil => exact .nil
  | cons h r ih => exact .cons h ih
theorem joins_ok : ∀ (fs : List DEn) (acc : Str) (T0 : Addr → Prop) (env : Sv) (H : Hp) (Q : VK), sOk acc = true → At G W (joins fs acc) T0 env al σ H Q → tJs (fs.map (tD G W)) acc σ H fun out H1 => Q (.str out) H1
  | [], acc, T0, env, H, Q, l, A => At.ret (d := .str acc) A _ ⟨rfl, l⟩
  | f :: fs, acc, T0, env, H, Q, l, A => At.bind A fun T1 env1 H1 r1 v1 g R1 o1 A1 => by
    have no : ∀ {P : Prop}, At G W (fun _ => none) T1 env1 al σ H1 Q → P := fun ⟨_, _, _, e, _⟩ => by cases e
    cases r1 with
    | val d =>
      cases d with
      | str s =>
        obtain ⟨rfl, l2⟩ := o1
        simp only at A1
        split at A1
        · rename_i hl
          exact ⟨s, rfl, lim_line hl, joins_ok fs _ T1 env1 H1 Q (sOk_app l l2 hl) A1⟩
        · exact no A1
      | _ => exact no A1
    | _ => exact no A1
theorem de_fstr {v1 v2 : Expr} {rest : List Expr} {fs : List DEn} (h : DJ G X W (v1 :: v2 :: rest) fs) : DE G X W (.JoinedStr (v1 :: v2 :: rest) pos) (joins fs Str.empty) :=
  DE.of (pe_joined (dj_pj h)) fun σ H Q ⟨T0, env, al, A⟩ => joins_ok fs Str.empty T0 env H Q (by decide +kernel) A
theorem de_fstr1 (h : DE G X W e f) : DE G X W (.JoinedStr [e] pos) f := DE.of (pe_joined1 h) fun σ H Q q => q
/-! ### a < b < c -/
def cChain (g g' : D → D → Option Out) (f h m : DEn) : DEn := bindR f fun r1 => bindR h fun r2 env => match peek r1 env, peek r2 env with
  | some d1, some d2 => match g d1 d2 with
    | some (.val (.bl true)) => bindR m (fun r3 env => match peek r2 env, peek r3 env with
      | some d2, some d3 => done (g' d2 d3) env
      | _, _ => none) env
    | some (.val (.bl false)) => ret (.bl false) env
    | _ => none
  | _, _ => none
theorem chain_core {r r' : R2} {g g' : D → D → Option Out} {m : DEn} (hg : R2ok G r g) (hg' : R2ok G r' g') {ta tb tc : TE} (ha : ∀ σ H Q, tD G W f σ H Q → ta σ H Q) (hb : ∀ σ H Q, tD G W h σ H Q → tb σ H Q) (hc : ∀ σ H Q, tD G W m σ H Q → tc σ H Q) :
    ∀ σ H Q, tD G W (cChain g g' f h m) σ H Q → tChain r r' ta tb tc σ H Q :=
  fun σ H Q ⟨T0, env, al, A⟩ => ha _ _ _ <| At.bind A fun T1 env1 H1 r1 v1 g1 R1 o1 A1 => hb _ _ _ <| At.bind A1 fun T2 env2 H2 r2 v2 g2 R2 o2 A2 => by
    have o1' := o1.stay g2 R1 R2
    have A2' := A2
    obtain ⟨rr, env', _, e, p⟩ := A2
    cases e1 : peek r1 env2 with
    | none => simp only [e1] at e; cases e
    | some d1 =>
      cases e2 : peek r2 env2 with
      | none => simp only [e1, e2] at e; cases e
      | some d2 =>
        simp only [e1, e2] at e
        cases eg : g d1 d2 with
        | none => simp only [eg] at e; cases e
        | some u =>
          simp only [eg] at e
          refine hg _ _ _ _ _ _ _ (fun a z => R2.tt z) (peek_ok R2 o1' e1) (peek_ok R2 o2 e2) eg _ ?_
          cases u with
          | val d =>
            cases d with
            | bl b =>
              intro v H' s rp
              cases rp
              refine ⟨b, rfl, ?_⟩
              cases b with
              | true =>
                refine iteT (hc _ _ _ <| At.bind (k := fun r3 env => match peek r2 env, peek r3 env with
                  | some d2, some d3 => done (g' d2 d3) env
                  | _, _ => none) ⟨rr, env', R2.same s, e, p.after (Go.same s)⟩ fun T3 env3 H3 r3 v3 g3 R3 o3 A3 => ?_)
                have o2' := (o2.stay (Go.same s) R2 (R2.same s)).stay g3 (R2.same s) R3
                obtain ⟨rr3, env'3, _, e', p'⟩ := A3
                cases e21 : peek r2 env3 with
                | none => simp only [e21] at e'; cases e'
                | some x2 =>
                  cases e31 : peek r3 env3 with
                  | none => simp only [e21, e31] at e'; cases e'
                  | some x3 =>
                    simp only [e21, e31] at e'
                    obtain ⟨u, eu, pp⟩ := At.done (o := g' x2 x3) ⟨rr3, env'3, R3, e', p'⟩
                    exact hg' _ _ _ _ _ _ _ (fun a z => R3.tt z) (peek_ok R3 o2' e21) (peek_ok R3 o3 e31) eu _ pp
              | false =>
                exact iteF (At.ret (d := .bl false) ⟨rr, env', R2.same s, e, p.after (Go.same s)⟩ _ rfl)
            | _ => cases e
          | _ => cases e
theorem de_chain {op op' : CmpOp} {r r' : R2} {g g' : D → D → Option Out} {m : DEn} (ho : OpR X (compareOp op) r) (ho' : OpR X (compareOp op') r') (hg : R2ok G r g) (hg' : R2ok G r' g') (ha : DE G X W e1 f) (hb : DE G X W e2 h) (hc : DE G X W e3 m)
    (hm : lastMarks [op, op'] [e2, e3] = false := by with_unfolding_all rfl) : DE G X W (.Compare e1 [op, op'] [e2, e3] pos) (cChain g g' f h m) :=
  DE.of (pe_chain ho ho' ha hb hc hm) (chain_core hg hg' (fun _ _ _ q => q) (fun _ _ _ q => q) (fun _ _ _ q => q))
theorem dt_chain {op op' : CmpOp} {r r' : R2} {g g' : D → D → Option Out} {m : DEn} (ho : OpR X (compareOp op) r) (ho' : OpR X (compareOp op') r') (hg : R2ok G r g) (hg' : R2ok G r' g') (ha : DE G X W e1 f) (hb : DE G X W e2 h) (hc : DE G X W e3 m)
    (hm : lastMarks [op, op'] [e2, e3] = false := by with_unfolding_all rfl) : DT G X W (.Compare e1 [op, op'] [e2, e3] pos) (cChain g g' f h m) :=
  DT.of (pt_chain ho ho' ha hb hc hm) fun σ H Q q => chain_core hg hg' (fun _ _ _ q => q) (fun _ _ _ q => q) (fun _ _ _ q => q) σ H _ q
end
end Pd

namespace Pd
open PySem PySem.Spec PyProof.Rows L2
inductive Fl where
  | nx | brk | cnt | ret (r : Out) | err (x : Xn)
abbrev DSt := Sv → Option (Fl × Sv)
section
variable {G : Gc} {X : Cx} {W : WX} {T T0 T1 T2 : Addr → Prop} {env env0 env1 env2 env' : Sv} {al al1 al2 : Nat → Addr} {σ σ1 : L2.St} {H0 H H1 H2 : Hp} {Q Q1 : VK} {f h : DEn} {k : Out → DEn} {pos : Pos} {e e1 e2 e3 : Expr} {es : List Expr} {ks : List AK} {st : Stmt} {sts : List Stmt} {m m1 m2 : DSt} {D : Ends}
def PostS (G : Gc) (W : WX) (T0 : Addr → Prop) (env env' : Sv) (al : Nat → Addr) (H : Hp) (fl : Fl) (D : Ends) : Prop :=
  ∀ T1 al1 σ1 H1, Go T0 T1 env env' al al1 H H1 → RepE G T1 env' al1 σ1 H1 → (match fl with
    | .nx => D.nx σ1 H1
    | .brk => D.bk σ1 H1
    | .cnt => D.ct σ1 H1
    | .ret r => ∀ v, OutRep G H T1 env' al1 σ1 H1 r v → D.rt v H1
    | .err x => ∀ cls d, XnAt G (TT T1 env' al1) H1 x cls d → W cls d σ1 H1)
def AtS (G : Gc) (W : WX) (m : DSt) (T0 : Addr → Prop) (env : Sv) (al : Nat → Addr) (σ : L2.St) (H : Hp) (D : Ends) : Prop :=
  ∃ fl env', RepE G T0 env al σ H ∧ m env = some (fl, env') ∧ PostS G W T0 env env' al H fl D
def tS (G : Gc) (W : WX) (m : DSt) : TS := fun D σ H => ∃ T0 env al, AtS G W m T0 env al σ H D
def DS (G : Gc) (X : Cx) (W : WX) (st : Stmt) (m : DSt) : Prop := PS X st (tS G W m)
def DSs (G : Gc) (X : Cx) (W : WX) (sts : List Stmt) (m : DSt) : Prop := PSs X sts (tS G W m)
theorem DS.of {t : TS} (h : PS X st t) (k : ∀ D σ H, tS G W m D σ H → t D σ H) : DS G X W st m := ⟨fun pins s σ H D I q => h.run pins s σ H D I (k D σ H q)⟩
theorem DSs.of {t : TS} (h : PSs X sts t) (k : ∀ D σ H, tS G W m D σ H → t D σ H) : DSs G X W sts m := ⟨fun pins s σ H D I q => h.run pins s σ H D I (k D σ H q)⟩
theorem PostS.after {fl : Fl} (g : Go T0 T1 env env1 al al1 H H1) (p : PostS G W T0 env env' al H fl D) : PostS G W T1 env1 env' al1 H1 fl D := fun T2 al2 σ2 H2 g2 R2 => by
  have q := p T2 al2 σ2 H2 (g.trans g2) R2
  cases fl with
  | ret r => exact fun v o => q v (o.back g.dom)
  | _ => exact q
/-- what an expression's value is used for -/
def onE (f : DEn) (k : Out → DSt) : DSt := fun env => match f env with
  | none => none
  | some (.error x, env1) => some (.err x, env1)
  | some (.ok r, env1) => k r env1
def onV (f : DEn) (k : Pd.D → DSt) : DSt := fun env => match f env with
  | none => none
  | some (.error x, env1) => some (.err x, env1)
  | some (.ok r, env1) => match toVal r env1 with
    | none => none
    | some (d, env2) => k d env2
theorem AtS.onE {k : Out → DSt} {Q1 : VK} (A : AtS G W (Pd.onE f k) T0 env al σ H D)
    (c : ∀ T1 env1 H1 r1 v1, Go T0 T1 env env1 al al H H1 → RepE G T1 env1 al σ H1 → OutRep G H T1 env1 al σ H1 r1 v1 → AtS G W (k r1) T1 env1 al σ H1 D → Q1 v1 H1) : tD G W f σ H Q1 := by
  obtain ⟨fl, env', R, e, p⟩ := A
  unfold Pd.onE at e
  cases ef : f env with
  | none => rw [ef] at e; cases e
  | some q =>
    obtain ⟨r1, env1⟩ := q
    rw [ef] at e
    refine ⟨T0, env, al, r1, env1, R, ef, fun T1 H1 g R1 => ?_⟩
    cases r1 with
    | error x =>
      simp only [Option.some.injEq, Prod.mk.injEq] at e
      obtain ⟨rfl, rfl⟩ := e
      exact p T1 al σ H1 g R1
    | ok r1 => exact fun v1 o1 => c T1 env1 H1 r1 v1 g R1 o1 ⟨fl, env', R1, e, p.after g⟩
theorem AtS.onV {k : Pd.D → DSt} {Q1 : VK} (A : AtS G W (Pd.onV f k) T0 env al σ H D)
    (c : ∀ T1 env1 H1 d1 v1, Go T0 T1 env env1 al al H H1 → RepE G T1 env1 al σ H1 → Rp G (TT T1 env1 al) H1 d1 v1 → AtS G W (k d1) T1 env1 al σ H1 D → Q1 v1 H1) : tD G W f σ H Q1 := by
  obtain ⟨fl, env', R, e, p⟩ := A
  unfold Pd.onV at e
  cases ef : f env with
  | none => rw [ef] at e; cases e
  | some q =>
    obtain ⟨r1, env1⟩ := q
    rw [ef] at e
    refine ⟨T0, env, al, r1, env1, R, ef, fun T1 H1 g R1 => ?_⟩
    cases r1 with
    | error x =>
      simp only [Option.some.injEq, Prod.mk.injEq] at e
      obtain ⟨rfl, rfl⟩ := e
      exact p T1 al σ H1 g R1
    | ok r1 =>
      intro v1 o1
      cases et : toVal r1 env1 with
      | none => simp only [et] at e; cases e
      | some q =>
        obtain ⟨d, env2⟩ := q
        simp only [et] at e
        obtain ⟨T', g', R', rp, _⟩ := toVal_ok g R R1 o1 et
        exact c T' env2 H1 d v1 g' R' rp ⟨fl, env', R', e, p.after g'⟩
theorem AtS.rep (A : AtS G W m T0 env al σ H D) : RepE G T0 env al σ H := A.choose_spec.choose_spec.1
/-! ### small statements, blocks -/
def cNop : DSt := fun env => some (.nx, env)
def cBrk : DSt := fun env => some (.brk, env)
def cCnt : DSt := fun env => some (.cnt, env)
def cSeq (m1 m2 : DSt) : DSt := fun env => match m1 env with
  | none => none
  | some (.nx, env1) => m2 env1
  | some (fl, env1) => some (fl, env1)
theorem AtS.nop (A : AtS G W cNop T env al σ H D) : D.nx σ H := by
  obtain ⟨fl, env', R, e, p⟩ := A
  simp only [cNop, Option.some.injEq, Prod.mk.injEq] at e
  obtain ⟨rfl, rfl⟩ := e
  exact p T al σ H Go.refl R
theorem dss_nil : DSs G X W [] cNop := DSs.of pss_nil fun D σ H ⟨T0, env, al, A⟩ => A.nop
theorem ds_pass : DS G X W (.Pass pos) cNop := DS.of ps_pass fun D σ H ⟨T0, env, al, A⟩ => A.nop
theorem ds_brk : DS G X W (.Break pos) cBrk := DS.of ps_break fun D σ H ⟨T0, env, al, fl, env', R, e, p⟩ => by
  simp only [cBrk, Option.some.injEq, Prod.mk.injEq] at e
  obtain ⟨rfl, rfl⟩ := e
  exact p T0 al σ H Go.refl R
theorem ds_cnt : DS G X W (.Continue pos) cCnt := DS.of ps_continue fun D σ H ⟨T0, env, al, fl, env', R, e, p⟩ => by
  simp only [cCnt, Option.some.injEq, Prod.mk.injEq] at e
  obtain ⟨rfl, rfl⟩ := e
  exact p T0 al σ H Go.refl R
theorem dss_cons (h1 : DS G X W st m1) (h2 : DSs G X W sts m2) : DSs G X W (st :: sts) (cSeq m1 m2) := DSs.of (pss_cons h1 h2) fun D σ H ⟨T0, env, al, fl, env', R, e, p⟩ => by
  unfold cSeq at e
  cases e1 : m1 env with
  | none => rw [e1] at e; cases e
  | some q =>
    obtain ⟨fl1, env1⟩ := q
    rw [e1] at e
    refine ⟨T0, env, al, fl1, env1, R, e1, fun T1 al1 σ1 H1 g R1 => ?_⟩
    cases fl1 with
    | nx => exact ⟨T1, env1, al1, fl, env', R1, e, p.after g⟩
    | _ =>
      simp only [Option.some.injEq, Prod.mk.injEq] at e
      obtain ⟨rfl, rfl⟩ := e
      exact p T1 al1 σ1 H1 g R1
theorem dss_one (h1 : DS G X W st m1) : DSs G X W [st] m1 := pss_one h1
def cDrop (f : DEn) : DSt := onE f fun _ => cNop
theorem ds_expr (he : DE G X W e f) (hs : swapsWith e none pos.line X.env = pure false := by rfl) : DS G X W (.Expr e pos) (cDrop f) := DS.of (ps_expr he hs) fun D σ H ⟨T0, env, al, A⟩ =>
  A.onE fun T1 env1 H1 r1 v1 g R1 o1 A1 => A1.nop
theorem ds_doc {x j p p'} : DS G X W (.Expr (.Constant (.str x) j p) p') cNop := DS.of ps_doc fun D σ H ⟨T0, env, al, A⟩ => A.nop
def cRet (f : DEn) : DSt := onE f fun r env => some (.ret r, env)
theorem ds_ret (he : DE G X W e f) : DS G X W (.Return (some e) pos) (cRet f) := DS.of (ps_ret he) fun D σ H ⟨T0, env, al, fl, env', R, e, p⟩ => by
  unfold cRet Pd.onE at e
  cases ef : f env with
  | none => rw [ef] at e; cases e
  | some q =>
    obtain ⟨r1, env1⟩ := q
    rw [ef] at e
    refine ⟨T0, env, al, r1, env1, R, ef, fun T1 H1 g R1 => ?_⟩
    cases r1 with
    | error x =>
      simp only [Option.some.injEq, Prod.mk.injEq] at e
      obtain ⟨rfl, rfl⟩ := e
      exact p T1 al σ H1 g R1
    | ok r1 =>
      simp only [Option.some.injEq, Prod.mk.injEq] at e
      obtain ⟨rfl, rfl⟩ := e
      exact p T1 al σ H1 g R1
def cRetN : DSt := fun env => some (.ret (.val .non), env)
theorem ds_retN : DS G X W (.Return none pos) cRetN := DS.of ps_retN fun D σ H ⟨T0, env, al, fl, env', R, e, p⟩ => by
  simp only [cRetN, Option.some.injEq, Prod.mk.injEq] at e
  obtain ⟨rfl, rfl⟩ := e
  exact p T0 al σ H Go.refl R _ rfl
def cIfS (c : DEn) (m1 m2 : DSt) : DSt := onE c fun r => match r with
  | .val (.bl b) => if b then m1 else m2
  | _ => fun _ => none
theorem ds_if {c : DEn} {ss : List Stmt} (hc : DT G X W e c) (h1 : DSs G X W sts m1) (h2 : DSs G X W ss m2) : DS G X W (.If e sts ss pos) (cIfS c m1 m2) := DS.of (ps_if hc h1 h2) fun D σ H ⟨T0, env, al, A⟩ =>
  A.onE fun T1 env1 H1 r1 v1 g R1 o1 A1 => by
    have no : ∀ {P : Prop}, AtS G W (fun _ => none) T1 env1 al σ H1 D → P := fun ⟨_, _, _, e, _⟩ => by cases e
    cases r1 with
    | val d =>
      cases d with
      | bl b =>
        cases o1
        refine ⟨b, rfl, ?_⟩
        cases b with
        | true => exact iteT ⟨T1, env1, al, A1⟩
        | false => exact iteF ⟨T1, env1, al, A1⟩
      | _ => exact no A1
    | _ => exact no A1
/-- a statement that the proof never comes to -/
def cNever : DSt := fun _ => none
theorem ds_never : DS G X W st cNever := DS.of ps_never fun D σ H ⟨T0, env, al, _, _, _, e, _⟩ => by cases e
theorem dss_never : DSs G X W sts cNever := DSs.of pss_never fun D σ H ⟨T0, env, al, _, _, _, e, _⟩ => by cases e

/-! ### stores to slots -/
theorem set_get {α : Type} {l : List (Option α)} {i j : Nat} {s : Option α} {x : Option α} (h : (l.set i s)[j]? = some x) : (j = i ∧ x = s) ∨ (j ≠ i ∧ l[j]? = some x) := by
  by_cases e : j = i
  · subst e
    rw [List.getElem?_set] at h
    simp only [if_true] at h
    split at h
    · exact .inl ⟨rfl, (Option.some.inj h).symm⟩
    · cases h
  · rw [List.getElem?_set_ne (Ne.symm e)] at h
    exact .inr ⟨e, h⟩
theorem RepE.setVal {i : Nat} {d : Pd.D} {v : V} (R : RepE G T env al σ H) (hi : i < env.length) (r : Rp G (TT T env al) H d v) : RepE G T (env.set i (some (.val d))) al (σ.set i (some v)) H := by
  have own' : ∀ j o, (env.set i (some (.val d)))[j]? = some (some (.own o)) → j ≠ i ∧ env[j]? = some (some (.own o)) := fun j o' e => by
    rcases set_get e with ⟨_, z⟩ | z
    · cases z
    · exact z
  have bor' : ∀ j o, (env.set i (some (.val d)))[j]? = some (some (.bor o)) → j ≠ i ∧ env[j]? = some (some (.bor o)) := fun j o' e => by
    rcases set_get e with ⟨_, z⟩ | z
    · cases z
    · exact z
  have isC' : ∀ j, isC (env.set i (some (.val d))) j → isC env j := fun j z => by
    rcases z with ⟨o', z⟩ | ⟨o', z⟩
    · exact .inl ⟨o', (own' j o' z).2⟩
    · exact .inr ⟨o', (bor' j o' z).2⟩
  have tt : ∀ a, TT T (env.set i (some (.val d))) al a → TT T env al a := fun a z => by
    rcases z with z | ⟨j, ⟨o', z⟩, e⟩
    · exact .inl z
    · exact .inr ⟨j, ⟨o', (own' j o' z).2⟩, e⟩
  have hiσ : i < σ.length := R.len ▸ hi
  refine ⟨by rw [List.length_set, List.length_set]; exact R.len, fun j d' e => ?_, fun j o' e => ?_, fun j o' e => ?_, fun a b ha hb e => R.inj a b (isC' a ha) (isC' b hb) e, R.t0⟩
  · rcases set_get e with ⟨rfl, z⟩ | ⟨n, z⟩
    · cases z
      exact ⟨v, List.getElem?_set_self hiσ, r.mono (fun _ _ _ e => e) (fun b hb => .inl (tt b hb))⟩
    · obtain ⟨v', e1, q⟩ := R.val j d' z
      exact ⟨v', by rw [List.getElem?_set_ne (Ne.symm n)]; exact e1, q.mono (fun _ _ _ e => e) (fun b hb => .inl (tt b hb))⟩
  · obtain ⟨n, z⟩ := own' j o' e
    obtain ⟨e1, n', a⟩ := R.own j o' z
    exact ⟨by rw [List.getElem?_set_ne (Ne.symm n)]; exact e1, n', a.mono (fun _ _ _ e => e) (fun b hb => .inl (tt b hb)) rfl⟩
  · obtain ⟨n, z⟩ := bor' j o' e
    obtain ⟨e1, n', a⟩ := R.bor j o' z
    exact ⟨by rw [List.getElem?_set_ne (Ne.symm n)]; exact e1, n', a.mono (fun _ _ _ e => e) (fun b hb => .inl (tt b hb)) rfl⟩
theorem Go.setVal {i : Nat} {d : Pd.D} (hi : i < env.length) : Go T T env (env.set i (some (.val d))) al al H H := by
  refine ⟨⟨List.length_set, fun j ⟨o, z⟩ => ?_, fun j ⟨o, z⟩ => ?_, fun j s e => ?_⟩, fun _ _ _ e => e, fun _ e => e, fun _ e => e, fun _ e => .inl (.inl e)⟩
  · rcases set_get z with ⟨_, z⟩ | ⟨_, z⟩
    · cases z
    · exact .inl ⟨⟨o, z⟩, rfl⟩
  · rcases set_get z with ⟨_, z⟩ | ⟨_, z⟩
    · cases z
    · exact ⟨⟨o, z⟩, rfl⟩
  · by_cases e2 : j = i
    · subst e2; exact ⟨_, List.getElem?_set_self hi⟩
    · exact ⟨s, by rw [List.getElem?_set_ne (Ne.symm e2)]; exact e⟩
def alSet (al : Nat → Addr) (i : Nat) (p : Addr) : Nat → Addr := fun j => if j = i then p else al j
theorem alSet_ne {i j : Nat} {p : Addr} (h : j ≠ i) : alSet al i p j = al j := if_neg h
theorem alSet_eq {i : Nat} {p : Addr} : alSet al i p i = p := if_pos rfl
/-- a new thing becomes one's own -/
theorem RepE.setOwn {i : Nat} {o : O} {p : Addr} (R : RepE G T env al σ H) (hi : i < env.length) (tp : T p) (np : ∀ j, isC env j → al j ≠ p) (a : OAt G (TT T env al) H p o) :
    RepE G (fun a => T a ∧ a ≠ p) (env.set i (some (.own o))) (alSet al i p) (σ.set i (some (.ref p))) H := by
  have al' : ∀ j, j ≠ i → alSet al i p j = al j := fun j h => if_neg h
  have ali : alSet al i p i = p := if_pos rfl
  have own' : ∀ j o', (env.set i (some (.own o)))[j]? = some (some (.own o')) → (j = i ∧ o' = o) ∨ (j ≠ i ∧ env[j]? = some (some (.own o'))) := fun j o' e => by
    rcases set_get e with ⟨e1, z⟩ | z
    · cases z; exact .inl ⟨e1, rfl⟩
    · exact .inr z
  have bor' : ∀ j o', (env.set i (some (.own o)))[j]? = some (some (.bor o')) → j ≠ i ∧ env[j]? = some (some (.bor o')) := fun j o' e => by
    rcases set_get e with ⟨_, z⟩ | z
    · cases z
    · exact z
  have isC' : ∀ j, isC (env.set i (some (.own o))) j → j = i ∨ (j ≠ i ∧ isC env j) := fun j z => by
    rcases z with ⟨o', z⟩ | ⟨o', z⟩
    · rcases own' j o' z with z | z
      · exact .inl z.1
      · exact .inr ⟨z.1, .inl ⟨o', z.2⟩⟩
    · exact .inr ⟨(bor' j o' z).1, .inr ⟨o', (bor' j o' z).2⟩⟩
  have tt : ∀ a, TT (fun a => T a ∧ a ≠ p) (env.set i (some (.own o))) (alSet al i p) a → TT T env al a := fun a z => by
    rcases z with z | ⟨j, ⟨o', z⟩, e⟩
    · exact .inl z.1
    · rcases own' j o' z with ⟨rfl, _⟩ | ⟨n, z⟩
      · rw [ali] at e; exact .inl (e ▸ tp)
      · rw [al' j n] at e; exact .inr ⟨j, ⟨o', z⟩, e⟩
  have hiσ : i < σ.length := R.len ▸ hi
  refine ⟨by rw [List.length_set, List.length_set]; exact R.len, fun j d' e => ?_, fun j o' e => ?_, fun j o' e => ?_, fun b c hb hc e => ?_, fun a z => R.t0 a z.1⟩
  · rcases set_get e with ⟨_, z⟩ | ⟨n, z⟩
    · cases z
    · obtain ⟨v', e1, q⟩ := R.val j d' z
      exact ⟨v', by rw [List.getElem?_set_ne (Ne.symm n)]; exact e1, q.mono (fun _ _ _ e => e) (fun b hb => .inl (tt b hb))⟩
  · rcases own' j o' e with ⟨rfl, rfl⟩ | ⟨n, z⟩
    · rw [ali]
      exact ⟨List.getElem?_set_self hiσ, fun z => z.2 rfl, a.mono (fun _ _ _ e => e) (fun b hb => .inl (tt b hb)) rfl⟩
    · obtain ⟨e1, n', a'⟩ := R.own j o' z
      rw [al' j n]
      exact ⟨by rw [List.getElem?_set_ne (Ne.symm n)]; exact e1, fun z => n' z.1, a'.mono (fun _ _ _ e => e) (fun b hb => .inl (tt b hb)) rfl⟩
  · obtain ⟨n, z⟩ := bor' j o' e
    obtain ⟨e1, n', a'⟩ := R.bor j o' z
    rw [al' j n]
    exact ⟨by rw [List.getElem?_set_ne (Ne.symm n)]; exact e1, ⟨n', np j (.inr ⟨o', z⟩)⟩, a'.mono (fun _ _ _ e => e) (fun b hb => .inl (tt b hb)) rfl⟩
  · rcases isC' b hb with rfl | ⟨nb, _⟩
    · rcases isC' c hc with rfl | ⟨nc, hc⟩
      · rfl
      · rw [ali, al' c nc] at e
        exact absurd e.symm (np c hc)
    · rename_i hb2
      rcases isC' c hc with rfl | ⟨nc, hc⟩
      · rw [ali, al' b nb] at e
        exact absurd e (np b hb2)
      · rw [al' b nb, al' c nc] at e
        exact R.inj b c hb2 hc e
/-- x = e -/
def setO (i : Nat) (r : Out) : DSt := fun env => if i < env.length then (match r with
  | .new o => some (.nx, env.set i (some (.own o)))
  | r => match toVal r env with
    | some (d, env') => some (.nx, env'.set i (some (.val d)))
    | none => none) else none
def cSet (i : Nat) (f : DEn) : DSt := onE f (setO i)
theorem toVal_len {r : Out} {d : Pd.D} (e : toVal r env = some (d, env')) : env'.length = env.length := by
  cases r with
  | val d' => cases e; rfl
  | new o => cases e; rfl
  | ref i =>
    simp only [toVal] at e
    split at e
    · cases e; rfl
    · cases e; exact List.length_set
    · cases e
theorem set_core {i : Nat} {te : TE} (he : ∀ σ H Q, tD G W f σ H Q → te σ H Q) : ∀ D σ H, tS G W (cSet i f) D σ H → tAsg te (gName i) D σ H := fun D σ H ⟨T0, env, al, fl, env', R, e, p⟩ => by
  unfold cSet Pd.onE at e
  cases ef : f env with
  | none => rw [ef] at e; cases e
  | some q =>
    obtain ⟨r1, env1⟩ := q
    rw [ef] at e
    refine he _ _ _ ⟨T0, env, al, r1, env1, R, ef, fun T1 H1 g R1 => ?_⟩
    cases r1 with
    | error x =>
      simp only [Option.some.injEq, Prod.mk.injEq] at e
      obtain ⟨rfl, rfl⟩ := e
      exact p T1 al σ H1 g R1
    | ok r1 =>
      intro v1 o1
      show D.nx (σ.set i (some v1)) H1
      simp only [setO] at e
      split at e
      · rename_i hi
        have viaVal : (match toVal r1 env1 with
            | some (d, env') => some (Fl.nx, env'.set i (some (.val d)))
            | none => none) = some (fl, env') → D.nx (σ.set i (some v1)) H1 := fun e => by
          cases et : toVal r1 env1 with
          | none => rw [et] at e; cases e
          | some q =>
            obtain ⟨d, env2⟩ := q
            rw [et] at e
            simp only [Option.some.injEq, Prod.mk.injEq] at e
            obtain ⟨rfl, rfl⟩ := e
            obtain ⟨T', g', R', rp, _⟩ := toVal_ok g R R1 o1 et
            have hi2 : i < env2.length := by rw [toVal_len et]; exact hi
            exact p T' al _ H1 (g'.trans (Go.setVal hi2)) (R'.setVal hi2 rp)
        cases r1 with
        | val d => exact viaVal e
        | ref j => exact viaVal e
        | new o =>
          simp only [Option.some.injEq, Prod.mk.injEq] at e
          obtain ⟨rfl, rfl⟩ := e
          obtain ⟨q, rfl, hq, tq, nq, a⟩ := o1
          have n0 : ∀ b, T0 b → b ≠ q := fun b z w => R.t0 b z (w ▸ hq)
          refine p (fun b => T1 b ∧ b ≠ q) (alSet al i q) _ H1 ⟨⟨List.length_set.trans g.sub.len, fun j ⟨o', z⟩ => ?_, fun j ⟨o', z⟩ => ?_, fun j s e => ?_⟩, g.keep, g.dom, fun b z => ⟨g.low b z, n0 b z⟩, fun b z => g.up b z.1⟩ (R1.setOwn hi tq nq a)
          · rcases set_get z with ⟨rfl, _⟩ | ⟨n, z⟩
            · exact .inr (by rw [alSet_eq]; exact hq)
            · rcases g.sub.own j ⟨o', z⟩ with ⟨h1, h2⟩ | h1
              · exact .inl ⟨h1, by rw [alSet_ne n]⟩
              · exact .inr (by rw [alSet_ne n]; exact h1)
          · rcases set_get z with ⟨_, z⟩ | ⟨n, z⟩
            · cases z
            · obtain ⟨h1, _⟩ := g.sub.bor j ⟨o', z⟩
              exact ⟨h1, by rw [alSet_ne n]⟩
          · by_cases e2 : j = i
            · subst e2; exact ⟨_, List.getElem?_set_self hi⟩
            · obtain ⟨s', hs'⟩ := g.sub.fill j s e
              exact ⟨s', by rw [List.getElem?_set_ne (Ne.symm e2)]; exact hs'⟩
      · cases e
theorem ds_set (i : Nat) {x : Str} {p2 : Pos} (hN : X.N.Nodup) (he : DE G X W e f) (hi : X.N[i]? = some x := by rfl) (hx : Loc X.env.scope x := by first | exact .inl rfl | exact .inr rfl) (hs : swapsWith e (some (.Name x p2)) pos.line X.env = pure false := by rfl) (hf : X.fn x = true ∨ X.env.scope.names.lookup x = some .local := by first | exact .inl rfl | exact .inr rfl | assumption) :
    DS G X W (.Assign [.Name x p2] e pos) (cSet i f) := DS.of (ps_set hN hi hx he hs hf) (set_core fun _ _ _ q => q)
/-! ### targets -/
abbrev TGt := Pd.D → Sv → Option Sv
def DG (G : Gc) (X : Cx) (tg : Expr) (t : TGt) (ts : List Nat) : Prop := ∃ g : TG, PG X tg g ∧ ∀ T env al σ H d v env' (Q : L2.St → Hp → Prop), RepE G T env al σ H → Rp G (TT T env al) H d v → t d env = some env' →
  (∀ T' σ' H', RepE G T' env' al σ' H' → Go T T' env env' al al H H' → (∀ j, j ∉ ts → σ'[j]? = σ[j]?) → σ'.length = σ.length → Q σ' H') → g v σ H Q
def tName (i : Nat) : TGt := fun d env => if i < env.length then some (env.set i (some (.val d))) else none
theorem dg_name (i : Nat) {x : Str} {p : Pos} (hN : X.N.Nodup) (hi : X.N[i]? = some x := by rfl) (hx : Loc X.env.scope x := by first | exact .inl rfl | exact .inr rfl) (hf : X.fn x = true ∨ X.env.scope.names.lookup x = some .local := by first | exact .inl rfl | exact .inr rfl | assumption) : DG G X (.Name x p) (tName i) [i] :=
  ⟨gName i, pg_name hN hi hx hf, fun T env al σ H d v env' Q R r e q => by
    unfold tName at e
    split at e
    · rename_i hi
      cases e
      exact q T _ H (R.setVal hi r) (Go.setVal hi) (fun j hj => List.getElem?_set_ne (fun z => hj (by simp [z]))) List.length_set
    · cases e⟩
def DGs (G : Gc) (X : Cx) (es : List Expr) (t : List Pd.D → Sv → Option Sv) (ts : List Nat) : Prop := ∃ g : TGs, PGs X es g ∧ ∀ T env al σ H ds vs env' (Q : L2.St → Hp → Prop), RepE G T env al σ H → Rps G (TT T env al) H ds vs → t ds env = some env' →
  (∀ T' σ' H', RepE G T' env' al σ' H' → Go T T' env env' al al H H' → (∀ j, j ∉ ts → σ'[j]? = σ[j]?) → σ'.length = σ.length → Q σ' H') → g vs σ H Q
def tsNil : List Pd.D → Sv → Option Sv := fun ds env => match ds with
  | [] => some env
  | _ => none
def tsCons (t : TGt) (u : List Pd.D → Sv → Option Sv) : List Pd.D → Sv → Option Sv := fun ds env => match ds with
  | [] => none
  | d :: ds => match t d env with
    | some env1 => u ds env1
    | none => none
theorem dgs_nil : DGs G X [] tsNil [] := ⟨gNil, pgs_nil, fun T env al σ H ds vs env' Q R r e q => by
  cases ds with
  | nil =>
    cases e
    unfold Rps at r
    exact ⟨r, q T σ H R Go.refl (fun _ _ => rfl) rfl⟩
  | cons _ _ => cases e⟩
theorem dgs_cons {t : TGt} {u : List Pd.D → Sv → Option Sv} {a b : List Nat} (h1 : DG G X e t a) (h2 : DGs G X es u b) (hs : (assignEach (e :: es) X.env).map (·.2) = assign e X.env :: (assignEach es X.env).map (·.2) := by rfl) : DGs G X (e :: es) (tsCons t u) (a ++ b) := by
  obtain ⟨g1, p1, q1⟩ := h1
  obtain ⟨g2, p2, q2⟩ := h2
  refine ⟨gCons g1 g2, pgs_cons p1 p2 hs, fun T env al σ H ds vs env' Q R r e q => ?_⟩
  cases ds with
  | nil => cases e
  | cons d ds =>
    unfold Rps at r
    obtain ⟨x, xs, rfl, rx, rs⟩ := r
    simp only [tsCons] at e
    cases e1 : t d env with
    | none => rw [e1] at e; cases e
    | some env1 =>
      rw [e1] at e
      refine ⟨x, xs, rfl, q1 T env al σ H d x env1 _ R rx e1 fun T1 σ1 H1 R1 g1 k1 l1 => ?_⟩
      refine q2 T1 env1 al σ1 H1 ds xs env' Q R1 (g1.rps R rs) e fun T2 σ2 H2 R2 g2 k2 l2 => ?_
      refine q T2 σ2 H2 R2 (g1.trans g2) (fun j hj => ?_) (l2.trans l1)
      rw [k2 j (fun z => hj (List.mem_append_right _ z)), k1 j (fun z => hj (List.mem_append_left _ z))]
def tTup (n : Nat) (u : List Pd.D → Sv → Option Sv) : TGt := fun d env => match d with
  | .tup ds => if ds.length = n then u ds env else none
  | _ => none
theorem dg_tup {u : List Pd.D → Sv → Option Sv} {a : List Nat} {kt : Nat} {p : Pos} (hc : X.calm = true) (hK : X.K = G.K) (h : DGs G X es u a) (hn : (assignEach es X.env).length = es.length := by rfl) (hst : (assignEach es X.env).findIdx? (·.1) = none := by rfl) : DG G X (.Tuple es kt p) (tTup es.length u) a := by
  obtain ⟨g, p1, q1⟩ := h
  refine ⟨gTup X.K es.length g, pg_tup hc p1 hn hst, fun T env al σ H d v env' Q R r e q => ?_⟩
  cases d <;> first | (cases e; done) | skip
  simp only [tTup] at e
  split at e
  · rename_i hl
    unfold Rp at r
    obtain ⟨a, xs, rfl, sq, l, rs⟩ := r
    exact ⟨a, xs, rfl, hK ▸ sq.sq, by rw [← rs.length]; exact hl, q1 T env al σ H _ xs env' Q R rs e q⟩
  · cases e
/-- target = e -/
def cAsg (t : TGt) (f : DEn) : DSt := onV f fun d env => match t d env with
  | some env' => some (.nx, env')
  | none => none
theorem ds_asg {tg : Expr} {t : TGt} {ts : List Nat} (he : DE G X W e f) (hg : DG G X tg t ts) (hs : swapsWithSole [tg] e pos.line X.env = pure false := by rfl) (hw : swappedStores [tg] e X.env = pure none := by rfl) (h1 : (assignEach [tg] X.env).map (·.2) = [assign tg X.env] := by rfl) : DS G X W (.Assign [tg] e pos) (cAsg t f) := by
  obtain ⟨g, p1, q1⟩ := hg
  refine DS.of (ps_asg he p1 hs hw h1) fun D σ H ⟨T0, env, al, A⟩ => A.onV fun T1 env1 H1 d1 v1 g1 R1 o1 ⟨fl, env', _, e, p⟩ => ?_
  cases et : t d1 env1 with
  | none => simp only [et] at e; cases e
  | some env2 =>
    simp only [et, Option.some.injEq, Prod.mk.injEq] at e
    obtain ⟨rfl, rfl⟩ := e
    exact q1 T1 env1 al σ H1 d1 v1 env2 _ R1 o1 et fun T' σ' H' R' g' _ _ => p T' al σ' H' g' R'
end
end Pd

namespace Pd
open PySem PySem.Spec PyProof.Rows L2
section
variable {G : Gc} {X : Cx} {W : WX} {T T0 T1 T2 : Addr → Prop} {env env0 env1 env2 env' : Sv} {al al1 al2 : Nat → Addr} {σ σ1 : L2.St} {H0 H H1 H2 : Hp} {Q Q1 : VK} {f h : DEn} {k : Out → DEn} {pos : Pos} {e e1 e2 e3 : Expr} {es : List Expr} {ks : List AK} {st : Stmt} {sts : List Stmt} {m m1 m2 : DSt} {D : Ends}
/-! ### what is walked -/
/-- J walks ds from H on, whatever changes but what stands -/
def Walks (G : Gc) (T : Addr → Prop) (env : Sv) (al : Nat → Addr) (H : Hp) (J : It) (ds : List Pd.D) : Prop :=
  ds.length ≤ LIM ∧ ∀ i H2 T2, (∀ a, T2 a → H2 a ≠ none) → (∀ b o, (∀ i, isC env i → al i ≠ b) → H b = some o → H2 b = some o) → (∀ d v, Rp G (TT T env al) H d v → Rp G T2 H2 d v) →
    (∀ d, ds[i]? = some d → J.go i H2 ∧ ∀ x H3, J.yld i H2 x H3 → Same H2 H3 ∧ Rp G T2 H3 d x) ∧ (i = ds.length → J.stop i H2)
abbrev DIn := Sv → Option (Except Xn (List Pd.D) × Sv)
def AtI (G : Gc) (W : WX) (s : DIn) (T0 : Addr → Prop) (env : Sv) (al : Nat → Addr) (σ : L2.St) (H : Hp) (R : It → Hp → Prop) : Prop :=
  ∃ r env', RepE G T0 env al σ H ∧ s env = some (r, env') ∧ ∀ T1 H1, Go T0 T1 env env' al al H H1 → RepE G T1 env' al σ H1 → (match r with
    | .error x => ∀ cls d, XnAt G (TT T1 env' al) H1 x cls d → W cls d σ H1
    | .ok ds => ∀ J, Walks G T1 env' al H1 J ds → R J H1)
def tI (G : Gc) (W : WX) (s : DIn) : TI := fun σ H R => ∃ T0 env al, AtI G W s T0 env al σ H R
def DI (G : Gc) (X : Cx) (W : WX) (tg e : Expr) (s : DIn) : Prop := PI X tg e (tI G W s)
theorem DI.of {tg : Expr} {t : TI} {s : DIn} (h : PI X tg e t) (k : ∀ σ H R, tI G W s σ H R → t σ H R) : DI G X W tg e s := ⟨fun pins s' σ H R I q => h.run pins s' σ H R I (k σ H R q)⟩
/-- the items of a value -/
def onIt (f : DEn) (k : Pd.D → Option (List Pd.D)) : DIn := fun env => match f env with
  | none => none
  | some (.error x, env1) => some (.error x, env1)
  | some (.ok r, env1) => match toVal r env1 with
    | none => none
    | some (d, env2) => (k d).map fun ds => (.ok ds, env2)
theorem AtI.onIt {k : Pd.D → Option (List Pd.D)} {R : It → Hp → Prop} (A : AtI G W (Pd.onIt f k) T0 env al σ H R)
    (c : ∀ T1 env1 H1 d1 v1 ds, RepE G T1 env1 al σ H1 → Rp G (TT T1 env1 al) H1 d1 v1 → k d1 = some ds → (∀ J, Walks G T1 env1 al H1 J ds → R J H1) → Q1 v1 H1) : tD G W f σ H Q1 := by
  obtain ⟨rr, env', R0, e, p⟩ := A
  unfold Pd.onIt at e
  cases ef : f env with
  | none => rw [ef] at e; cases e
  | some q =>
    obtain ⟨r1, env1⟩ := q
    rw [ef] at e
    refine ⟨T0, env, al, r1, env1, R0, ef, fun T1 H1 g R1 => ?_⟩
    cases r1 with
    | error x =>
      simp only [Option.some.injEq, Prod.mk.injEq] at e
      obtain ⟨rfl, rfl⟩ := e
      exact p T1 H1 g R1
    | ok r1 =>
      intro v1 o1
      cases et : toVal r1 env1 with
      | none => simp only [et] at e; cases e
      | some q =>
        obtain ⟨d, env2⟩ := q
        simp only [et] at e
        obtain ⟨ds, ek, e⟩ := Option.map_eq_some_iff.mp e
        simp only [Prod.mk.injEq] at e
        obtain ⟨rfl, rfl⟩ := e
        obtain ⟨T', g', R', rp, _⟩ := toVal_ok g R0 R1 o1 et
        exact c T' env2 H1 d v1 ds R' rp ek (p T' H1 g' R')
def itL : Pd.D → Option (List Pd.D)
  | .lst ds => some ds
  | .scr ns => some (ns.map .int)
  | _ => none
def itT : Pd.D → Option (List Pd.D)
  | .tup ds => some ds
  | _ => none
def itS : Pd.D → Option (List Pd.D)
  | .str s => some (s.cps.toList.map fun c => .str ⟨#[c]⟩)
  | _ => none
theorem ints_rps {T : Addr → Prop} {H : Hp} : ∀ ns : List Int, Rps G T H (ns.map .int) (ns.map V.int)
  | [] => Rps.nil
  | n :: ns => Rps.cons rfl (ints_rps ns)
theorem rd_tt (R : RepE G T env al σ H) {a : Addr} {ds : List Pd.D} {v : V} (n : ¬ TT T env al a) : ∀ i, isC env i → al i ≠ a := R.ntt n
/-- a list's items -/
theorem walks_list {a : Addr} {ds : List Pd.D} {xs : List V} (l : ds.length ≤ LIM) (q : Rps G (TT T env al) H ds xs) (hs : ∀ H2, (∀ b o, (∀ i, isC env i → al i ≠ b) → H b = some o → H2 b = some o) → SqL G.K H2 a xs) (inj : ∀ H2 ys, SqL G.K H2 a ys → SqL G.K H2 a xs → ys = xs) : Walks G T env al H (Itl G.K a) ds :=
  ⟨l, fun i H2 T2 ht hk hr => ⟨fun d hd => by
    obtain ⟨x, hx, rx⟩ := q.get hd
    refine ⟨⟨xs, x, hs H2 hk, hx⟩, fun y H3 ⟨e1, e2⟩ => ?_⟩
    subst e1
    have := e2 xs (hs _ hk)
    rw [hx] at this
    cases this
    exact ⟨Same.refl _, hr d x rx⟩, fun e => ⟨xs, hs H2 hk, by rw [← q.length, e]; exact Nat.le_refl _⟩⟩⟩
theorem walks_list' {a : Addr} {ds : List Pd.D} {xs : List V} (l : ds.length ≤ LIM) (q : Rps G (TT T env al) H ds xs) (hs : ∀ H2, (∀ b o, (∀ i, isC env i → al i ≠ b) → H b = some o → H2 b = some o) → SqL G.K H2 a xs) : Walks G T env al H (Itl G.K a) ds :=
  ⟨l, fun i H2 T2 ht hk hr => ⟨fun d hd => by
    obtain ⟨x, hx, rx⟩ := q.get hd
    refine ⟨⟨xs, x, hs H2 hk, hx⟩, fun y H3 ⟨e1, e2⟩ => ?_⟩
    subst e1
    have := e2 xs (hs _ hk)
    rw [hx] at this
    cases this
    exact ⟨Same.refl _, hr d x rx⟩, fun e => ⟨xs, hs H2 hk, by rw [← q.length, e]; exact Nat.le_refl _⟩⟩⟩
theorem walks_tup {a : Addr} {ds : List Pd.D} {xs : List V} (l : ds.length ≤ LIM) (q : Rps G (TT T env al) H ds xs) (hs : ∀ H2, (∀ b o, (∀ i, isC env i → al i ≠ b) → H b = some o → H2 b = some o) → SqT G.K H2 a xs) : Walks G T env al H (Itt G.K a) ds :=
  ⟨l, fun i H2 T2 ht hk hr => ⟨fun d hd => by
    obtain ⟨x, hx, rx⟩ := q.get hd
    refine ⟨⟨xs, x, hs H2 hk, hx⟩, fun y H3 ⟨e1, e2⟩ => ?_⟩
    subst e1
    have := e2 xs (hs _ hk)
    rw [hx] at this
    cases this
    exact ⟨Same.refl _, hr d x rx⟩, fun e => ⟨xs, hs H2 hk, by rw [← q.length, e]; exact Nat.le_refl _⟩⟩⟩
theorem SL.still {K : PySem.W.Frag} {a : Addr} {xs : List V} (R : RepE G T env al σ H) (h : SL K (TT T env al) H a xs) (H2 : Hp) (hk : ∀ b o, (∀ i, isC env i → al i ≠ b) → H b = some o → H2 b = some o) : SqL K H2 a xs := by
  rcases h with ⟨n, r⟩ | h
  · exact .inl (Rd.mono (fun o => hk a o (R.ntt n)) r)
  · rcases h with h | h
    · exact (rd_no h).elim
    · exact .inr h
theorem SU.still {K : PySem.W.Frag} {a : Addr} {xs : List V} (R : RepE G T env al σ H) (h : SU K (TT T env al) H a xs) (H2 : Hp) (hk : ∀ b o, (∀ i, isC env i → al i ≠ b) → H b = some o → H2 b = some o) : SqT K H2 a xs := by
  rcases h with ⟨n, r⟩ | h
  · exact .inl (Rd.mono (fun o => hk a o (R.ntt n)) r)
  · rcases h with h | h
    · exact (rd_no h).elim
    · exact .inr h
theorem di_list {tg : Expr} (hK : X.K = G.K) (he : DE G X W e f) : DI G X W tg e (onIt f itL) := DI.of (pi_list he) fun σ H R ⟨T0, env, al, A⟩ => A.onIt fun T1 env1 H1 d1 v1 ds R1 rp ek w => by
  cases d1 <;> first | (cases ek; done) | skip
  · cases ek
    unfold Rp at rp
    obtain ⟨a, xs, rfl, n, r, l, q⟩ := rp
    refine ⟨a, rfl, ⟨xs, SqL.of r⟩, ?_⟩
    rw [hK]
    exact w _ (walks_list' l q fun H2 hk => SqL.of (hk a _ (R1.ntt n) r))
  · cases ek
    unfold Rp at rp
    obtain ⟨a, rfl, r, l⟩ := rp
    refine ⟨a, rfl, ⟨_, hK ▸ r.sq⟩, ?_⟩
    rw [hK]
    exact w _ (walks_list' (by rw [List.length_map]; exact l) (ints_rps _) fun H2 hk => r.still R1 H2 hk)
theorem di_tup {tg : Expr} (hK : X.K = G.K) (he : DE G X W e f) : DI G X W tg e (onIt f itT) := DI.of (pi_tup he) fun σ H R ⟨T0, env, al, A⟩ => A.onIt fun T1 env1 H1 d1 v1 ds R1 rp ek w => by
  cases d1 <;> first | (cases ek; done) | skip
  cases ek
  unfold Rp at rp
  obtain ⟨a, xs, rfl, r, l, q⟩ := rp
  refine ⟨a, rfl, ⟨xs, hK ▸ r.sq⟩, ?_⟩
  rw [hK]
  exact w _ (walks_tup l q fun H2 hk => r.still R1 H2 hk)
theorem di_str {tg : Expr} (he : DE G X W e f) : DI G X W tg e (onIt f itS) := DI.of (pi_str he) fun σ H R ⟨T0, env, al, A⟩ => A.onIt fun T1 env1 H1 d1 v1 ds R1 rp ek w => by
  cases d1 <;> first | (cases ek; done) | skip
  rename_i s
  cases ek
  obtain ⟨rfl, l⟩ := rp
  refine ⟨s, rfl, w _ ⟨by rw [List.length_map]; exact sOk_len l, fun i H2 T2 ht hk hr => ⟨fun d hd => ?_, fun ei => ?_⟩⟩⟩
  · rw [List.getElem?_map] at hd
    obtain ⟨c, hc, rfl⟩ := Option.map_eq_some_iff.mp hd
    have hi : i < s.cps.size := by
      have := (List.getElem?_eq_some_iff.mp hc).1
      simpa using this
    refine ⟨hi, fun x H3 ⟨e1, c', hc', e2⟩ => ?_⟩
    subst e1 e2
    have : c' = c := by
      rw [← Array.getElem?_toList, hc] at hc'
      exact (Option.some.inj hc').symm
    subst this
    exact ⟨Same.refl _, rfl, sOk_one l (List.mem_of_getElem? hc)⟩
  · show s.cps.size ≤ i
    rw [ei, List.length_map]
    simp
/-! range -/
def rangeD (lo hi : Int) : List Pd.D := (List.range (hi - lo).toNat).map fun (i : Nat) => .int (lo + (i : Int))
theorem walks_range {lo : Int} {n : Nat} (h : n ≤ LIM) : Walks G T env al H (Itr lo n) ((List.range n).map fun (i : Nat) => Pd.D.int (lo + (i : Int))) :=
  ⟨by rw [List.length_map, List.length_range]; exact h, fun i H2 T2 ht hk hr => ⟨fun d hd => by
    rw [List.getElem?_map] at hd
    obtain ⟨c, hc, rfl⟩ := Option.map_eq_some_iff.mp hd
    obtain ⟨hi, rfl⟩ := List.getElem?_eq_some_iff.mp hc
    rw [List.length_range] at hi
    rw [List.getElem_range]
    exact ⟨hi, fun x H3 ⟨e1, e2⟩ => by subst e1 e2; exact ⟨Same.refl _, rfl⟩⟩, fun ei => by
    rw [List.length_map, List.length_range] at ei
    exact Nat.le_of_eq ei.symm⟩⟩
def ints1 : List Av → Option Int
  | [.out (.val (.int n))] => some n
  | _ => none
def ints2 : List Av → Option (Int × Int)
  | [.out (.val (.int n)), .out (.val (.int m))] => some (n, m)
  | _ => none
def rng1 (f : DEn) : DIn := fun env => match f env with
  | some (.ok (.val (.int n)), env1) => if -1000000 ≤ n ∧ n ≤ 1000000 then some (.ok (rangeD 0 n), env1) else none
  | some (.error x, env1) => some (.error x, env1)
  | _ => none
theorem di_range1 {tg : Expr} {p : Pos} (hg : Gl X "range") (hm : X.mg "range" = none) (he : DE G X W e f) (hs : starEach [e] X.env = [(false, eval e X.env)] := by rfl) : DI G X W tg (.Call (.Name "range" p) [e] [] pos) (rng1 f) :=
  DI.of (pi_range1 hg hm (pa_cons he pa_nil hs) hs) fun σ H R ⟨T0, env, al, r, env', R0, e, p⟩ => by
    unfold rng1 at e
    split at e
    · rename_i n env1 ef
      split at e
      · rename_i hn
        simp only [Option.some.injEq, Prod.mk.injEq] at e
        obtain ⟨rfl, rfl⟩ := e
        refine ⟨T0, env, al, _, _, R0, ef, fun T1 H1 g R1 v1 o1 => ?_⟩
        cases o1
        refine ⟨n, rfl, by omega, by omega, ?_⟩
        have := p T1 H1 g R1 (Itr 0 n.toNat) (by
          unfold rangeD
          rw [Int.sub_zero]
          exact walks_range (by show _ ≤ 15800000; omega))
        exact this
      · cases e
    · rename_i x env1 ef
      simp only [Option.some.injEq, Prod.mk.injEq] at e
      obtain ⟨rfl, rfl⟩ := e
      exact ⟨T0, env, al, _, _, R0, ef, p⟩
    · cases e
def rng2 (f h : DEn) : DIn := fun env => match f env with
  | some (.ok (.val (.int n)), env1) => match h env1 with
    | some (.ok (.val (.int m)), env2) => if -1000000 ≤ n ∧ n ≤ 1000000 ∧ -1000000 ≤ m ∧ m ≤ 1000000 then some (.ok (rangeD n m), env2) else none
    | _ => none
  | _ => none
theorem di_range2 {tg : Expr} {p : Pos} (hg : Gl X "range") (hm : X.mg "range" = none) (ha : DE G X W e1 f) (hb : DE G X W e2 h) (hs : starEach [e1, e2] X.env = [(false, eval e1 X.env), (false, eval e2 X.env)] := by rfl) (hs2 : starEach [e2] X.env = [(false, eval e2 X.env)] := by rfl) : DI G X W tg (.Call (.Name "range" p) [e1, e2] [] pos) (rng2 f h) :=
  DI.of (pi_range2 hg hm (pa_cons ha (pa_cons hb pa_nil hs2) (by rw [hs, hs2])) hs hs2) fun σ H R ⟨T0, env, al, r, env', R0, e, p⟩ => by
    unfold rng2 at e
    split at e
    · rename_i n env1 ef
      split at e
      · rename_i m env2 eh
        split at e
        · rename_i hn
          simp only [Option.some.injEq, Prod.mk.injEq] at e
          obtain ⟨rfl, rfl⟩ := e
          refine ⟨T0, env, al, _, _, R0, ef, fun T1 H1 g R1 v1 o1 => ⟨T1, env1, al, _, _, R1, eh, fun T2 H2 g2 R2 v2 o2 => ?_⟩⟩
          cases o1
          cases o2
          exact ⟨n, m, rfl, ⟨by omega, by omega, by omega, by omega⟩, p T2 H2 (g.trans g2) R2 (Itr n (m - n).toNat) (walks_range (by show _ ≤ 15800000; omega))⟩
        · cases e
      · cases e
    · cases e
/-! ### for -/
def loop (t : TGt) (m : DSt) : List Pd.D → DSt
  | [] => cNop
  | d :: ds => fun env => match t d env with
    | none => none
    | some env1 => match m env1 with
      | none => none
      | some (.nx, env2) => loop t m ds env2
      | some (.cnt, env2) => loop t m ds env2
      | some (.brk, env2) => some (.nx, env2)
      | some (fl, env2) => some (fl, env2)
def cFor (s : DIn) (t : TGt) (m : DSt) : DSt := fun env => match s env with
  | none => none
  | some (.error x, env1) => some (.err x, env1)
  | some (.ok ds, env1) => loop t m ds env1
theorem RepE.dom (R : RepE G T env al σ H) : ∀ a, TT T env al a → H a ≠ none := fun a h => R.tt h
theorem loop_core {J : It} {ds : List Pd.D} {t : TGt} {m : DSt} {g : TG} {tb : TS} {ts : List Nat} (w : Walks G T0 env al H J ds) (R0 : RepE G T0 env al σ H)
    (hg : ∀ T env al σ H d v env' (Q : L2.St → Hp → Prop), RepE G T env al σ H → Rp G (TT T env al) H d v → t d env = some env' → (∀ T' σ' H', RepE G T' env' al σ' H' → Go T T' env env' al al H H' → (∀ j, j ∉ ts → σ'[j]? = σ[j]?) → σ'.length = σ.length → Q σ' H') → g v σ H Q)
    (hb : ∀ D σ H, tS G W m D σ H → tb D σ H) (A : AtS G W (loop t m ds) T0 env al σ H D) :
    ∃ V : Nat → Nat → L2.St → Hp → Prop, (∃ m, V 0 m σ H) ∧ ∀ i m σ H, V i m σ H → (J.stop i H ∧ D.nx σ H) ∨ (J.go i H ∧ ∃ N : L2.St → Hp → Prop, (∀ σ' H', N σ' H' → ∃ m', m' < m ∧ V (i + 1) m' σ' H') ∧ ∀ x H', J.yld i H x H' → g x σ H' fun σ2 H2 => tb { D with nx := N, ct := N, bk := D.nx } σ2 H2) := by
  refine ⟨fun i n σ2 H2 => n = ds.length - i ∧ i ≤ ds.length ∧ ∃ T2 env2 al2, Go T0 T2 env env2 al al2 H H2 ∧ AtS G W (loop t m (ds.drop i)) T2 env2 al2 σ2 H2 D, ⟨ds.length, rfl, Nat.zero_le _, T0, env, al, Go.refl, A⟩, ?_⟩
  rintro i n σ2 H2 ⟨rfl, hi, T2, env2, al2, g2, A2⟩
  have R2 := A2.rep
  have hw := w.2 i H2 (TT T2 env2 al2) (fun a z => R2.tt z) g2.keep (fun d v r => g2.rp R0 r)
  by_cases hlt : i < ds.length
  · have hd : ds[i]? = some ds[i] := List.getElem?_eq_getElem hlt
    obtain ⟨go, yl⟩ := hw.1 _ hd
    have ed : ds.drop i = ds[i] :: ds.drop (i + 1) := List.drop_eq_getElem_cons hlt
    rw [ed] at A2
    obtain ⟨fl, env', _, e, p⟩ := A2
    simp only [loop] at e
    cases et : t ds[i] env2 with
    | none => simp only [et] at e; cases e
    | some env3 =>
      simp only [et] at e
      cases em : m env3 with
      | none => simp only [em] at e; cases e
      | some q =>
        obtain ⟨fl1, env4⟩ := q
        simp only [em] at e
        refine .inr ⟨go, fun σ' H' => ∃ m', m' < ds.length - i ∧ (m' = ds.length - (i + 1) ∧ i + 1 ≤ ds.length ∧ ∃ T2 env2 al2, Go T0 T2 env env2 al al2 H H' ∧ AtS G W (loop t m (ds.drop (i + 1))) T2 env2 al2 σ' H' D), fun σ' H' z => z, fun x H' y => ?_⟩
        obtain ⟨s, rx⟩ := yl x H' y
        have R2' := R2.same s
        have gs : Go T2 T2 env2 env2 al2 al2 H2 H' := Go.same s
        refine hg T2 env2 al2 σ2 H' ds[i] x env3 _ R2' rx et fun T3 σ3 H3 R3 g3 _ _ => hb _ _ _ ⟨T3, env3, al2, fl1, env4, R3, em, fun T4 al4 σ4 H4 g4 R4 => ?_⟩
        have gg : Go T2 T4 env2 env4 al2 al4 H2 H4 := (gs.trans g3).trans g4
        have next : loop t m (ds.drop (i + 1)) env4 = some (fl, env') → ∃ m', m' < ds.length - i ∧ (m' = ds.length - (i + 1) ∧ i + 1 ≤ ds.length ∧ ∃ T2 env2 al2, Go T0 T2 env env2 al al2 H H4 ∧ AtS G W (loop t m (ds.drop (i + 1))) T2 env2 al2 σ4 H4 D) := fun e' =>
          ⟨_, by omega, rfl, hlt, T4, env4, al4, g2.trans gg, fl, env', R4, e', p.after gg⟩
        cases fl1 with
        | nx => exact next e
        | cnt => exact next e
        | brk =>
          simp only [Option.some.injEq, Prod.mk.injEq] at e
          obtain ⟨rfl, rfl⟩ := e
          exact p T4 al4 σ4 H4 gg R4
        | ret r =>
          simp only [Option.some.injEq, Prod.mk.injEq] at e
          obtain ⟨rfl, rfl⟩ := e
          exact fun v o => p T4 al4 σ4 H4 gg R4 v (o.back (gs.trans g3).dom)
        | err x =>
          simp only [Option.some.injEq, Prod.mk.injEq] at e
          obtain ⟨rfl, rfl⟩ := e
          exact p T4 al4 σ4 H4 gg R4
  · have ei : i = ds.length := by omega
    refine .inl ⟨hw.2 ei, ?_⟩
    rw [ei, List.drop_length] at A2
    exact A2.nop
theorem ds_for {s : DIn} {t : TGt} {ts : List Nat} {tg : Expr} (hp : PassesOwn (model X.prog X.w) X.A X.env X.xe) (hc : X.calm = true) (hi : DI G X W tg e s) (hg : DG G X tg t ts) (hb : DSs G X W sts m) (hs : ∀ x, foldedSetIterable e X.env x = pure x := by intro _; rfl) :
    DS G X W (.For tg e sts [] pos) (cFor s t m) := by
  obtain ⟨g, p1, q1⟩ := hg
  refine DS.of (ps_for hp hc hi p1 hb hs) fun D σ H ⟨T0, env, al, fl, env', R, e, p⟩ => ?_
  unfold cFor at e
  cases es : s env with
  | none => rw [es] at e; cases e
  | some q =>
    obtain ⟨r1, env1⟩ := q
    rw [es] at e
    refine ⟨T0, env, al, r1, env1, R, es, fun T1 H1 g1 R1 => ?_⟩
    cases r1 with
    | error x =>
      simp only [Option.some.injEq, Prod.mk.injEq] at e
      obtain ⟨rfl, rfl⟩ := e
      exact p T1 al σ H1 g1 R1
    | ok ds => exact fun J w => loop_core w R1 q1 (fun _ _ _ q => q) ⟨fl, env', R1, e, p.after g1⟩
/-! ### while -/
def wloop (c : DEn) (m : DSt) : Nat → DSt
  | 0 => fun _ => none
  | n + 1 => fun env => match c env with
    | some (.ok (.val (.bl false)), env1) => some (.nx, env1)
    | some (.ok (.val (.bl true)), env1) => match m env1 with
      | none => none
      | some (.nx, env2) => wloop c m n env2
      | some (.cnt, env2) => wloop c m n env2
      | some (.brk, env2) => some (.nx, env2)
      | some (fl, env2) => some (fl, env2)
    | some (.error x, env1) => some (.err x, env1)
    | _ => none
theorem ds_while {c : DEn} (n : Nat) (hp : PassesOwn (model X.prog X.w) X.A X.env X.xe) (hc : DT G X W e c) (hb : DSs G X W sts m) : DS G X W (.While e sts [] pos) (wloop c m n) :=
  DS.of (ps_while hp hc hb) fun D σ H ⟨T0, env, al, A⟩ => by
    refine ⟨fun k σ' H' => ∃ T env al, AtS G W (wloop c m k) T env al σ' H' D, ⟨n, T0, env, al, A⟩, ?_⟩
    rintro k σ1 H1 ⟨T1, env1, al1, fl, env', R1, e, p⟩
    cases k with
    | zero => cases e
    | succ k =>
      simp only [wloop] at e
      cases ec : c env1 with
      | none => rw [ec] at e; cases e
      | some q =>
        obtain ⟨r, env2⟩ := q
        rw [ec] at e
        refine ⟨T1, env1, al1, r, env2, R1, ec, fun T2 H2 g R2 => ?_⟩
        cases r with
        | error x =>
          simp only [Option.some.injEq, Prod.mk.injEq] at e
          obtain ⟨rfl, rfl⟩ := e
          exact p T2 al1 σ1 H2 g R2
        | ok r =>
          intro v o
          cases r with
          | val d =>
            cases d with
            | bl b =>
              cases o
              refine ⟨b, rfl, ?_⟩
              cases b with
              | false =>
                simp only [Option.some.injEq, Prod.mk.injEq] at e
                obtain ⟨rfl, rfl⟩ := e
                exact iteF (p T2 al1 σ1 H2 g R2)
              | true =>
                simp only at e
                refine iteT ?_
                refine ⟨fun σ' H' => ∃ T env al, AtS G W (wloop c m k) T env al σ' H' D, fun σ' H' z => ⟨k, Nat.lt_succ_self k, z⟩, ?_⟩
                cases em : m env2 with
                | none => rw [em] at e; cases e
                | some q =>
                  obtain ⟨fl1, env3⟩ := q
                  rw [em] at e
                  refine ⟨T2, env2, al1, fl1, env3, R2, em, fun T3 al3 σ3 H3 g3 R3 => ?_⟩
                  have next : wloop c m k env3 = some (fl, env') → ∃ T env al, AtS G W (wloop c m k) T env al σ3 H3 D := fun e' => ⟨T3, env3, al3, fl, env', R3, e', p.after (g.trans g3)⟩
                  cases fl1 with
                  | nx => exact next e
                  | cnt => exact next e
                  | brk =>
                    simp only [Option.some.injEq, Prod.mk.injEq] at e
                    obtain ⟨rfl, rfl⟩ := e
                    exact p T3 al3 σ3 H3 (g.trans g3) R3
                  | ret r =>
                    simp only [Option.some.injEq, Prod.mk.injEq] at e
                    obtain ⟨rfl, rfl⟩ := e
                    exact fun v o => p T3 al3 σ3 H3 (g.trans g3) R3 v (o.back g.dom)
                  | err x =>
                    simp only [Option.some.injEq, Prod.mk.injEq] at e
                    obtain ⟨rfl, rfl⟩ := e
                    exact p T3 al3 σ3 H3 (g.trans g3) R3
            | _ => cases e
          | _ => cases e
end
end Pd

namespace Pd
open PySem PySem.Spec PySem.Calls PyProof.Rows L2
/-! ### enumerate(t), t a tuple -/
set_option maxHeartbeats 1000000 in
theorem meets_en1 {v : Value} {o : Obj} {Hh : Heap → Prop} (B : Begins v o Hh) :
    Meets (Builtin.«enumerate.__new__» ⟨[.type "enumerate", v], []⟩) (fun _ R s => Hh s.heap ∧
      R (.ok (.ret (.ref (s.heap.push o).objs.size))) { s with heap := (s.heap.push o).push { cls := .type "enumerate", data := .fields #[.none, .bool false, .ref s.heap.objs.size, rawInt 0, .none, .none] } }) :=
  .of_wp fun prog w A R s hh => by
    obtain ⟨hp, g, d, tk, os⟩ := s
    obtain ⟨h1, h⟩ := hh
    have hsub : isSubtype (.type "enumerate") (.type "enumerate") = pure true := PySem.sub_enumerate
    have q1 : ∀ {A' : Around} {E : Value → Shared → Prop} {Q : Value → Shared → Prop}, Q (.ref hp.objs.size) ⟨hp.push o, g, d, tk, os⟩ → wpAny (model prog w) A' (pyIter v) Q E ⟨hp, g, d, tk, os⟩ :=
      fun q => B.iter prog w _ _ ⟨hp, g, d, tk, os⟩ _ h1 q
    wp_walk using q1
    refine wpAny_stack_any fun st => wpAny_pure ?_
    split
    · rename_i c _ _ _ _ _
      cases (c == Value.type "enumerate")
      · wp_walk using q1
        exact ⟨_, rfl, h⟩
      · wp_walk using q1
        exact ⟨_, rfl, h⟩
    · wp_walk using q1
      exact ⟨_, rfl, h⟩
section
variable {prog : Program} {w : World} {A : Around} {E : Value → Shared → Prop} {s : Shared}
theorem call_en1 {v : Value} {o : Obj} {Hh : Heap → Prop} {Q : Value → Shared → Prop} (B : Begins v o Hh) (h1 : Hh s.heap)
    (k : ∀ g : Heap, IsEnum g (s.heap.objs.size + 1) s.heap.objs.size 0 .none → g.get? s.heap.objs.size = some o → (∀ b u, s.heap.get? b = some u → g.get? b = some u) → Q (.ref (s.heap.objs.size + 1)) { s with heap := g }) :
    wpAny (model prog w) A (call (.type "enumerate") [v]) Q E s := by
  have sz : (s.heap.push o).objs.size = s.heap.objs.size + 1 := Heap.size_push ..
  refine callType_new F.called_enumerate (by decide) (F.typeCall_enumerate_1 _) (F.newCall_enumerate_1 _) (fun obj => F.args_object_init_2 obj _) F.entry_enumerate_new (meets_en1 B) ⟨h1, ?_⟩
  show _ ∧ _
  rw [sz]
  have en : IsEnum ((s.heap.push o).push { cls := .type "enumerate", data := .fields #[.none, .bool false, .ref s.heap.objs.size, rawInt 0, .none, .none] }) (s.heap.objs.size + 1) s.heap.objs.size 0 .none := by
    have z := Heap.get?_push_size (s.heap.push o) (o := { cls := .type "enumerate", data := .fields #[.none, .bool false, .ref s.heap.objs.size, rawInt 0, .none, .none] }) rfl
    rw [sz] at z
    exact z
  exact ⟨⟨_, en, rfl⟩, k _ en (Heap.get?_push_of_some _ (Heap.get?_push_size _ B.free)) fun b u x => Heap.get?_push_of_some _ (Heap.get?_push_of_some _ x)⟩
end
/-- the items of the tuple at a, each in a new pair with its number -/
def ItE (K : PySem.W.Frag) (a : Addr) : It :=
  ⟨fun i H => ∃ (xs : List V) (x : V), SqT K H a xs ∧ xs[i]? = some x, fun i H v H' => ∃ p x, v = .ref p ∧ H p = none ∧ H' = upd H p (.tup [.int (i : Nat), x]) ∧ ∀ xs, SqT K H a xs → xs[i]? = some x, fun i H => ∃ xs : List V, SqT K H a xs ∧ xs.length = i⟩
theorem istup_plain {h : Heap} {a : Addr} {its : Array Value} (p : IsTup h a its) : h.IsTuple a its := p
theorem turn_enumT {P : Program} {w : World} {K : PySem.W.Frag} {elts : List Expr} {kk : Nat} {tpos : Pos} (a e it : Addr) :
    Turn P w K (.Tuple elts kk tpos) (ItE K a) [e, it] e (fun i h => (∃ old, IsEnum h e it ((i : Nat) : Int) old) ∧ h.IsTupleIter it a i ∧ e ≠ it) where
  mem := by simp
  obj := fun i h ⟨⟨old, hen⟩, ⟨o, ho, _, hd⟩, _⟩ b hb => by
    have z : b = e ∨ b = it := by simpa using hb
    rcases z with rfl | rfl
    · exact ⟨_, hen, fun v q => nomatch q⟩
    · exact ⟨o, ho, fun v q => by rw [hd] at q; cases q⟩
  keep := fun i h h' ⟨⟨old, hen⟩, hi, ne⟩ k => ⟨⟨old, k e (by simp) _ hen⟩, hi.at fun o q => k it (by simp) o q, ne⟩
  item := by
    intro X hP hw hK hc i pins s σ H E I hf ⟨⟨old, hen⟩, hit, ne⟩ ⟨xs, x, hq, hx⟩
    subst hP hw hK
    obtain ⟨its, rv, p, hz⟩ := I.tuple hq
    obtain ⟨u, hu, ru⟩ := rv.get hx
    have he1 : e < s.heap.objs.size := Heap.lt_size hen
    have hi1 : it < s.heap.objs.size := by obtain ⟨_, q, _⟩ := hit; exact Heap.lt_size q
    have nea : a ≠ it := fun z => by
      obtain ⟨o1, q1, c1, _⟩ := hit
      obtain ⟨o2, q2, c2, _⟩ := p
      rw [z, q1] at q2
      cases q2
      rw [c1] at c2
      exact absurd c2 (by decide)
    have nae : a ≠ e := fun z => by
      obtain ⟨o2, q2, c2, _⟩ := p
      rw [z] at q2
      have q3 : s.heap.get? e = _ := hen
      rw [q3] at q2
      cases q2
      have c3 : Value.type "enumerate" = Value.type "tuple" := c2
      exact absurd c3 (by decide)
    have nef : e ∉ [it, a] := by
      simp only [List.mem_cons, List.not_mem_nil, or_false, not_or]
      exact ⟨ne, Ne.symm nae⟩
    refine wpAny_pyNext_enum_itemC (i := i) (Draws.tuple (prog := X.prog) (w := X.w) (A := X.A.in1) (I.ok.hd hc) it a nea its.toArray) hen ⟨hit, istup_plain p⟩ ((List.getElem?_eq_some_iff.mp hu).1) ne nef fun y g tk hy hout hst hT hsz hk => ?_
    have ey : y = u := by
      have hy' : its.toArray[i]? = some y := hy
      simp only [List.getElem?_toArray] at hy'
      rw [hu] at hy'
      exact (Option.some.inj hy').symm
    subst ey
    refine ⟨_, rfl, wpAny_letOwnedTupleGo_enum (s := { s with heap := g, toks := tk + 1 }) hout fun g2 hen2 sb => ?_⟩
    have hT2 : g2.get? s.heap.objs.size = some { cls := .type "tuple", data := .seq #[.int i tk, y] } := (sb.2 _ (Nat.ne_of_gt he1)).trans hT
    have new : ObjOk X.prog X.w (upd H s.heap.objs.size (.tup [.int (i : Nat), x])) g2 s.heap.objs.size (.tup [.int (i : Nat), x]) :=
      ⟨by show 2 ≤ sizeLine; decide, [.int i tk, y], .cons ⟨_, rfl⟩ (.cons ru .nil), ⟨_, hT2, rfl, _, rfl⟩⟩
    have I1 : Inv X pins σ (upd H s.heap.objs.size (.tup [.int (i : Nat), x])) { s with heap := g2, toks := tk + 1 } :=
      I.turnedNew (ch := [e, it]) (fun b ob hb q => (sb.2 b (fun z => hb (by simp [z]))).trans (hk b ob (fun z => hb (by simp [z])) (fun z => hb (by simp [z])) q)) hf (Nat.le_refl _) new
    refine ⟨.ref s.heap.objs.size, _, I1, rfl, ⟨_, x, rfl, I.hok.fresh (Nat.le_refl _), rfl, fun ys hy => by rw [I.tuple_inj hy hq]; exact hx⟩, ⟨⟨y, ?_⟩, hst.1.at fun o q => (sb.2 it (Ne.symm ne)).trans q, ne⟩, fun b hb => ?_⟩
    · have z : ((i + 1 : Nat) : Int) = (i : Int) + 1 := by omega
      rw [z]
      exact hen2
    · have lt : b < s.heap.objs.size := by
        have z : b = e ∨ b = it := by simpa using hb
        rcases z with rfl | rfl
        · exact he1
        · exact hi1
      rw [upd_ne (Nat.ne_of_lt lt)]
      exact (hf b hb).1
  done := by
    intro X hP hw hK hc i pins s σ H E I hf ⟨⟨old, hen⟩, hit, ne⟩ ⟨xs, hq, hx⟩
    subst hP hw hK
    obtain ⟨its, rv, p, hz⟩ := I.tuple hq
    obtain ⟨f0, f1, f2, f3, f4, f5⟩ := hf it (by simp)
    have nea : a ≠ it := fun z => by
      obtain ⟨o1, q1, c1, _⟩ := hit
      obtain ⟨o2, q2, c2, _⟩ := p
      rw [z, q1] at q2
      cases q2
      rw [c1] at c2
      exact absurd c2 (by decide)
    have sz : its.toArray.size = i := by rw [List.size_toArray, ← rv.length, hx]
    refine wpAny_pyNext_enum_endD (Draws.tuple (prog := X.prog) (w := X.w) (A := X.A.in1) (I.ok.hd hc) it a nea its.toArray) hen ⟨by rw [sz]; exact hit, istup_plain p⟩ fun g eb => ⟨rfl, I.turned (t' := s.toks) (fun b o hb q => eb b o hb q) f0 f1 f3 f4 f5⟩
  self := fun A i s Q E ⟨⟨_, hen⟩, _⟩ h => wpAny_pyIter_enum hen h
section
variable {G : Gc} {X : Cx} {W : WX} {T T0 T1 T2 : Addr → Prop} {env env0 env1 env2 env' : Sv} {al al1 al2 : Nat → Addr} {σ σ1 : L2.St} {H0 H H1 H2 : Hp} {Q Q1 : VK} {f h : DEn} {k : Out → DEn} {pos : Pos} {e e1 e2 e3 : Expr} {es : List Expr} {ks : List AK}
def iEnE (K : PySem.W.Frag) (ta : TA) : TI := fun σ H R => ta σ H fun vs H1 => ∃ a, vs = [.ref a] ∧ ((∃ xs, SqL K H1 a xs ∧ R (Ite K a) H1) ∨ ∃ xs, SqT K H1 a xs ∧ R (ItE K a) H1)
theorem pi_enE {e : Expr} {ta : TA} {p pos tpos : Pos} {elts : List Expr} {kk : Nat} (hg : Gl X "enumerate") (hm : X.mg "enumerate" = none) (ha : PA X [e] ta) (hs : starEach [e] X.env = [(false, eval e X.env)] := by rfl) :
    PI X (.Tuple elts kk tpos) (.Call (.Name "enumerate" p) [e] [] pos) (iEnE X.K ta) := by
  refine ⟨fun pins s σ H R I hw => ?_⟩
  refine Call_ (ld_blt I hg hm boot_enumerate (PyProof.Rows.callWith_type1 (thn (ha.run pos pins s σ H _ I hw) fun us s1 ⟨vs, H1, I1, r1, q1⟩ => ?_) hs rfl))
  obtain ⟨a, rfl, q1⟩ := q1
  obtain ⟨u, rfl, ru⟩ := vals1 r1
  cases ru
  have two : ∀ b, (b ∈ [s1.heap.objs.size + 1, s1.heap.objs.size]) → s1.heap.objs.size ≤ b := fun b hb => by
    have z : b = s1.heap.objs.size + 1 ∨ b = s1.heap.objs.size := by simpa using hb
    omega
  rcases q1 with ⟨xs, hq, q⟩ | ⟨xs, hq, q⟩
  · obtain ⟨its, rv, p', hz⟩ := I1.list hq
    refine call_enumerate_list p'.isList fun g hen hit _ hk => wpAny_pyIter_enum hen ?_
    exact ⟨_, [s1.heap.objs.size + 1, s1.heap.objs.size], _, _, H1, rfl, I1.kept (t' := s1.toks) hk, turn_enum a (s1.heap.objs.size + 1) s1.heap.objs.size, ⟨⟨.none, hen⟩, hit, Nat.succ_ne_self _⟩, fun b hb => I1.fpOk (two b hb) (I1.hok.fresh (two b hb)), q⟩
  · obtain ⟨its, rv, p', hz⟩ := I1.tuple hq
    refine call_en1 (begins_tuple a its.toArray) (istup_plain p') fun g hen hit hk => wpAny_pyIter_enum hen ?_
    exact ⟨_, [s1.heap.objs.size + 1, s1.heap.objs.size], _, _, H1, rfl, I1.kept (t' := s1.toks) hk, turn_enumT a (s1.heap.objs.size + 1) s1.heap.objs.size, ⟨⟨.none, hen⟩, ⟨_, hit, rfl, rfl⟩, Nat.succ_ne_self _⟩, fun b hb => I1.fpOk (two b hb) (I1.hok.fresh (two b hb)), q⟩
/-! at the data -/
def numbered (ds : List Pd.D) : List Pd.D := ds.mapIdx fun i d => .tup [.int (i : Int), d]
def itA : Pd.D → Option (List Pd.D)
  | .lst ds => some ds
  | .scr ns => some (ns.map .int)
  | .tup ds => some ds
  | _ => none
theorem rp_pair {p : Addr} {d1 d2 : Pd.D} {x1 x2 : V} (t : ∀ a, T a → H a ≠ none) (n : H p = none) (h1 : Rp G T H d1 x1) (h2 : Rp G T H d2 x2) : Rp G T (upd H p (.tup [x1, x2])) (.tup [d1, d2]) (.ref p) := by
  have k : ∀ b o, ¬ T b → H b = some o → upd H p (.tup [x1, x2]) b = some o := fun b o _ e => same_new n b o e
  unfold Rp
  exact ⟨p, _, rfl, .inl ⟨fun z => t p z n, .inl upd_same⟩, by show 2 ≤ LIM; decide, Rps.cons (h1.mono k fun _ z => .inl z) (Rps.one (h2.mono k fun _ z => .inl z))⟩
theorem di_enum {p tpos : Pos} {elts : List Expr} {kk : Nat} (hK : X.K = G.K) (hg : Gl X "enumerate") (hm : X.mg "enumerate" = none) (he : DE G X W e f) (hs : starEach [e] X.env = [(false, eval e X.env)] := by rfl) :
    DI G X W (.Tuple elts kk tpos) (.Call (.Name "enumerate" p) [e] [] pos) (onIt f fun d => (itA d).map numbered) :=
  DI.of (pi_enE hg hm (pa_cons he pa_nil hs) hs) fun σ H R ⟨T0, env, al, A⟩ => A.onIt fun T1 env1 H1 d1 v1 ds R1 rp ek w => by
    obtain ⟨ds0, e0, rfl⟩ := Option.map_eq_some_iff.mp ek
    have item : ∀ (i : Nat) (d : Pd.D), (numbered ds0)[i]? = some d → ∃ d0, ds0[i]? = some d0 ∧ d = .tup [.int (i : Int), d0] := fun i d hd => by
      unfold numbered at hd
      rw [List.getElem?_mapIdx] at hd
      obtain ⟨d0, h0, rfl⟩ := Option.map_eq_some_iff.mp hd
      exact ⟨d0, h0, rfl⟩
    have len : (numbered ds0).length = ds0.length := by unfold numbered; exact List.length_mapIdx
    have viaL : ∀ (a : Addr) (xs : List V), ds0.length ≤ LIM → Rps G (TT T1 env1 al) H1 ds0 xs → (∀ H2, (∀ b o, (∀ i, isC env1 i → al i ≠ b) → H1 b = some o → H2 b = some o) → SqL G.K H2 a xs) → Walks G T1 env1 al H1 (Ite G.K a) (numbered ds0) := fun a xs l q hs =>
      ⟨by rw [len]; exact l, fun i H2 T2 ht hk hr => ⟨fun d hd => by
        obtain ⟨d0, h0, rfl⟩ := item i d hd
        obtain ⟨x, hx, rx⟩ := q.get h0
        refine ⟨⟨xs, x, hs H2 hk, hx⟩, fun y H3 ⟨p, x', e1, n, e2, e3⟩ => ?_⟩
        have := e3 xs (hs _ hk)
        rw [hx] at this
        cases this
        subst e1 e2
        exact ⟨same_new n, rp_pair ht n rfl (hr d0 x rx)⟩, fun e => ⟨xs, hs H2 hk, by rw [← q.length, e, len]; exact Nat.le_refl _⟩⟩⟩
    have viaT : ∀ (a : Addr) (xs : List V), ds0.length ≤ LIM → Rps G (TT T1 env1 al) H1 ds0 xs → (∀ H2, (∀ b o, (∀ i, isC env1 i → al i ≠ b) → H1 b = some o → H2 b = some o) → SqT G.K H2 a xs) → Walks G T1 env1 al H1 (ItE G.K a) (numbered ds0) := fun a xs l q hs =>
      ⟨by rw [len]; exact l, fun i H2 T2 ht hk hr => ⟨fun d hd => by
        obtain ⟨d0, h0, rfl⟩ := item i d hd
        obtain ⟨x, hx, rx⟩ := q.get h0
        refine ⟨⟨xs, x, hs H2 hk, hx⟩, fun y H3 ⟨p, x', e1, n, e2, e3⟩ => ?_⟩
        have := e3 xs (hs _ hk)
        rw [hx] at this
        cases this
        subst e1 e2
        exact ⟨same_new n, rp_pair ht n rfl (hr d0 x rx)⟩, fun e => ⟨xs, hs H2 hk, by rw [← q.length, e, len]⟩⟩⟩
    cases d1 <;> first | (cases e0; done) | skip
    · cases e0
      unfold Rp at rp
      obtain ⟨a, xs, rfl, r, l, q⟩ := rp
      refine ⟨a, rfl, .inr ⟨xs, hK ▸ r.sq, ?_⟩⟩
      rw [hK]
      exact w _ (viaT a xs l q fun H2 hk => r.still R1 H2 hk)
    · cases e0
      unfold Rp at rp
      obtain ⟨a, xs, rfl, n, r, l, q⟩ := rp
      refine ⟨a, rfl, .inl ⟨xs, SqL.of r, ?_⟩⟩
      rw [hK]
      exact w _ (viaL a xs l q fun H2 hk => SqL.of (hk a _ (R1.ntt n) r))
    · cases e0
      unfold Rp at rp
      obtain ⟨a, rfl, r, l⟩ := rp
      refine ⟨a, rfl, .inl ⟨_, hK ▸ r.sq, ?_⟩⟩
      rw [hK]
      exact w _ (viaL a _ (by rw [List.length_map]; exact l) (ints_rps _) fun H2 hk => r.still R1 H2 hk)
/-! zip of two -/
def paired (a b : List Pd.D) : List Pd.D := (a.zip b).map fun p => .tup [p.1, p.2]
end
end Pd

namespace Pd
open PySem PySem.Spec PyProof.Rows L2
/-! ### slots of a block -/
def over (g : Nat → Option Sl) (vs : List Nat) (env : Sv) : Sv := env.mapIdx fun j s => if vs.contains j then g j else s
def okC (vs : List Nat) (env : Sv) : Bool := vs.all fun j => match env[j]? with
  | some (some (.own _)) => false
  | some (some (.bor _)) => false
  | _ => true
def wipeE (vs : List Nat) (env : Sv) : Sv := over (fun _ => none) vs env
def restE (vs : List Nat) (env0 env : Sv) : Sv := over (fun j => (env0[j]?).getD none) vs env
section
variable {G : Gc} {X : Cx} {W : WX} {T T0 T1 T2 : Addr → Prop} {env env0 env1 env2 env3 env' : Sv} {al al1 al2 : Nat → Addr} {σ σ1 σ' : L2.St} {H0 H H1 H2 : Hp} {Q Q1 : VK} {f h c : DEn} {k : Out → DEn} {pos : Pos} {e e1 e2 e3 : Expr} {es : List Expr} {ks : List AK} {vs : List Nat} {g : Nat → Option Sl}
theorem over_len : (over g vs env).length = env.length := by unfold over; exact List.length_mapIdx
theorem over_in {i : Nat} (h : i ∈ vs) : (over g vs env)[i]? = env[i]?.map fun _ => g i := by
  unfold over
  rw [List.getElem?_mapIdx]
  have : vs.contains i = true := List.contains_iff_mem.mpr h
  simp only [this, if_true]
theorem over_out {i : Nat} (h : i ∉ vs) : (over g vs env)[i]? = env[i]? := by
  unfold over
  rw [List.getElem?_mapIdx]
  have : vs.contains i = false := by
    cases q : vs.contains i with
    | false => rfl
    | true => exact absurd (List.contains_iff_mem.mp q) h
  simp only [this, Bool.false_eq_true, if_false, Option.map_id']
theorem okC_not {i : Nat} (o : okC vs env = true) (h : i ∈ vs) : ¬ isC env i := by
  have := List.all_eq_true.mp o i h
  rintro (⟨o', z⟩ | ⟨o', z⟩) <;> rw [z] at this <;> cases this
/-- only data stand in the slots changed -/
structure Plain (G : Gc) (T : Addr → Prop) (H : Hp) (g : Nat → Option Sl) (vs : List Nat) (σ' : L2.St) : Prop where
  val : ∀ j, j ∈ vs → ∀ s, g j = some s → ∃ d v, s = .val d ∧ σ'[j]? = some (some v) ∧ Rp G T H d v
theorem own_over (p : Plain G T H g vs σ') {i : Nat} {o : O} (h : (over g vs env)[i]? = some (some (.own o))) : i ∉ vs ∧ env[i]? = some (some (.own o)) := by
  by_cases hi : i ∈ vs
  · rw [over_in hi] at h
    obtain ⟨s, _, e⟩ := Option.map_eq_some_iff.mp h
    obtain ⟨d, v, z, _⟩ := p.val i hi _ e
    cases z
  · exact ⟨hi, by rw [over_out hi] at h; exact h⟩
theorem bor_over (p : Plain G T H g vs σ') {i : Nat} {o : O} (h : (over g vs env)[i]? = some (some (.bor o))) : i ∉ vs ∧ env[i]? = some (some (.bor o)) := by
  by_cases hi : i ∈ vs
  · rw [over_in hi] at h
    obtain ⟨s, _, e⟩ := Option.map_eq_some_iff.mp h
    obtain ⟨d, v, z, _⟩ := p.val i hi _ e
    cases z
  · exact ⟨hi, by rw [over_out hi] at h; exact h⟩
theorem RepE.over (R : RepE G T env al σ H) (hl : σ'.length = σ.length) (hs : ∀ j, j ∉ vs → σ'[j]? = σ[j]?) (p : Plain G (TT T env al) H g vs σ') : RepE G T (Pd.over g vs env) al σ' H := by
  have isC' : ∀ j, isC (Pd.over g vs env) j → isC env j := fun j z => by
    rcases z with ⟨o', z⟩ | ⟨o', z⟩
    · exact .inl ⟨o', (own_over p z).2⟩
    · exact .inr ⟨o', (bor_over p z).2⟩
  have tt : ∀ a, TT T (Pd.over g vs env) al a → TT T env al a := fun a z => by
    rcases z with z | ⟨j, ⟨o', z⟩, e⟩
    · exact .inl z
    · exact .inr ⟨j, ⟨o', (own_over p z).2⟩, e⟩
  refine ⟨over_len.trans (R.len.trans hl.symm), fun j d e => ?_, fun j o e => ?_, fun j o e => ?_, fun a b ha hb e => R.inj a b (isC' a ha) (isC' b hb) e, R.t0⟩
  · by_cases hj : j ∈ vs
    · rw [over_in hj] at e
      obtain ⟨s, _, e⟩ := Option.map_eq_some_iff.mp e
      obtain ⟨d', v, z, e1, q⟩ := p.val j hj _ e
      cases z
      exact ⟨v, e1, q.mono (fun _ _ _ e => e) (fun b hb => .inl (tt b hb))⟩
    · rw [over_out hj] at e
      obtain ⟨v, e1, q⟩ := R.val j d e
      exact ⟨v, by rw [hs j hj]; exact e1, q.mono (fun _ _ _ e => e) (fun b hb => .inl (tt b hb))⟩
  · obtain ⟨hj, z⟩ := own_over p e
    obtain ⟨e1, n, a⟩ := R.own j o z
    exact ⟨by rw [hs j hj]; exact e1, n, a.mono (fun _ _ _ e => e) (fun b hb => .inl (tt b hb)) rfl⟩
  · obtain ⟨hj, z⟩ := bor_over p e
    obtain ⟨e1, n, a⟩ := R.bor j o z
    exact ⟨by rw [hs j hj]; exact e1, n, a.mono (fun _ _ _ e => e) (fun b hb => .inl (tt b hb)) rfl⟩
theorem plain_none : Plain G T H (fun _ => none) vs σ' := ⟨fun _ _ _ e => by cases e⟩
theorem RepE.wipe (R : RepE G T env al σ H) (hl : σ'.length = σ.length) (hs : ∀ j, j ∉ vs → σ'[j]? = σ[j]?) : RepE G T (wipeE vs env) al σ' H := R.over hl hs plain_none
theorem wipeE_own {i : Nat} (h : ownI (wipeE vs env) i) : i ∉ vs ∧ ownI env i := by
  obtain ⟨o, z⟩ := h
  obtain ⟨a, b⟩ := own_over (G := ⟨[], fun _ => 0, fun _ => [], 0⟩) (T := fun _ => True) (H := noH) (σ' := []) plain_none z
  exact ⟨a, o, b⟩
theorem wipeE_bor {i : Nat} (h : borI (wipeE vs env) i) : i ∉ vs ∧ borI env i := by
  obtain ⟨o, z⟩ := h
  obtain ⟨a, b⟩ := bor_over (G := ⟨[], fun _ => 0, fun _ => [], 0⟩) (T := fun _ => True) (H := noH) (σ' := []) plain_none z
  exact ⟨a, o, b⟩
theorem wipeE_isC {i : Nat} (h : isC (wipeE vs env) i) : i ∉ vs ∧ isC env i := by
  rcases h with h | h
  · exact ⟨(wipeE_own h).1, .inl (wipeE_own h).2⟩
  · exact ⟨(wipeE_bor h).1, .inr (wipeE_bor h).2⟩
theorem isC_wipeE {i : Nat} (o : okC vs env = true) (h : isC env i) : isC (wipeE vs env) i := by
  have hi : i ∉ vs := fun z => okC_not o z h
  rcases h with ⟨o', z⟩ | ⟨o', z⟩
  · exact .inl ⟨o', by unfold wipeE; rw [over_out hi]; exact z⟩
  · exact .inr ⟨o', by unfold wipeE; rw [over_out hi]; exact z⟩
theorem ownI_wipeE {i : Nat} (o : okC vs env = true) (h : ownI env i) : ownI (wipeE vs env) i := by
  have hi : i ∉ vs := fun z => okC_not o z (.inl h)
  obtain ⟨o', z⟩ := h
  exact ⟨o', by unfold wipeE; rw [over_out hi]; exact z⟩
theorem tt_wipeE {a : Addr} (h : TT T (wipeE vs env) al a) : TT T env al a := by
  rcases h with h | ⟨i, h, e⟩
  · exact .inl h
  · exact .inr ⟨i, (wipeE_own h).2, e⟩
theorem wipeE_tt {a : Addr} (o : okC vs env = true) (h : TT T env al a) : TT T (wipeE vs env) al a := by
  rcases h with h | ⟨i, h, e⟩
  · exact .inl h
  · exact .inr ⟨i, ownI_wipeE o h, e⟩
/-- a turn from a wiped block to the next -/
theorem Go.wiped (g : Go T0 T1 (wipeE vs env) env1 al al H H1) : Go T0 T1 (wipeE vs env) (wipeE vs env1) al al H H1 := by
  refine ⟨⟨over_len.trans g.sub.len, fun i h => g.sub.own i (wipeE_own h).2, fun i h => g.sub.bor i (wipeE_bor h).2, fun i s e => ?_⟩, g.keep, g.dom, g.low, g.up⟩
  by_cases hi : i ∈ vs
  · unfold wipeE at e
    rw [over_in hi] at e
    obtain ⟨_, _, z⟩ := Option.map_eq_some_iff.mp e
    cases z
  · obtain ⟨s', hs'⟩ := g.sub.fill i s e
    exact ⟨s', by unfold wipeE; rw [over_out hi]; exact hs'⟩
theorem restE_plain_own (o : okC vs env = true) {i : Nat} {ob : O} (h : (restE vs env env1)[i]? = some (some (.own ob))) : i ∉ vs ∧ env1[i]? = some (some (.own ob)) := by
  by_cases hi : i ∈ vs
  · unfold restE at h
    rw [over_in hi] at h
    obtain ⟨_, _, z⟩ := Option.map_eq_some_iff.mp h
    cases q : env[i]? with
    | none => rw [q] at z; cases z
    | some s =>
      rw [q] at z
      exact absurd (.inl ⟨ob, by rw [q]; exact congrArg _ z⟩) (okC_not o hi)
  · unfold restE at h
    rw [over_out hi] at h
    exact ⟨hi, h⟩
theorem restE_plain_bor (o : okC vs env = true) {i : Nat} {ob : O} (h : (restE vs env env1)[i]? = some (some (.bor ob))) : i ∉ vs ∧ env1[i]? = some (some (.bor ob)) := by
  by_cases hi : i ∈ vs
  · unfold restE at h
    rw [over_in hi] at h
    obtain ⟨_, _, z⟩ := Option.map_eq_some_iff.mp h
    cases q : env[i]? with
    | none => rw [q] at z; cases z
    | some s =>
      rw [q] at z
      exact absurd (.inr ⟨ob, by rw [q]; exact congrArg _ z⟩) (okC_not o hi)
  · unfold restE at h
    rw [over_out hi] at h
    exact ⟨hi, h⟩
/-- .. and out of the block -/
theorem Go.rest (o : okC vs env = true) (g : Go T0 T1 (wipeE vs env) env1 al al H H1) : Go T0 T1 env (restE vs env env1) al al H H1 := by
  refine ⟨⟨over_len.trans (g.sub.len.trans over_len), fun i ⟨ob, z⟩ => ?_, fun i ⟨ob, z⟩ => ?_, fun i s e => ?_⟩, fun b ob hb e => g.keep b ob (fun i hi => hb i (wipeE_isC hi).2) e, g.dom, g.low, fun a z => (g.up a z).imp tt_wipeE id⟩
  · obtain ⟨_, z⟩ := restE_plain_own o z
    exact (g.sub.own i ⟨ob, z⟩).imp (fun q => ⟨(wipeE_own q.1).2, q.2⟩) id
  · obtain ⟨_, z⟩ := restE_plain_bor o z
    obtain ⟨q, w⟩ := g.sub.bor i ⟨ob, z⟩
    exact ⟨(wipeE_bor q).2, w⟩
  · by_cases hi : i ∈ vs
    · refine ⟨s, ?_⟩
      unfold restE
      rw [over_in hi, e]
      have hl : i < env1.length := by rw [g.sub.len]; unfold wipeE; rw [over_len]; exact (List.getElem?_eq_some_iff.mp e).1
      rw [List.getElem?_eq_getElem hl]
      rfl
    · obtain ⟨s', hs'⟩ := g.sub.fill i s (by unfold wipeE; rw [over_out hi]; exact e)
      exact ⟨s', by unfold restE; rw [over_out hi]; exact hs'⟩
theorem RepE.rest (o : okC vs env = true) (R : RepE G T0 env al σ H) (g : Go T0 T1 (wipeE vs env) env1 al al H H1) (R1 : RepE G T1 env1 al σ1 H1) (hl : σ.length = σ1.length) (hs : ∀ j, j ∉ vs → σ[j]? = σ1[j]?) : RepE G T1 (restE vs env env1) al σ H1 := by
  refine R1.over hl hs ⟨fun j hj s e => ?_⟩
  cases q : env[j]? with
  | none => rw [q] at e; cases e
  | some s' =>
    rw [q] at e
    have e : s' = some s := e
    subst e
    cases s with
    | val d =>
      obtain ⟨v, e1, r⟩ := R.val j d q
      refine ⟨d, v, rfl, e1, ?_⟩
      have Rw : RepE G T0 (wipeE vs env) al (L2.wipe σ vs) H := R.wipe (wipe_length _ _) (fun j hj => wipe_out hj)
      exact g.rp Rw (r.mono (fun _ _ _ e => e) (fun b hb => .inl (tt_wipeE hb)))
    | own ob => exact absurd (.inl ⟨ob, q⟩) (okC_not o hj)
    | bor ob => exact absurd (.inr ⟨ob, q⟩) (okC_not o hj)

/-! ### targets and tests with one meaning in every block -/
def gT (G : Gc) (t : TGt) (ts : List Nat) : TG := fun v σ H Q => ∃ T env al d env', RepE G T env al σ H ∧ Rp G (TT T env al) H d v ∧ t d env = some env' ∧
  ∀ T' σ' H', RepE G T' env' al σ' H' → Go T T' env env' al al H H' → (∀ j, j ∉ ts → σ'[j]? = σ[j]?) → σ'.length = σ.length → Q σ' H'
theorem DG.pg {tg : Expr} {t : TGt} {ts : List Nat} (d : DG G X tg t ts) : PG X tg (gT G t ts) := by
  obtain ⟨g, p, q⟩ := d
  exact ⟨fun pins s σ H v u Q I r ⟨T, env, al, d, env', R, rp, et, k⟩ => p.run pins s σ H v u Q I r (q T env al σ H d v env' Q R rp et k)⟩
def DTs (G : Gc) (X : Cx) (W : WX) (ifs : List Expr) (c : DEn) : Prop := PTs X ifs (tT G W c)
def cYes : DEn := ret (.bl true)
theorem dts_nil : DTs G X W [] cYes := ⟨fun pins s σ H Q I ⟨T0, env, al, A⟩ => pts_nil.run pins s σ H Q I (by
  obtain ⟨b, e, q⟩ := At.ret (d := .bl true) A _ rfl
  cases e
  exact q)⟩
theorem dts_one {ce : Expr} (h : DT G X W ce c) : DTs G X W [ce] c := pts_one h
theorem wipe_in {σ : L2.St} {i : Nat} : ∀ {vs : List Nat}, i ∈ vs → i < σ.length → (L2.wipe σ vs)[i]? = some none
  | v :: vs, h, hl => by
    unfold L2.wipe
    by_cases e : v = i
    · subst e
      exact List.getElem?_set_self (by rw [wipe_length]; exact hl)
    · rw [List.getElem?_set_ne e]
      exact wipe_in ((List.mem_cons.mp h).resolve_left (fun z => e z.symm)) hl
theorem wipe_eq {σ σ' : L2.St} {vs ts : List Nat} (hl : σ'.length = σ.length) (hs : ∀ j, j ∉ vs → σ'[j]? = σ[j]?) : L2.wipe σ' vs = L2.wipe σ vs := by
  apply List.ext_getElem?
  intro i
  by_cases hi : i ∈ vs
  · by_cases h : i < σ.length
    · rw [wipe_in hi h, wipe_in hi (hl ▸ h)]
    · rw [List.getElem?_eq_none (by rw [wipe_length]; omega), List.getElem?_eq_none (by rw [wipe_length]; omega)]
  · rw [wipe_out hi, wipe_out hi]
    exact hs i hi
/-! ### [f for t in s if c] -/
def lcs (vs : List Nat) (t : TGt) (c f : DEn) : List Pd.D → Sv → Option (List Pd.D × Sv)
  | [], env => some ([], env)
  | d :: ds, env => match t d env with
    | none => none
    | some env1 => match c env1 with
      | some (.ok (.val (.bl true)), env2) => match f env2 with
        | some (.ok r, env3) => match toVal r env3 with
          | some (y, env4) => (lcs vs t c f ds (wipeE vs env4)).map fun p => (y :: p.1, p.2)
          | none => none
        | _ => none
      | some (.ok (.val (.bl false)), env2) => lcs vs t c f ds (wipeE vs env2)
      | _ => none
def cLc (s : DIn) (vs : List Nat) (t : TGt) (c f : DEn) : DEn := fun env => match s env with
  | none => none
  | some (.error x, env1) => some (.error x, env1)
  | some (.ok ds, env1) => if okC vs env1 then (lcs vs t c f ds (wipeE vs env1)).map fun p => (.ok (.new (.lst p.1)), restE vs env1 p.2) else none
theorem Go.upd {o : HO} {D : Addr} (g : Go T0 T1 env env1 al al1 H H1) (n : H D = none) : Go T0 T1 env env1 al al1 H (L2.upd H1 D o) := by
  refine ⟨g.sub, fun b ob hb e => ?_, fun b hb => ?_, g.low, g.up⟩
  · have : b ≠ D := fun z => by rw [z, n] at e; cases e
    rw [upd_ne this]
    exact g.keep b ob hb e
  · by_cases z : b = D
    · rw [z, upd_same]; exact fun z => nomatch z
    · rw [upd_ne z]; exact g.dom b hb
theorem RepE.upd {o : HO} {D : Addr} (R : RepE G T env al σ H) (t : T D) (n : ∀ j, isC env j → al j ≠ D) : RepE G T env al σ (L2.upd H D o) := by
  have k : ∀ b ob, ¬ TT T env al b → H b = some ob → L2.upd H D o b = some ob := fun b ob hb e => by
    have : b ≠ D := fun z => hb (.inl (z ▸ t))
    rw [upd_ne this]; exact e
  refine ⟨R.len, fun j d e => ?_, fun j ob e => ?_, fun j ob e => ?_, R.inj, fun a z => ?_⟩
  · obtain ⟨v, e1, q⟩ := R.val j d e
    exact ⟨v, e1, q.mono k (fun _ z => .inl z)⟩
  · obtain ⟨e1, n', a⟩ := R.own j ob e
    exact ⟨e1, n', a.mono k (fun _ z => .inl z) (upd_ne (n j (.inl ⟨ob, e⟩)))⟩
  · obtain ⟨e1, n', a⟩ := R.bor j ob e
    exact ⟨e1, n', a.mono k (fun _ z => .inl z) (upd_ne (n j (.inr ⟨ob, e⟩)))⟩
  · by_cases z2 : a = D
    · rw [z2, upd_same]; exact fun z => nomatch z
    · rw [upd_ne z2]; exact R.t0 a z
theorem Rps.upd {o : HO} {D : Addr} {ds : List Pd.D} {xs : List V} (t : TT T env al D) (h : Rps G (TT T env al) H ds xs) : Rps G (TT T env al) (L2.upd H D o) ds xs :=
  h.mono (fun b ob hb e => by
    have : b ≠ D := fun z => hb (z ▸ t)
    rw [upd_ne this]; exact e) (fun _ z => .inl z)
theorem lc_ok {s : DIn} {t : TGt} {ts : List Nat} (hts : ∀ j, j ∈ ts → j ∈ vs) : tD G W (cLc s vs t c f) σ H Q → tLc (tI G W s) (gT G t ts) (tT G W0 c) (tD G W0 f) vs σ H Q := by
  rintro ⟨T0, env, al, r, env', R, e, p⟩
  unfold cLc at e
  cases es : s env with
  | none => rw [es] at e; cases e
  | some q =>
  obtain ⟨r1, env1⟩ := q
  rw [es] at e
  refine ⟨T0, env, al, r1, env1, R, es, fun T1 H1 g1 R1 => ?_⟩
  cases r1 with
  | error x =>
    simp only [Option.some.injEq, Prod.mk.injEq] at e
    obtain ⟨rfl, rfl⟩ := e
    exact p T1 H1 g1 R1
  | ok ds =>
  intro J w D hD
  simp only at e
  split at e
  case isFalse => cases e
  rename_i ok
  obtain ⟨⟨esD, envn⟩, el, e⟩ := Option.map_eq_some_iff.mp e
  simp only [Prod.mk.injEq] at e
  obtain ⟨rfl, rfl⟩ := e
  have nD : ∀ j, isC env1 j → al j ≠ D := fun j hj z => by
    rcases hj with ⟨o2, hj⟩ | ⟨o2, hj⟩
    · exact (R1.own j o2 hj).2.2.some (z ▸ hD)
    · exact (R1.bor j o2 hj).2.2.some (z ▸ hD)
  have Rw0 : RepE G T1 (wipeE vs env1) al (L2.wipe σ vs) H1 := R1.wipe (wipe_length _ _) (fun j hj => wipe_out hj)
  have Rw : RepE G (fun a => T1 a ∨ a = D) (wipeE vs env1) al (L2.wipe σ vs) (L2.upd H1 D (.lst [])) := Rw0.plus hD (same_new hD) (by rw [upd_same]; exact fun z => nomatch z)
  have gP : Go T1 (fun a => T1 a ∨ a = D) (wipeE vs env1) (wipeE vs env1) al al H1 (L2.upd H1 D (.lst [])) :=
    ⟨Sub.refl, fun b o _ e => same_new hD b o e, fun _ h => same_dom (same_new hD) h, fun _ z => .inl z, fun a z => z.elim (fun z => .inl (.inl z)) fun z => .inr (z ▸ hD)⟩
  refine ⟨fun i m H' => m = ds.length - i ∧ i ≤ ds.length ∧ ∃ T2 env2 acc accD rest, Go T1 T2 (wipeE vs env1) env2 al al H1 H' ∧ RepE G T2 env2 al (L2.wipe σ vs) H' ∧ T2 D ∧ (∀ j, isC env2 j → al j ≠ D) ∧ H' D = some (.lst acc) ∧ Rps G (TT T2 env2 al) H' accD acc ∧ accD.length ≤ i ∧ lcs vs t c f (ds.drop i) env2 = some (rest, envn) ∧ accD ++ rest = esD,
    ⟨ds.length, rfl, Nat.zero_le _, _, _, [], [], esD, gP, Rw, .inr rfl, fun j hj => nD j (wipeE_isC hj).2, upd_same, Rps.nil, Nat.zero_le _, el, rfl⟩, ?_⟩
  rintro i m H2 ⟨rfl, hi, T2, env2, acc, accD, rest, g2, R2, tD2, nD2, hD2, ra, la, el2, ea⟩
  have hw := w.2 i H2 (TT T2 env2 al) (fun a z => R2.tt z) (fun b o hb e => g2.keep b o (fun i hi => hb i (wipeE_isC hi).2) e) (fun d v r => g2.rp Rw0 (r.mono (fun _ _ _ e => e) (fun b hb => .inl (tt_wipeE hb))))
  by_cases hlt : i < ds.length
  · have hd : ds[i]? = some ds[i] := List.getElem?_eq_getElem hlt
    obtain ⟨go, yl⟩ := hw.1 _ hd
    have ed : ds.drop i = ds[i] :: ds.drop (i + 1) := List.drop_eq_getElem_cons hlt
    rw [ed] at el2
    simp only [lcs] at el2
    cases et : t ds[i] env2 with
    | none => simp only [et] at el2; cases el2
    | some env3 =>
    simp only [et] at el2
    refine .inr ⟨go, fun H' => ∃ m', m' < ds.length - i ∧ (m' = ds.length - (i + 1) ∧ i + 1 ≤ ds.length ∧ ∃ T2 env2 acc accD rest, Go T1 T2 (wipeE vs env1) env2 al al H1 H' ∧ RepE G T2 env2 al (L2.wipe σ vs) H' ∧ T2 D ∧ (∀ j, isC env2 j → al j ≠ D) ∧ H' D = some (.lst acc) ∧ Rps G (TT T2 env2 al) H' accD acc ∧ accD.length ≤ i + 1 ∧ lcs vs t c f (ds.drop (i + 1)) env2 = some (rest, envn) ∧ accD ++ rest = esD), fun H' z => z, fun x H' y => ?_⟩
    obtain ⟨sm, rx⟩ := yl x H' y
    have R2' := R2.same sm
    refine ⟨T2, env2, al, ds[i], env3, R2', rx, et, fun T3 σ3 H3 R3 g3 k3 l3 => ?_⟩
    have k3' : ∀ j, j ∉ vs → σ3[j]? = (L2.wipe σ vs)[j]? := fun j hj => k3 j (fun z => hj (hts j z))
    have wq : L2.wipe σ3 vs = L2.wipe σ vs := by
      have z := wipe_eq (ts := ts) l3 k3'
      rw [z]
      exact wipe_eq (ts := ts) (wipe_length _ _) (fun j hj => wipe_out hj)
    refine ⟨wq, ?_⟩
    -- a turn's end, from a state over σ3
    have back : ∀ {T4 env4 H4}, RepE G T4 env4 al σ3 H4 → RepE G T4 (wipeE vs env4) al (L2.wipe σ vs) H4 := fun R4 => R4.wipe (l3.symm ▸ rfl) (fun j hj => (k3' j hj).symm)
    cases ec : c env3 with
    | none => simp only [ec] at el2; cases el2
    | some q =>
    obtain ⟨rc, env4⟩ := q
    simp only [ec] at el2
    refine ⟨T3, env3, al, rc, env4, R3, ec, fun T4 H4 g4 R4 => ?_⟩
    have g24 : Go T2 T4 env2 env4 al al H2 H4 := ((Go.same sm).trans g3).trans g4
    have nD4 : ∀ {T5 env5 H5}, Go T2 T5 env2 env5 al al H2 H5 → ∀ j, isC env5 j → al j ≠ D := fun gg j hj z => by
      rcases gg.isC hj with ⟨h1, _⟩ | h1
      · exact nD2 j h1 z
      · rw [z, hD2] at h1; cases h1
    split at el2
    · -- the item is taken
      rename_i env4' eq1
      simp only [Option.some.injEq, Prod.mk.injEq] at eq1
      obtain ⟨rfl, rfl⟩ := eq1
      intro v o
      cases o
      refine ⟨true, rfl, ?_⟩
      refine iteT ?_
      cases ef : f env4 with
      | none => simp only [ef] at el2; cases el2
      | some q =>
      obtain ⟨rf, env5⟩ := q
      simp only [ef] at el2
      cases rf with
      | error x => cases el2
      | ok rf =>
      simp only at el2
      cases ev : toVal rf env5 with
      | none => simp only [ev] at el2; cases el2
      | some q =>
      obtain ⟨dy, env6⟩ := q
      simp only [ev] at el2
      obtain ⟨⟨rest', envn'⟩, el3, e3⟩ := Option.map_eq_some_iff.mp el2
      simp only [Prod.mk.injEq] at e3
      obtain ⟨rfl, rfl⟩ := e3
      refine ⟨T4, env4, al, .ok rf, env5, R4, ef, fun T5 H5 g5 R5 v o => ?_⟩
      obtain ⟨T', g', R', rp, _⟩ := toVal_ok g5 R4 R5 o ev
      have g26 := g24.trans g'
      have hD5 : H5 D = some (.lst acc) := g26.keep D _ nD2 hD2
      have tD5 : T' D := g26.low D tD2
      have ra5 := g26.rps R2 ra
      have l5 : acc.length ≤ i := by rw [← ra.length]; exact la
      refine ⟨acc, hD5, lim_line' (by have := w.1; omega), _, by omega, rfl, hlt, T', wipeE vs env6, acc ++ [v], accD ++ [dy], rest', ?_, (back R').upd tD5 (fun j hj => nD4 g26 j (wipeE_isC hj).2), tD5, fun j hj => nD4 g26 j (wipeE_isC hj).2, upd_same, ?_, ?_, el3, ?_⟩
      · exact (((g2.trans g26).wiped)).upd hD
      · refine Rps.upd (.inl tD5) (Rps.mono (fun _ _ _ e => e) (fun b hb => .inl (tt_wipeE hb)) _ _ (ra5.append (Rps.one rp)))
      · rw [List.length_append, List.length_singleton]; omega
      · rw [List.append_assoc]; exact ea
    · rename_i env4' eq1
      simp only [Option.some.injEq, Prod.mk.injEq] at eq1
      obtain ⟨rfl, rfl⟩ := eq1
      intro v o
      cases o
      refine ⟨false, rfl, ?_⟩
      refine iteF ?_
      refine ⟨_, by omega, rfl, hlt, T4, wipeE vs env4, acc, accD, rest, (g2.trans g24).wiped, back R4, g24.low D tD2, fun j hj => nD4 g24 j (wipeE_isC hj).2, g24.keep D _ nD2 hD2, ?_, by omega, el2, ea⟩
      exact Rps.mono (fun _ _ _ e => e) (fun b hb => .inl (tt_wipeE hb)) _ _ (g24.rps R2 ra)
    · cases el2
  · have ei : i = ds.length := by omega
    refine .inl ⟨hw.2 ei, ?_⟩
    rw [ei, List.drop_length] at el2
    simp only [lcs, Option.some.injEq, Prod.mk.injEq] at el2
    obtain ⟨rfl, rfl⟩ := el2
    rw [List.append_nil] at ea
    subst ea
    have tr : ∀ a, TT T2 (restE vs env1 env2) al a → TT T2 env2 al a := fun a z => by
      rcases z with z | ⟨j, ⟨ob, z⟩, e⟩
      · exact .inl z
      · exact .inr ⟨j, ⟨ob, (restE_plain_own ok z).2⟩, e⟩
    refine p T2 H2 (g1.trans (g2.rest ok)) (R1.rest ok g2 R2 (wipe_length _ _).symm (fun j hj => (wipe_out hj).symm)) (.ref D) ⟨D, rfl, none_of_dom g1.dom hD, tD2, fun j hj => ?_, acc, hD2, by have := w.1; omega, ra.mono (fun _ _ _ e => e) (fun b hb => .inl (tr b hb))⟩
    rcases hj with ⟨ob, z⟩ | ⟨ob, z⟩
    · exact nD2 j (.inl ⟨ob, (restE_plain_own ok z).2⟩)
    · exact nD2 j (.inr ⟨ob, (restE_plain_bor ok z).2⟩)
theorem de_lc {elt tg iter : Expr} {ifs : List Expr} {scope : Scope} {own : List (Str × Nat)} {s : DIn} {t : TGt} {ts : List Nat} (hc : X.calm = true) (hN : X.N.Nodup) (hi : DI G X W tg iter s) (ok : BlkOk X.N X.env.scope scope own)
    (hg : ∀ (s : Shared) (H : Hp) (C : Addr) (cl : List (Str × Addr)) (fp : List Addr), DG G (X.blk s H scope (compEnvC scope cl C X.env) fp) tg t ts) (ht : ∀ (s : Shared) (H : Hp) (C : Addr) (cl : List (Str × Addr)) (fp : List Addr), DTs G (X.blk s H scope (compEnvC scope cl C X.env) fp) W0 ifs c)
    (he : ∀ (s : Shared) (H : Hp) (C : Addr) (cl : List (Str × Addr)) (fp : List Addr), DE G (X.blk s H scope (compEnvC scope cl C X.env) fp) W0 elt f) (hts : ∀ j, j ∈ ts → j ∈ own.map (·.2) := by decide) (hs : ∀ x, foldedSetIterable iter X.env x = pure x := by intro _; rfl) :
    DE G X W (.ListComp elt [⟨tg, iter, ifs, 0⟩] scope pos) (cLc s (own.map (·.2)) t c f) :=
  DE.of (pe_lc hc hN hi ok (fun s H C cl fp => (hg s H C cl fp).pg) ht he hs) fun σ H Q q => lc_ok hts q
theorem ds_setLc {i : Nat} {y : Str} {py spos : Pos} {elt tg iter : Expr} {ifs : List Expr} {scope : Scope} {own : List (Str × Nat)} {s : DIn} {t : TGt} {ts : List Nat} (hc : X.calm = true) (hN : X.N.Nodup) (hi : DI G X W tg iter s) (ok : BlkOk X.N X.env.scope scope own)
    (hg : ∀ (s : Shared) (H : Hp) (C : Addr) (cl : List (Str × Addr)) (fp : List Addr), DG G (X.blk s H scope (compEnvC scope cl C X.env) fp) tg t ts) (ht : ∀ (s : Shared) (H : Hp) (C : Addr) (cl : List (Str × Addr)) (fp : List Addr), DTs G (X.blk s H scope (compEnvC scope cl C X.env) fp) W0 ifs c)
    (he : ∀ (s : Shared) (H : Hp) (C : Addr) (cl : List (Str × Addr)) (fp : List Addr), DE G (X.blk s H scope (compEnvC scope cl C X.env) fp) W0 elt f) (hsw : swapsWith (.ListComp elt [⟨tg, iter, ifs, 0⟩] scope pos) (some (.Name y py)) spos.line X.env = pure true) (hy : X.N[i]? = some y := by rfl) (hyl : X.env.scope.names.lookup y = some .local := by rfl)
    (hts : ∀ j, j ∈ ts → j ∈ own.map (·.2) := by decide) (hs : ∀ x, foldedSetIterable iter X.env x = pure x := by intro _; rfl) :
    DS G X W (.Assign [.Name y py] (.ListComp elt [⟨tg, iter, ifs, 0⟩] scope pos) spos) (cSet i (cLc s (own.map (·.2)) t c f)) :=
  DS.of (ps_setLc hc hN hy hyl hsw hi ok (fun s H C cl fp => (hg s H C cl fp).pg) ht he hs) (set_core fun σ H Q q => lc_ok hts q)
end
end Pd

namespace Pd
open PySem PySem.Spec PyProof.Rows L2
def getS (env : Sv) (i : Nat) : Option O := match env[i]? with
  | some (some (.own o)) => some o
  | some (some (.bor o)) => some o
  | _ => none
def putS (env : Sv) (i : Nat) (o : O) : Option Sv := match env[i]? with
  | some (some (.own _)) => some (env.set i (some (.own o)))
  | some (some (.bor _)) => some (env.set i (some (.bor o)))
  | _ => none
section
variable {G : Gc} {X : Cx} {W : WX} {T T0 T1 T2 : Addr → Prop} {env env0 env1 env2 env' : Sv} {al al1 al2 : Nat → Addr} {σ σ1 : L2.St} {H0 H H1 H2 : Hp} {Q Q1 : VK} {f h : DEn} {k : Out → DEn} {pos : Pos} {e e1 e2 e3 : Expr} {es : List Expr} {ks : List AK} {i : Nat} {o o' : O}
theorem getS_cases (h : getS env i = some o) : env[i]? = some (some (.own o)) ∨ env[i]? = some (some (.bor o)) := by
  unfold getS at h
  split at h
  · cases h; exact .inl ‹_›
  · cases h; exact .inr ‹_›
  · cases h
theorem getS_isC (h : getS env i = some o) : isC env i := (getS_cases h).imp (fun z => ⟨o, z⟩) (fun z => ⟨o, z⟩)
theorem RepE.slot (R : RepE G T env al σ H) (h : getS env i = some o) : σ[i]? = some (some (.ref (al i))) ∧ OAt G (TT T env al) H (al i) o ∧ TT T env al (al i) := by
  rcases getS_cases h with z | z
  · obtain ⟨a, _, b⟩ := R.own i o z
    exact ⟨a, b, .inr ⟨i, ⟨o, z⟩, rfl⟩⟩
  · obtain ⟨a, t, b⟩ := R.bor i o z
    exact ⟨a, b, .inl t⟩
theorem putS_get (h : putS env i o' = some env') : ∃ s s', env[i]? = some (some s) ∧ env' = env.set i (some s') ∧ ((∃ o, s = .own o ∧ s' = .own o') ∨ (∃ o, s = .bor o ∧ s' = .bor o')) := by
  unfold putS at h
  split at h
  · cases h; exact ⟨_, _, ‹_›, rfl, .inl ⟨_, rfl, rfl⟩⟩
  · cases h; exact ⟨_, _, ‹_›, rfl, .inr ⟨_, rfl, rfl⟩⟩
  · cases h
theorem putS_own (h : putS env i o' = some env') {j : Nat} : ownI env' j ↔ ownI env j := by
  obtain ⟨s, s', e, rfl, c⟩ := putS_get h
  have hl : i < env.length := (List.getElem?_eq_some_iff.mp e).1
  by_cases hj : j = i
  · subst hj
    unfold ownI
    rw [List.getElem?_set_self hl, e]
    rcases c with ⟨o, rfl, rfl⟩ | ⟨o, rfl, rfl⟩
    · exact ⟨fun _ => ⟨_, rfl⟩, fun _ => ⟨_, rfl⟩⟩
    · exact ⟨fun ⟨_, z⟩ => (by cases z), fun ⟨_, z⟩ => (by cases z)⟩
  · unfold ownI
    rw [List.getElem?_set_ne (Ne.symm hj)]
theorem putS_bor (h : putS env i o' = some env') {j : Nat} : borI env' j ↔ borI env j := by
  obtain ⟨s, s', e, rfl, c⟩ := putS_get h
  have hl : i < env.length := (List.getElem?_eq_some_iff.mp e).1
  by_cases hj : j = i
  · subst hj
    unfold borI
    rw [List.getElem?_set_self hl, e]
    rcases c with ⟨o, rfl, rfl⟩ | ⟨o, rfl, rfl⟩
    · exact ⟨fun ⟨_, z⟩ => (by cases z), fun ⟨_, z⟩ => (by cases z)⟩
    · exact ⟨fun _ => ⟨_, rfl⟩, fun _ => ⟨_, rfl⟩⟩
  · unfold borI
    rw [List.getElem?_set_ne (Ne.symm hj)]
theorem putS_isC (h : putS env i o' = some env') {j : Nat} : isC env' j ↔ isC env j := or_congr (putS_own h) (putS_bor h)
theorem putS_tt (h : putS env i o' = some env') : TT T env' al = TT T env al := by
  funext a
  exact propext ⟨fun z => z.imp id fun ⟨j, hj, e⟩ => ⟨j, (putS_own h).mp hj, e⟩, fun z => z.imp id fun ⟨j, hj, e⟩ => ⟨j, (putS_own h).mpr hj, e⟩⟩
theorem putS_ne (h : putS env i o' = some env') {j : Nat} (hj : j ≠ i) : env'[j]? = env[j]? := by
  obtain ⟨s, s', e, rfl, c⟩ := putS_get h
  exact List.getElem?_set_ne (Ne.symm hj)
theorem putS_at (h : putS env i o' = some env') : (∃ o, env[i]? = some (some (.own o)) ∧ env'[i]? = some (some (.own o'))) ∨ (∃ o, env[i]? = some (some (.bor o)) ∧ env'[i]? = some (some (.bor o'))) := by
  obtain ⟨s, s', e, rfl, c⟩ := putS_get h
  have hl : i < env.length := (List.getElem?_eq_some_iff.mp e).1
  rw [List.getElem?_set_self hl, e]
  rcases c with ⟨o, rfl, rfl⟩ | ⟨o, rfl, rfl⟩
  · exact .inl ⟨o, rfl, rfl⟩
  · exact .inr ⟨o, rfl, rfl⟩
/-- the thing in slot i has other contents -/
theorem RepE.store (R : RepE G T env al σ H) (hp : putS env i o' = some env') (k : ∀ b, b ≠ al i → H1 b = H b) (n : H1 (al i) ≠ none) (a : OAt G (TT T env al) H1 (al i) o') :
    RepE G T env' al σ H1 ∧ Go T T env env' al al H H1 := by
  have tt : TT T env' al = TT T env al := putS_tt hp
  have ic : isC env i := by
    rcases putS_at hp with ⟨o, z, _⟩ | ⟨o, z, _⟩
    · exact .inl ⟨o, z⟩
    · exact .inr ⟨o, z⟩
  have ti : TT T env al (al i) := by
    rcases putS_at hp with ⟨o, z, _⟩ | ⟨o, z, _⟩
    · exact .inr ⟨i, ⟨o, z⟩, rfl⟩
    · exact .inl (R.bor i o z).2.1
  have kk : ∀ b ob, ¬ TT T env al b → H b = some ob → H1 b = some ob := fun b ob hb e => by
    rw [k b (fun z => hb (z ▸ ti))]; exact e
  have ne : ∀ j, isC env j → j ≠ i → al j ≠ al i := fun j hj h z => h (R.inj j i hj ic z)
  refine ⟨⟨?_, fun j d e => ?_, fun j ob e => ?_, fun j ob e => ?_, fun a b ha hb e => R.inj a b ((putS_isC hp).mp ha) ((putS_isC hp).mp hb) e, fun b z => ?_⟩, ⟨?_, fun j hj => .inl ⟨(putS_own hp).mp hj, rfl⟩, fun j hj => ⟨(putS_bor hp).mp hj, rfl⟩, fun j s e => ?_⟩, fun b ob hb e => ?_, fun b hb => ?_, fun _ z => z, fun _ z => .inl (.inl z)⟩
  · obtain ⟨s, s', e, rfl, c⟩ := putS_get hp
    rw [List.length_set]; exact R.len
  · have hj : j ≠ i := fun z => by
      subst z
      rcases putS_at hp with ⟨o, _, w⟩ | ⟨o, _, w⟩ <;> rw [e] at w <;> cases w
    rw [putS_ne hp hj] at e
    obtain ⟨v, e1, q⟩ := R.val j d e
    exact ⟨v, e1, by rw [tt]; exact q.mono kk (fun _ z => .inl z)⟩
  · by_cases hj : j = i
    · subst hj
      rcases putS_at hp with ⟨o, w, w'⟩ | ⟨o, w, w'⟩
      · rw [e] at w'; cases w'
        obtain ⟨e1, n', _⟩ := R.own j o w
        exact ⟨e1, n', by rw [tt]; exact a⟩
      · rw [e] at w'; cases w'
    · rw [putS_ne hp hj] at e
      obtain ⟨e1, n', a'⟩ := R.own j ob e
      exact ⟨e1, n', by rw [tt]; exact a'.mono kk (fun _ z => .inl z) (k _ (ne j (.inl ⟨ob, e⟩) hj))⟩
  · by_cases hj : j = i
    · subst hj
      rcases putS_at hp with ⟨o, w, w'⟩ | ⟨o, w, w'⟩
      · rw [e] at w'; cases w'
      · rw [e] at w'; cases w'
        obtain ⟨e1, n', _⟩ := R.bor j o w
        exact ⟨e1, n', by rw [tt]; exact a⟩
    · rw [putS_ne hp hj] at e
      obtain ⟨e1, n', a'⟩ := R.bor j ob e
      exact ⟨e1, n', by rw [tt]; exact a'.mono kk (fun _ z => .inl z) (k _ (ne j (.inr ⟨ob, e⟩) hj))⟩
  · by_cases z2 : b = al i
    · rw [z2]; exact n
    · rw [k b z2]; exact R.t0 b z
  · obtain ⟨s, s', e, rfl, c⟩ := putS_get hp
    exact List.length_set
  · by_cases hj : j = i
    · subst hj
      rcases putS_at hp with ⟨o, _, w⟩ | ⟨o, _, w⟩ <;> exact ⟨_, w⟩
    · exact ⟨s, by rw [putS_ne hp hj]; exact e⟩
  · rw [k b (fun z => hb i ic z.symm)]; exact e
  · by_cases z2 : b = al i
    · rw [z2]; exact n
    · rw [k b z2]; exact hb
theorem Rps.store {u : HO} (ds : List Pd.D) (xs : List V) (R : RepE G T env al σ H) (t : TT T env al (al i)) (h : Rps G (TT T env al) H ds xs) : Rps G (TT T env al) (L2.upd H (al i) u) ds xs := Rps.upd t h
theorem Rp.upd {ho : HO} {D : Addr} {d : Pd.D} {x : V} (t : TT T env al D) (h : Rp G (TT T env al) H d x) : Pd.Rp G (TT T env al) (L2.upd H D ho) d x :=
  h.mono (fun b ob hb e => by
    have : b ≠ D := fun z => hb (z ▸ t)
    rw [upd_ne this]; exact e) (fun _ z => .inl z)
/-! ### xs.append(e) -/
def cApp (i : Nat) (f : DEn) : DEn := fun env => match getS env i with
  | some (.lst _) => bindV f (fun d env1 => match getS env1 i with
    | some (.lst ds) => if ds.length < LIM then (match putS env1 i (.lst (ds ++ [d])) with
      | some env2 => some (.ok (.val .non), env2)
      | none => none) else none
    | _ => none) env
  | _ => none
theorem de_append {x : Expr} {apos : Pos} (hx : PE X x (tVar i)) (hK : X.K = G.K) (he : DE G X W e f) (hs : starEach [e] X.env = [(false, eval e X.env)] := by rfl)
    (hbase : attributeBase x "append" X.env (eval x X.env) = eval x X.env := by rfl) (hline : (apos.endLine == pos.line) = true := by rfl)
    (hfew : ((backTo pos (starEach [e] X.env)).all (fun x => !x.1) && (backToKw pos (keywordEach [] X.env)).all (fun x => x.1.isSome)
      && decide ([e].length + ([] : List Keyword).length + (if ([] : List Keyword).isEmpty then 0 else 1) < 30)) = true := by rfl) : DE G X W (.Call (.Attribute x "append" apos) [e] [] pos) (cApp i f) :=
  DE.of (pe_bm PySem.F.plainAttrs_list PySem.F.slot_list_append PySem.F.type_list_append mt_append hx (pa_cons he pa_nil hs) hbase hfew hline hs rfl) fun σ H Q ⟨T0, env, al, r, env', R, e, p⟩ => by
    unfold cApp at e
    split at e
    · rename_i ds0 eg
      obtain ⟨hσ, hO, ti⟩ := R.slot eg
      obtain ⟨xs0, e0, _, _⟩ := hO
      refine ⟨_, hσ, .inl ⟨rfl, _, by rw [hK]; exact SqL.of e0⟩, ?_⟩
      refine At.bindV ⟨r, env', R, e, p⟩ fun T1 env1 H1 d v g R1 rp ⟨r2, env2, _, e2, p2⟩ => ?_
      simp only at e2
      split at e2
      · rename_i ds eg1
        split at e2
        · rename_i hl
          split at e2
          · rename_i env3 ep
            simp only [Option.some.injEq, Prod.mk.injEq] at e2
            obtain ⟨rfl, rfl⟩ := e2
            obtain ⟨hσ1, ⟨xs, e1, l1, q1⟩, ti1⟩ := R1.slot eg1
            rw [hσ] at hσ1
            refine ⟨al i, xs, v, rfl, rfl, e1, by rw [← q1.length]; exact lim_line' (Nat.le_of_lt hl), ?_⟩
            obtain ⟨R3, g3⟩ := R1.store (H1 := upd H1 (al i) (.lst (xs ++ [v]))) ep (fun b hb => upd_ne hb) (by rw [upd_same]; exact fun z => nomatch z)
              ⟨_, upd_same, by rw [List.length_append, List.length_singleton]; omega, (Rps.upd ti1 q1).append (Rps.one (Rp.upd ti1 rp))⟩
            exact p2 T1 _ g3 R3 .non rfl
          · cases e2
        · cases e2
      · cases e2
    · cases e
/-! ### xs[i] = .. -/
def tSub (i : Nat) (f : DEn) : TGt := fun d env => match getS env i with
  | some _ => match f env with
    | some (.ok (.val (.int k)), env1) => match getS env1 i with
      | some (.lst ds) => match ixN ds.length k with
        | some j => putS env1 i (.lst (ds.set j d))
        | none => none
      | _ => none
    | _ => none
  | none => none
theorem dg_sub {x ix : Expr} {p : Pos} (hx : PE X x (tVar i)) (hi : DE G X W0 ix f) (ha : ∀ v, assign (.Subscript x ix p) X.env v = (do
      let ov ← holding [v] (eval x X.env)
      let iv ← holding [v, ov] (eval ix X.env)
      standAt p
      holding [v, ov, iv] (setItem ov iv v)
      release [v, ov, iv] []) := by intro _; rfl) : DG G X (.Subscript x ix p) (tSub i f) [] :=
  ⟨_, pg_sub hx hi set_list ha, fun T env al σ H d v env' Q R r e q => by
    unfold tSub at e
    split at e
    · rename_i o0 eg
      obtain ⟨hσ, hO, ti⟩ := R.slot eg
      refine ⟨_, hσ, ?_⟩
      split at e
      · rename_i k env1 ef
        refine ⟨T, env, al, _, _, R, ef, fun T1 H1 g R1 w o => ?_⟩
        cases o
        split at e
        · rename_i ds eg1
          split at e
          · rename_i j ej
            obtain ⟨hσ1, ⟨xs, e1, l1, q1⟩, ti1⟩ := R1.slot eg1
            refine ⟨al i, xs, k, j, rfl, rfl, e1, by rw [← q1.length]; exact ej, ?_⟩
            have r1 := g.rp R r
            obtain ⟨R3, g3⟩ := R1.store (H1 := upd H1 (al i) (.lst (xs.set j v))) e (fun b hb => upd_ne hb) (by rw [upd_same]; exact fun z => nomatch z)
              ⟨_, upd_same, by rw [List.length_set]; exact l1, Rps.set (Rp.upd ti1 r1) j (Rps.upd ti1 q1)⟩
            exact q T1 σ _ R3 (g.trans g3) (fun _ _ => rfl) rfl
          · cases e
        · cases e
      · cases e
    · cases e⟩
/-! ### o.f = e -/
theorem putF_new (f : Str) (v : V) : ∀ (ns : List Str) (xs : List V), ns[xs.length]? = some f → (∀ j, j < xs.length → ns[j]? ≠ some f) → putF f v (ns.zip xs) = ns.zip (xs ++ [v])
  | [], xs, h, _ => by simp at h
  | n :: ns, [], h, _ => by
    simp only [List.length_nil, List.getElem?_cons_zero, Option.some.injEq] at h
    subst h
    cases ns <;> rfl
  | n :: ns, x :: xs, h, hn => by
    have h0 : n ≠ f := fun z => hn 0 (by simp) (by simp [z])
    show (if n = f then _ else _) = _
    rw [if_neg h0]
    have := putF_new f v ns xs (by simpa using h) (fun j hj z => hn (j + 1) (by simpa using hj) (by simpa using z))
    exact congrArg _ this
theorem putF_old (f : Str) (v : V) : ∀ (ns : List Str) (xs : List V) (k : Nat), k < xs.length → ns[k]? = some f → (∀ j, j < k → ns[j]? ≠ some f) → putF f v (ns.zip xs) = ns.zip (xs.set k v)
  | [], xs, k, _, h, _ => by simp at h
  | n :: ns, [], k, hk, _, _ => by simp at hk
  | n :: ns, x :: xs, 0, _, h, _ => by
    simp only [List.getElem?_cons_zero, Option.some.injEq] at h
    subst h
    show (if n = n then _ else _) = _
    rw [if_pos rfl]
    rfl
  | n :: ns, x :: xs, k + 1, hk, h, hn => by
    have h0 : n ≠ f := fun z => hn 0 (by simp) (by simp [z])
    show (if n = f then _ else _) = _
    rw [if_neg h0]
    have := putF_old f v ns xs k (by simpa using hk) (by simpa using h) (fun j hj z => hn (j + 1) (by omega) (by simpa using z))
    exact congrArg _ this
def setF (k : Nat) (d : Pd.D) (ds : List Pd.D) : Option (List Pd.D) := if k < ds.length then some (ds.set k d) else if k = ds.length then some (ds ++ [d]) else none
def cFld (i c k : Nat) (f : DEn) : DSt := onV f fun d env => match getS env i with
  | some (.ins c' ds) => if c' = c then (match setF k d ds with
    | some ds' => match putS env i (.ins c ds') with
      | some env' => some (.nx, env')
      | none => none
    | none => none) else none
  | _ => none
theorem ds_fld {x : Expr} {n : Str} {c k : Nat} {p : Pos} (hK : X.K = G.K) (ht : AttrOk G n c k) (hl : (G.fld c).length < 1000) (hx : PE X x (tVar i)) (he : DE G X W e f) (hs : swapsWith e (some (.Attribute x n p)) pos.line X.env = pure false := by rfl) :
    DS G X W (.Assign [.Attribute x n p] e pos) (cFld i c k f) := DS.of (ps_fld hx he hs) fun D σ H ⟨T0, env, al, A⟩ => A.onV fun T1 env1 H1 d1 v1 g1 R1 o1 ⟨fl, env', _, e, p⟩ => by
  simp only at e
  split at e
  · rename_i c' ds eg
    split at e
    · rename_i hc
      subst hc
      split at e
      · rename_i ds' es
        split at e
        · rename_i env2 ep
          simp only [Option.some.injEq, Prod.mk.injEq] at e
          obtain ⟨rfl, rfl⟩ := e
          obtain ⟨hσ1, ⟨dx, xs, e1, l1, q1⟩, ti1⟩ := R1.slot eg
          have zl : ((G.fld c').zip xs).length < 1000 := by rw [List.length_zip]; omega
          refine ⟨_, hσ1, al i, G.cls c', dx, _, rfl, e1, hK ▸ ht.cl, hK ▸ ht.no, zl, ?_⟩
          have ln := q1.length
          unfold setF at es
          split at es
          · rename_i hk
            cases es
            rw [putF_old n v1 _ xs k (by omega) ht.at_ ht.fst]
            obtain ⟨R3, g3⟩ := R1.store (H1 := upd H1 (al i) (.ins (G.cls c') dx ((G.fld c').zip (xs.set k v1)))) ep (fun b hb => upd_ne hb) (by rw [upd_same]; exact fun z => nomatch z)
              ⟨dx, _, upd_same, by rw [List.length_set]; exact l1, Rps.set (Rp.upd ti1 o1) k (Rps.upd ti1 q1)⟩
            exact p T1 al σ _ g3 R3
          · split at es
            · rename_i hk
              cases es
              have hk' : k = xs.length := by omega
              rw [putF_new n v1 _ xs (by rw [← hk']; exact ht.at_) (fun j hj => ht.fst j (by omega))]
              have kl : k < (G.fld c').length := (List.getElem?_eq_some_iff.mp ht.at_).1
              obtain ⟨R3, g3⟩ := R1.store (H1 := upd H1 (al i) (.ins (G.cls c') dx ((G.fld c').zip (xs ++ [v1])))) ep (fun b hb => upd_ne hb) (by rw [upd_same]; exact fun z => nomatch z)
                ⟨dx, _, upd_same, by rw [List.length_append, List.length_singleton]; omega, (Rps.upd ti1 q1).append (Rps.one (Rp.upd ti1 o1))⟩
              exact p T1 al σ _ g3 R3
            · cases es
        · cases e
      · cases e
    · cases e
  · cases e
/-! ### x op= e, whole numbers -/
def cAug (i : Nat) (g : Int → Int → Int) (f : DEn) : DSt := fun env => match env[i]? with
  | some (some (.val (.int x))) => match f env with
    | some (.ok (.val (.int y)), env1) => some (.nx, env1.set i (some (.val (.int (g x y)))))
    | some (.error x, env1) => some (.err x, env1)
    | _ => none
  | _ => none
theorem ds_aug {op : Operator} {g : Int → Int → Int} (ho : PIp X op (ipI g)) (i : Nat) {x : Str} {p2 : Pos} (hN : X.N.Nodup) (he : DE G X W e f) (hi : X.N[i]? = some x := by rfl) (hx : Loc X.env.scope x := by first | exact .inl rfl | exact .inr rfl) (hf : X.fn x = true ∨ X.env.scope.names.lookup x = some .local := by first | exact .inl rfl | exact .inr rfl | assumption) :
    DS G X W (.AugAssign (.Name x p2) op e pos) (cAug i g f) := DS.of (ps_aug hN hi hx he ho hf) fun D σ H ⟨T0, env, al, fl, env', R, e, p⟩ => by
  unfold cAug at e
  split at e
  · rename_i a ea
    obtain ⟨v, hv, rv⟩ := R.val i _ ea
    cases rv
    refine ⟨_, hv, ?_⟩
    split at e
    · rename_i b env1 ef
      simp only [Option.some.injEq, Prod.mk.injEq] at e
      obtain ⟨rfl, rfl⟩ := e
      refine ⟨T0, env, al, _, _, R, ef, fun T1 H1 g1 R1 w o => ?_⟩
      cases o
      have hi2 : i < env1.length := by rw [g1.sub.len]; exact (List.getElem?_eq_some_iff.mp ea).1
      exact ⟨a, b, rfl, rfl, p T1 al _ H1 (g1.trans (Go.setVal hi2)) (R1.setVal hi2 rfl)⟩
    · rename_i x env1 ef
      simp only [Option.some.injEq, Prod.mk.injEq] at e
      obtain ⟨rfl, rfl⟩ := e
      exact ⟨T0, env, al, _, _, R, ef, fun T1 H1 g1 R1 => p T1 al σ H1 g1 R1⟩
    · cases e
  · cases e
/-! ### a, b = x, y -/
def setAll : List Nat → List Pd.D → Sv → Option Sv
  | [], [], env => some env
  | i :: is, d :: ds, env => if i < env.length then setAll is ds (env.set i (some (.val d))) else none
  | _, _, _ => none
def stAll : List Nat → List V → L2.St → L2.St
  | i :: is, v :: vs, σ => stAll is vs (σ.set i (some v))
  | _, _, σ => σ
theorem setAll_ok : ∀ {is : List Nat} {ds : List Pd.D} {vs : List V} {env env' : Sv} {σ : L2.St}, RepE G T env al σ H → Rps G (TT T env al) H ds vs → setAll is ds env = some env' → RepE G T env' al (stAll is vs σ) H ∧ Go T T env env' al al H H ∧ vs.length = is.length
  | [], [], vs, env, env', σ, R, r, e => by
    cases e
    unfold Rps at r
    subst r
    exact ⟨R, Go.refl, rfl⟩
  | i :: is, d :: ds, vs, env, env', σ, R, r, e => by
    unfold Rps at r
    obtain ⟨x, xs, rfl, rx, rs⟩ := r
    simp only [setAll] at e
    split at e
    · rename_i hi
      obtain ⟨R2, g2, l2⟩ := setAll_ok (R.setVal hi rx) ((Go.setVal hi).rps R rs) e
      exact ⟨R2, (Go.setVal hi).trans g2, by rw [List.length_cons, l2]; rfl⟩
    · cases e
  | [], _ :: _, _, _, _, _, _, _, e => by cases e
  | _ :: _, [], _, _, _, _, _, _, e => by cases e
def cPar2 (i j : Nat) (f h : DEn) : DSt := onV f fun d1 => onV h fun d2 env => match setAll [i, j] [d1, d2] env with
  | some env2 => some (.nx, env2)
  | none => none
theorem ds_par2 (i j : Nat) {x y : Str} {a b : Expr} {px py pt : Pos} {kt k2 pt2} (hc : X.calm = true) (hN : X.N.Nodup) (ha : DE G X W a f) (hb : DE G X W b h)
    (hw : swappedStores [.Tuple [.Name x px, .Name y py] kt pt] (.Tuple [a, b] k2 pt2) X.env = pure (some [x, y])) (hi : X.N[i]? = some x := by rfl) (hj : X.N[j]? = some y := by rfl) (hij : i ≠ j := by decide)
    (hx : X.env.scope.names.lookup x = some .local := by rfl) (hy : X.env.scope.names.lookup y = some .local := by rfl) (s1 : starEach [a, b] X.env = (false, eval a X.env) :: starEach [b] X.env := by rfl) (s2 : starEach [b] X.env = (false, eval b X.env) :: starEach [] X.env := by rfl)
    (hs : swapsWithSole [.Tuple [.Name x px, .Name y py] kt pt] (.Tuple [a, b] k2 pt2) pos.line X.env = pure false := by rfl) : DS G X W (.Assign [.Tuple [.Name x px, .Name y py] kt pt] (.Tuple [a, b] k2 pt2) pos) (cPar2 i j f h) :=
  DS.of (ps_par hc hN hi hj hij hx hy (pa_cons ha (pa_cons hb pa_nil s2) s1) hw hs) fun D σ H ⟨T0, env, al, A⟩ => A.onV fun T1 env1 H1 d1 v1 g1 R1 o1 A1 => A1.onV fun T2 env2 H2 d2 v2 g2 R2 o2 ⟨fl, env', _, e, p⟩ => by
    simp only at e
    split at e
    · rename_i env3 es
      simp only [Option.some.injEq, Prod.mk.injEq] at e
      obtain ⟨rfl, rfl⟩ := e
      obtain ⟨R3, g3, _⟩ := setAll_ok R2 (Rps.cons (g2.rp R1 o1) (Rps.one o2)) es
      exact ⟨v1, v2, rfl, p T2 al _ H2 g3 R3⟩
    · cases e
def cPar3 (i j l : Nat) (f h k : DEn) : DSt := onV f fun d1 => onV h fun d2 => onV k fun d3 env => match setAll [i, j, l] [d1, d2, d3] env with
  | some env2 => some (.nx, env2)
  | none => none
theorem ds_par3 {m : DEn} (i j l : Nat) {x y z : Str} {a b c : Expr} {px py pz pt : Pos} {kt k2 pt2} (hc : X.calm = true) (hN : X.N.Nodup) (ha : DE G X W a f) (hb : DE G X W b h) (hm : DE G X W c m)
    (hw : swappedStores [.Tuple [.Name x px, .Name y py, .Name z pz] kt pt] (.Tuple [a, b, c] k2 pt2) X.env = pure (some [x, y, z])) (hi : X.N[i]? = some x := by rfl) (hj : X.N[j]? = some y := by rfl) (hl : X.N[l]? = some z := by rfl) (hij : i ≠ j := by decide) (hil : i ≠ l := by decide) (hjl : j ≠ l := by decide)
    (hx : X.env.scope.names.lookup x = some .local := by rfl) (hy : X.env.scope.names.lookup y = some .local := by rfl) (hz : X.env.scope.names.lookup z = some .local := by rfl) (s1 : starEach [a, b, c] X.env = (false, eval a X.env) :: starEach [b, c] X.env := by rfl) (s2 : starEach [b, c] X.env = (false, eval b X.env) :: starEach [c] X.env := by rfl) (s3 : starEach [c] X.env = (false, eval c X.env) :: starEach [] X.env := by rfl)
    (hs : swapsWithSole [.Tuple [.Name x px, .Name y py, .Name z pz] kt pt] (.Tuple [a, b, c] k2 pt2) pos.line X.env = pure false := by rfl) : DS G X W (.Assign [.Tuple [.Name x px, .Name y py, .Name z pz] kt pt] (.Tuple [a, b, c] k2 pt2) pos) (cPar3 i j l f h m) :=
  DS.of (L2.ps_par3 hc hN hi hj hl hij hil hjl hx hy hz (pa_cons ha (pa_cons hb (pa_cons hm pa_nil s3) s2) s1) hw hs) fun D σ H ⟨T0, env, al, A⟩ => A.onV fun T1 env1 H1 d1 v1 g1 R1 o1 A1 => A1.onV fun T2 env2 H2 d2 v2 g2 R2 o2 A2 => A2.onV fun T3 env3 H3 d3 v3 g3 R3 o3 ⟨fl, env', _, e, p⟩ => by
    simp only at e
    split at e
    · rename_i env4 es
      simp only [Option.some.injEq, Prod.mk.injEq] at e
      obtain ⟨rfl, rfl⟩ := e
      obtain ⟨R4, g4, _⟩ := setAll_ok R3 (Rps.cons ((g2.trans g3).rp R1 o1) (Rps.cons (g3.rp R2 o2) (Rps.one o3))) es
      exact ⟨v1, v2, v3, rfl, p T3 al _ H3 g4 R4⟩
    · cases e
end
end Pd

namespace Pd
open PySem PySem.Spec PyProof.Rows L2
/-! ### a def of the text, called while nothing is being shown -/
structure FnG (P : Program) (w : World) (K : PySem.W.Frag) (mg : Str → Option Value) (base : Heap) (k : Nat) (f : Addr) (fd : FuncData) (ps : List Str) (sp : Sp) : Prop where
  many : ∀ vs H Q E, sp vs H Q E → vs.length = ps.length
  goes : ∀ (A : Around) (out : List Env) (s : Shared) (H : Hp) (ar : Args) (us : List Value) (vs : List V) (Q : VK) (E : XK), Room k A → A.guards = some [] → Env0 P w K mg base A out s H → BindsTo s fd ar (ps.zip us) → Vals vs us → sp vs H Q E →
    codeAny (model P w) A (.call (.ref f) ar) (CR (L2.CX P w) out P w H s Q E) s
theorem FnG.up {P : Program} {w : World} {K : PySem.W.Frag} {mg : Str → Option Value} {base : Heap} {j k : Nat} {f : Addr} {fd : FuncData} {ps : List Str} {sp : Sp} (F : FnG P w K mg base j f fd ps sp) (h : j ≤ k) : FnG P w K mg base k f fd ps sp :=
  ⟨F.many, fun A out s H ar us vs Q E hr => F.goes A out s H ar us vs Q E (hr.mono h)⟩
theorem deeper_guards {A : Around} {env : Env} (h : A.guards = some []) : (A.deeper env).guards = some [] := h
/-- by its body -/
theorem fn_g {P : Program} {w : World} {K : PySem.W.Frag} {mg : Str → Option Value} {base : Heap} {k : Nat} {f : Addr} {x qual : Str} {st : Stmt} {fd : FuncData} {N ps : List Str} {sp : Sp} (F : L2.Fun K x qual st f fd) (S : FnScope N ps (defScope st)) (hl : ∀ vs H Q E, sp vs H Q E → vs.length = ps.length)
    (body : ∀ (cdv : Value) (A : Around) (out : List Env) (s : Shared) (H : Hp) (vs : List V) (Q : VK) (E : XK), Room k (A.deeper (envOfC qual (defScope st) s.heap.objs.size f cdv)) → (A.deeper (envOfC qual (defScope st) s.heap.objs.size f cdv)).guards = some [] → sp vs H Q E →
      ∃ t, PSs (cxOf (L2.CX P w) P w K mg base N qual (defScope st) f cdv A out s H E) (defBody st) t ∧ t { nx := fun _ H' => Q .non H', rt := Q } (start N vs) H) : FnG P w K mg base (k + 1) f fd ps sp := by
  obtain ⟨oc, od, kV, doc, pm, an, cdv, ct, osl, rfl, lk, hcd⟩ := F.ex
  refine ⟨hl, fun A out s H ar us vs Q E hr hg e0 hb r hsp => ?_⟩
  have ln := hl _ _ _ _ hsp
  have KX : K.In s.heap := e0.mod.kin.keeps fun b o e => (e0.bs b o e).1
  have nl : s.heap.NoLimit := e0.mod.nolimit.keeps fun b o e => (e0.bs b o e).1
  have kinds : ∀ y ∈ ps.zip us, (defScope st).names.lookup y.1 = some .local ∨ ((defScope st).names.lookup y.1 = some .cell ∧ ((cellsFrom (s.heap.objs.size + 1) (defScope st).names []).lookup y.1).isSome = true) := fun y hy =>
    (S.par y.1 (List.of_mem_zip (a := y.1) (b := y.2) hy).1).imp id fun q => ⟨q, PySem.W.cellsFrom_some _ _ _ (.inl q)⟩
  refine codeAny_call_function hr.depth (KX _ _ lk) rfl S.co S.gen rfl (PySem.W.codeRec_of KX hcd) (hb _ _ _ _ (wpAny_newFunctionEnv_cells S.kind kinds fun env he s1 x1 => ?_))
  subst he
  refine ⟨nl.keeps x1.toInCall.keep, codeAny_func ?_⟩
  obtain ⟨t, ht, hq⟩ := body cdv A out s H vs Q E (hr.deeper _) (deeper_guards hg) hsp
  refine wpAny_mono (ht.run [] s1 (start N vs) H _ (inv_start S hr.hd e0 ln r x1) hq) (fun fl s' hs => ?_) fun e s' hs => hs
  have done : ∀ {σ' : L2.St} {H' : Hp} {v : V} {u : Value}, Inv (cxOf (L2.CX P w) P w K mg base N qual (defScope st) f cdv A out s H E) [] σ' H' s' → RelV v u → Q v H' → CE out P w H s Q u s' := fun {_ H' v _} J rv q => ⟨v, H', J.os, J.bare, J.base, J.hok, rv, q⟩
  match fl, hs with
  | .ret u, ⟨v, σ', H', J, rv, q⟩ => exact done J rv q
  | .next, ⟨σ', H', J, q⟩ => exact done (v := V.non) (u := Value.none) J rfl q
  | .brk, ⟨_, _, _, q⟩ => exact q.elim
  | .cont, ⟨_, _, _, q⟩ => exact q.elim
/-! ### arguments: positional ones, then keywords -/
def pick {α : Type} (ix : List Nat) (l : List α) : List α := ix.filterMap fun i => l[i]?
theorem Vals.pick {vs : List V} {us : List Value} (r : Vals vs us) : ∀ ix : List Nat, Vals (pick ix vs) (pick ix us)
  | [] => .nil
  | i :: ix => by
    have t := Vals.pick r ix
    show Vals ((i :: ix).filterMap _) ((i :: ix).filterMap _)
    rw [List.filterMap_cons, List.filterMap_cons]
    cases e : vs[i]? with
    | none =>
      have : us[i]? = none := by
        rw [List.getElem?_eq_none_iff] at e ⊢
        rw [← r.length]; exact e
      rw [this]
      exact t
    | some v =>
      obtain ⟨u, hu, rv⟩ := r.get e
      rw [hu]
      exact .cons rv t
/-- n values and the keywords ks, with the defaults ds, are bound as ix says -/
def BindG (K : PySem.W.Frag) (fd : FuncData) (ps : List Str) (n : Nat) (ks : List Str) (ix : List Nat) (ds : List Value) : Prop :=
  ∀ (s : Shared) (us ws : List Value), K.In s.heap → us.length = n → ws.length = ks.length → BindsTo s fd ⟨us, ks.zip ws⟩ (ps.zip (pick ix (us ++ ws ++ ds)))
theorem bindG_of {K : PySem.W.Frag} {x qual : Str} {st : Stmt} {f : Addr} {fd : FuncData} {ps ks : List Str} {n : Nat} {ix : List Nat} (F : L2.Fun K x qual st f fd)
    (h : ∀ (kV doc pm : Value) (an : Option Addr) (cdv ct : Value) (us ws : List Value), us.length = n → ws.length = ks.length → bindArgs (PySem.W.fnOf x qual (defArgs st) (defBody st) (defScope st) .none kV doc pm an cdv ct) ⟨us, ks.zip ws⟩ = pure (ps.zip (pick ix (us ++ ws ++ [])))) : BindG K fd ps n ks ix [] := by
  obtain ⟨oc, od, kV, doc, pm, an, cdv, ct, osl, rfl, lk, hcd⟩ := F.ex
  exact fun s us ws _ h1 h2 => .of_eq (h kV doc pm an cdv ct us ws h1 h2)
section
variable {G : Gc} {X : Cx} {W : WX} {T T0 T1 T2 : Addr → Prop} {env env0 env1 env2 env' : Sv} {al al1 al2 : Nat → Addr} {σ σ1 : L2.St} {H0 H H1 H2 : Hp} {Q Q1 : VK} {f h : DEn} {k : Out → DEn} {pos : Pos} {e e1 e2 e3 : Expr} {es : List Expr} {ks ka kb : List AK} {kws : List Keyword} {nks : List Str}
theorem evs_append : ∀ (a b : List AK) (k : List Av → DEn), evs (a ++ b) k = evs a fun as => evs b fun bs => k (as ++ bs)
  | [], _, _ => rfl
  | .v f :: a, b, k => congrArg (bindV f) (funext fun d => evs_append a b fun as => k (.val d :: as))
  | .r f :: a, b, k => congrArg (bindR f) (funext fun r => evs_append a b fun as => k (.out r :: as))
theorem AvReps.append : ∀ {as bs : List Av} {vs ws : List V}, AvReps G H0 T env al σ H as vs → AvReps G H0 T env al σ H bs ws → AvReps G H0 T env al σ H (as ++ bs) (vs ++ ws)
  | [], _, _, _, h, q => by cases h; exact q
  | a :: as, bs, vs, ws, h, q => by
    obtain ⟨x, r, rfl, hx, hr⟩ := h
    exact ⟨x, r ++ ws, rfl, hx, hr.append q⟩
theorem AvReps.stay (g : Go T1 T2 env1 env2 al al H1 H2) (R : RepE G T1 env1 al σ H1) (R2 : RepE G T2 env2 al σ H2) : ∀ {as : List Av} {vs : List V}, AvReps G H T1 env1 al σ H1 as vs → AvReps G H T2 env2 al σ H2 as vs
  | [], _, h => h
  | a :: as, vs, h => by
    obtain ⟨x, r, rfl, hx, hr⟩ := h
    exact ⟨x, r, rfl, AvRep.stay g R R2 hx, AvReps.stay g R R2 hr⟩
theorem tO_append (h : tO G W (ka ++ kb) σ H Q2) : tO G W ka σ H fun vs H1 => tO G W kb σ H1 fun ws H2 => Q2 (vs ++ ws) H2 := by
  obtain ⟨T0, env, al, k, Qv, R, A, c⟩ := h
  rw [evs_append] at A
  exact ⟨T0, env, al, _, Qv, R, A, fun T1 env1 H1 as vs g R1 os A1 => ⟨T1, env1, al, _, Qv, R1, A1, fun T2 env2 H2 bs ws g2 R2 os2 A2 =>
    c T2 env2 H2 (as ++ bs) (vs ++ ws) (g.trans g2) R2 ((os.stay g2 R1 R2).append (os2.back g.dom)) A2⟩⟩
/-- what a call hands over, whatever is called -/
def CA (X : Cx) (es : List Expr) (kws : List Keyword) (n : Nat) (nks : List Str) (t : TA) : Prop := ∀ (pos : Pos) (f : Value) (first : List Value) (pins : List (Addr × Obj)) (s : Shared) (σ : L2.St) (H : Hp) (R : List V → Hp → Prop) (Qc : Value → Shared → Prop),
  PySem.W.keepIn X.K f = true → Inv X pins σ H s → t σ H R → (∀ (us ws : List Value) (s1 : Shared) (H1 : Hp) (vs : List V), Inv X pins σ H1 s1 → Vals vs (us ++ ws) → us.length = n → ws.length = nks.length → R vs H1 → wpAny (model X.prog X.w) X.A (call f (first ++ us) (nks.zip ws)) Qc X.xe s1) →
  wpAny (model X.prog X.w) X.A (callWith pos f first (backTo pos (starEach es X.env)) (backToKw pos (keywordEach kws X.env))) Qc X.xe s
theorem AvReps.length : ∀ {as : List Av} {vs : List V}, AvReps G H0 T env al σ H as vs → as.length = vs.length
  | [], _, h => by cases h; rfl
  | a :: as, vs, h => by
    obtain ⟨x, r, rfl, hx, hr⟩ := h
    rw [List.length_cons, List.length_cons, AvReps.length hr]
def Sz (n : Nat) (t : TA) : Prop := ∀ σ H Q, t σ H Q → t σ H fun vs H1 => vs.length = n ∧ Q vs H1
theorem evs_len : ∀ (ks : List AK) (as0 : List Av) (k : List Av → DEn), evs ks (fun as => k (as0 ++ as)) = evs ks fun as => if as.length = ks.length then k (as0 ++ as) else fun _ => none
  | [], as0, k => rfl
  | .v f :: ks, as0, k => by
    unfold evs
    refine congrArg (bindV f) (funext fun d => ?_)
    have := evs_len ks (as0 ++ [.val d]) k
    simp only [List.append_assoc, List.singleton_append] at this
    rw [this]
    simp only [List.length_cons, Nat.add_right_cancel_iff]
  | .r f :: ks, as0, k => by
    unfold evs
    refine congrArg (bindR f) (funext fun d => ?_)
    have := evs_len ks (as0 ++ [.out d]) k
    simp only [List.append_assoc, List.singleton_append] at this
    rw [this]
    simp only [List.length_cons, Nat.add_right_cancel_iff]
theorem tO_len : Sz ks.length (tO G W ks) := fun σ H Q ⟨T0, env, al, k, Qv, R, A, c⟩ => by
  have e := evs_len ks [] k
  simp only [List.nil_append] at e
  have e : evs ks k = evs ks fun as => if as.length = ks.length then k as else fun _ => none := e
  rw [e] at A
  refine ⟨T0, env, al, _, Qv, R, A, fun T1 env1 H1 as vs g R1 os A1 => ?_⟩
  split at A1
  · rename_i hl
    exact ⟨by rw [← os.length]; exact hl, c T1 env1 H1 as vs g R1 os A1⟩
  · obtain ⟨_, _, _, z, _⟩ := A1
    cases z
theorem ca_pos {n : Nat} (ha : DA G X W (e :: es) ks) (he : starEach (e :: es) X.env = (false, eval e X.env) :: starEach es X.env := by rfl) (hpl : ∀ pos : Pos, (backTo pos (starEach es X.env)).any (·.1) = false := by intro _; rfl) (hn : ks.length = n := by rfl) : CA X (e :: es) [] n [] (tO G W ks) :=
  fun pos f first pins s σ H R Qc hk I h c => PySem.W.callWith_K (h₀ := X.base) I.ok.mod.kin hk (thn (ha.run pos pins s σ H _ I (tO_len _ _ _ h)) fun us s1 ⟨vs, H1, I1, r, l, q⟩ =>
    ⟨I1.kIn, c us [] s1 H1 vs I1 (by rw [List.append_nil]; exact r) (by rw [← r.length, l]; exact hn) rfl q⟩) he (hpl pos)
theorem ca_none : CA X [] [] 0 [] (tO G W []) := fun pos f first pins s σ H R Qc hk I ⟨T0, env, al, k, Qv, R0, A, c0⟩ c => PySem.W.callWith_K0 I.kIn hk (c [] [] s H [] I .nil rfl rfl (c0 T0 env H [] [] Go.refl R0 rfl A))
def DK (G : Gc) (X : Cx) (W : WX) (kws : List Keyword) (ks : List AK) : Prop := PK X kws (tO G W ks)
theorem DK.of {t : TA} (h : PK X kws t) (k : ∀ σ H Q, tO G W ks σ H Q → t σ H Q) : DK G X W kws ks := ⟨fun pos pins s σ H Q I q => h.run pos pins s σ H Q I (k σ H Q q)⟩
theorem dk_nil : DK G X W [] [] := DK.of pk_nil fun σ H Q ⟨T0, env, al, k, Qv, R, A, c⟩ => c T0 env H [] [] Go.refl R rfl A
theorem dk_v {nm : Option Str} {kp : Pos} (ha : DE G X W e f) (hr : DK G X W kws ks) : DK G X W (⟨nm, e, kp⟩ :: kws) (.v f :: ks) :=
  DK.of (pk_cons ha hr) fun σ H Q ⟨T0, env, al, k, Qv, R, A, c⟩ => At.bindV (k := fun d => evs ks fun as => k (.val d :: as)) A fun T1 env1 H1 r1 v1 g R1 o1 A1 =>
    ⟨T1, env1, al, fun as => k (.val r1 :: as), Qv, R1, A1, fun T2 env2 H2 avs vs g2 R2 os A2 => c T2 env2 H2 (.val r1 :: avs) (v1 :: vs) (g.trans g2) R2 ⟨v1, vs, rfl, g2.rp R1 o1, os.back g.dom⟩ A2⟩
theorem dk_r {nm : Option Str} {kp : Pos} (ha : DE G X W e f) (hr : DK G X W kws ks) : DK G X W (⟨nm, e, kp⟩ :: kws) (.r f :: ks) :=
  DK.of (pk_cons ha hr) fun σ H Q ⟨T0, env, al, k, Qv, R, A, c⟩ => At.bind (k := fun r => evs ks fun as => k (.out r :: as)) A fun T1 env1 H1 r1 v1 g R1 o1 A1 =>
    ⟨T1, env1, al, fun as => k (.out r1 :: as), Qv, R1, A1, fun T2 env2 H2 avs vs g2 R2 os A2 => c T2 env2 H2 (.out r1 :: avs) (v1 :: vs) (g.trans g2) R2 ⟨v1, vs, rfl, OutRep.stay g2 R1 R2 o1, os.back g.dom⟩ A2⟩
theorem ca_kw (hk : DK G X W kws ks) (hall : ∀ pos : Pos, (backToKw pos (keywordEach kws X.env)).all (·.1.isSome) = true := by intro _; rfl) (hks : ∀ pos : Pos, (backToKw pos (keywordEach kws X.env)).filterMap (·.1) = nks := by intro _; rfl) (hl : ks.length = nks.length := by rfl)
    (hpl : ∀ pos : Pos, ((backTo pos (starEach [] X.env)).any (·.1) || (backToKw pos (keywordEach kws X.env)).any (·.1.isNone)) = false := by intro _; rfl) : CA X [] kws 0 nks (tO G W ks) :=
  fun pos f first pins s σ H R Qc hk' I h c => PySem.W.callWith_KW0 (h₀ := X.base) I.ok.mod.kin hk' (hall pos) (thn (hk.run pos pins s σ H _ I (tO_len _ _ _ h)) fun ws s1 ⟨vs, H1, I1, r, l, q⟩ => by
    rw [hks]
    exact ⟨I1.kIn, c [] ws s1 H1 vs I1 r rfl (by rw [← r.length, l]; exact hl) q⟩) (hpl pos)
theorem ca_both {n : Nat} (ha : DA G X W (e :: es) ka) (hk : DK G X W kws kb) (hall : ∀ pos : Pos, (backToKw pos (keywordEach kws X.env)).all (·.1.isSome) = true := by intro _; rfl) (hks : ∀ pos : Pos, (backToKw pos (keywordEach kws X.env)).filterMap (·.1) = nks := by intro _; rfl) (hl : kb.length = nks.length := by rfl)
    (he : starEach (e :: es) X.env = (false, eval e X.env) :: starEach es X.env := by rfl) (hpl : ∀ pos : Pos, ((backTo pos (starEach (e :: es) X.env)).any (·.1) || (backToKw pos (keywordEach kws X.env)).any (·.1.isNone)) = false := by intro _; rfl) (hn : ka.length = n := by rfl) : CA X (e :: es) kws n nks (tO G W (ka ++ kb)) :=
  fun pos f first pins s σ H R Qc hk' I h c => PySem.W.callWith_KW (h₀ := X.base) I.ok.mod.kin hk' (hall pos) (thn (ha.run pos pins s σ H _ I (tO_len _ _ _ (tO_append h))) fun us s1 ⟨vs, H1, I1, r, l, q⟩ => thn (hk.run pos pins s1 σ H1 _ I1 (tO_len _ _ _ q)) fun ws s2 ⟨zs, H2, I2, r2, l2, q2⟩ => by
    rw [hks]
    exact ⟨I2.kIn, c us ws s2 H2 (vs ++ zs) I2 (r.append r2) (by rw [← r.length, l]; exact hn) (by rw [← r2.length, l2]; exact hl) q2⟩) (hpl pos) he
end
end Pd

namespace Pd
open PySem PySem.Spec PyProof.Rows L2
/-- a def at the data: the parameters' slots; what it gives, and what stands in the lent slots behind it -/
abbrev FD := List Sl → Option (Except Xn Out × List (Option O))
def EndR (G : Gc) (H : Hp) (T1 : Addr → Prop) (H1 : Hp) (r : Except Xn Out) (Q : VK) (E : XK) : Prop := match r with
  | .error x => ∀ cls d, XnAt G T1 H1 x cls d → E cls d H1
  | .ok (.val d) => ∀ v, Rp G T1 H1 d v → Q v H1
  | .ok (.new o) => ∀ p, H p = none → T1 p → OAt G T1 H1 p o → Q (.ref p) H1
  | .ok (.ref _) => False
def spG (G : Gc) (n : Nat) (m : FD) : Sp := fun vs H Q E => vs.length = n ∧ ∃ T sl al r os, RepE G T (sl.map some) al (vs.map some) H ∧ (∀ (i : Nat) (o : O), sl[i]? ≠ some (Sl.own o)) ∧ m sl = some (r, os) ∧
  ∀ T1 H1, (∀ a, T a → T1 a) → (∀ a, T1 a → H1 a ≠ none) → (∀ b o, (∀ (i : Nat) (c : O), sl[i]? = some (Sl.bor c) → al i ≠ b) → H b = some o → H1 b = some o) → (∀ b, H b ≠ none → H1 b ≠ none) → (∀ (i : Nat) (o : O), os[i]? = some (some o) → OAt G T1 H1 (al i) o) → EndR G H T1 H1 r Q E
/-! ### a body makes a def -/
def outsOf : List Sl → Sv → Option (List (Option O))
  | [], _ => some []
  | .bor _ :: sl, some (.bor o) :: env => (outsOf sl env).map (some o :: ·)
  | .bor _ :: _, _ => none
  | _ :: sl, _ :: env => (outsOf sl env).map (none :: ·)
  | _ :: _, [] => none
def closeR (r : Out) (env : Sv) : Option Out := match r with
  | .val d => some (.val d)
  | .new o => some (.new o)
  | .ref i => match env[i]? with
    | some (some (.val d)) => some (.val d)
    | some (some (.own o)) => some (.new o)
    | _ => none
def runB (n pad : Nat) (fb : DSt) : FD := fun sl => if sl.length = n then (match fb (sl.map some ++ List.replicate pad none) with
  | some (.nx, env) => (outsOf sl env).map fun os => (.ok (.val .non), os)
  | some (.ret r, env) => (closeR r env).bind fun r => (outsOf sl env).map fun os => (.ok r, os)
  | some (.err x, env) => (outsOf sl env).map fun os => (.error x, os)
  | _ => none) else none
theorem runB_fit {n pad : Nat} {fb : DSt} {sl : List Sl} {r : Except Xn Out × List (Option O)} (h : runB n pad fb sl = some r) : sl.length = n := by
  unfold runB at h
  split at h
  · assumption
  · cases h
theorem outsOf_ok : ∀ {sl : List Sl} {env : Sv} {os : List (Option O)} {i : Nat} {o : O}, outsOf sl env = some os → os[i]? = some (some o) → ∃ c, sl[i]? = some (.bor c) ∧ env[i]? = some (some (.bor o))
  | [], env, os, i, o, h, e => by
    cases h
    simp at e
  | s :: sl, env, os, i, o, h, e => by
    cases s with
    | bor c =>
      cases env with
      | nil => cases h
      | cons x env =>
        cases x with
        | none => cases h
        | some x =>
          cases x with
          | bor c' =>
            obtain ⟨os', h', rfl⟩ := Option.map_eq_some_iff.mp h
            cases i with
            | zero =>
              simp only [List.getElem?_cons_zero, Option.some.injEq] at e
              subst e
              exact ⟨c, rfl, rfl⟩
            | succ i => exact outsOf_ok (i := i) h' (by simpa using e)
          | _ => cases h
    | val d =>
      cases env with
      | nil => cases h
      | cons x env =>
        have h : (outsOf sl env).map (none :: ·) = some os := by cases x <;> exact h
        obtain ⟨os', h', rfl⟩ := Option.map_eq_some_iff.mp h
        cases i with
        | zero => simp at e
        | succ i => exact outsOf_ok (i := i) h' (by simpa using e)
    | own c =>
      cases env with
      | nil => cases h
      | cons x env =>
        have h : (outsOf sl env).map (none :: ·) = some os := by cases x <;> exact h
        obtain ⟨os', h', rfl⟩ := Option.map_eq_some_iff.mp h
        cases i with
        | zero => simp at e
        | succ i => exact outsOf_ok (i := i) h' (by simpa using e)
section
variable {G : Gc} {X : Cx} {W : WX} {T T0 T1 T2 Tn : Addr → Prop} {env env0 env1 env2 env' : Sv} {al al1 al2 : Nat → Addr} {σ σ1 : L2.St} {H0 H H1 H2 : Hp} {Q Q1 : VK} {f h : DEn} {k : Out → DEn} {pos : Pos} {e e1 e2 e3 : Expr} {es : List Expr} {ks ka kb : List AK} {kws : List Keyword} {nks : List Str}
theorem get_pad {α : Type} {l : List (Option α)} {n i : Nat} {s : α} (h : (l ++ List.replicate n none)[i]? = some (some s)) : l[i]? = some (some s) := by
  by_cases hi : i < l.length
  · rw [List.getElem?_append_left hi] at h; exact h
  · rw [List.getElem?_append_right (by omega), List.getElem?_replicate] at h
    split at h <;> cases h
theorem pad_get {α : Type} {l : List (Option α)} {n i : Nat} {s : Option α} (h : l[i]? = some s) : (l ++ List.replicate n none)[i]? = some s := by
  rw [List.getElem?_append_left (List.getElem?_eq_some_iff.mp h).1]; exact h
theorem RepE.pad {n : Nat} (R : RepE G T env al σ H) : RepE G T (env ++ List.replicate n none) al (σ ++ List.replicate n none) H := by
  have tt : ∀ a, TT T (env ++ List.replicate n none) al a → TT T env al a := fun a z => z.imp id fun ⟨i, ⟨o, h⟩, e⟩ => ⟨i, ⟨o, get_pad h⟩, e⟩
  have isC' : ∀ i, isC (env ++ List.replicate n none) i → isC env i := fun i z => z.imp (fun ⟨o, h⟩ => ⟨o, get_pad h⟩) fun ⟨o, h⟩ => ⟨o, get_pad h⟩
  refine ⟨by
    have h := R.len
    rw [List.length_append, List.length_append, List.length_replicate, List.length_replicate, h], fun i d e => ?_, fun i o e => ?_, fun i o e => ?_, fun i j hi hj => R.inj i j (isC' i hi) (isC' j hj), R.t0⟩
  · obtain ⟨v, e1, q⟩ := R.val i d (get_pad e)
    exact ⟨v, pad_get e1, q.mono (fun _ _ _ e => e) (fun b hb => .inl (tt b hb))⟩
  · obtain ⟨e1, n', a⟩ := R.own i o (get_pad e)
    exact ⟨pad_get e1, n', a.mono (fun _ _ _ e => e) (fun b hb => .inl (tt b hb)) rfl⟩
  · obtain ⟨e1, n', a⟩ := R.bor i o (get_pad e)
    exact ⟨pad_get e1, n', a.mono (fun _ _ _ e => e) (fun b hb => .inl (tt b hb)) rfl⟩
theorem sl_get {sl : List Sl} {i : Nat} {s : Sl} (h : (sl.map some)[i]? = some (some s)) : sl[i]? = some s := by
  rw [List.getElem?_map] at h
  cases q : sl[i]? with
  | none => rw [q] at h; cases h
  | some x => rw [q] at h; cases h; rfl
theorem get_sl {sl : List Sl} {i : Nat} {s : Sl} (h : sl[i]? = some s) : (sl.map some)[i]? = some (some s) := by
  rw [List.getElem?_map, h]; rfl
/-- a def's body gives the def -/
abbrev WE (E : XK) : WX := fun cls d _ H => E cls d H
theorem def_ok {P : Program} {w : World} {mg : Str → Option Value} {base : Heap} {k : Nat} {f : Addr} {x qual : Str} {st : Stmt} {fd : FuncData} {N ps : List Str} {fb : DSt} {n pad : Nat} (F : L2.Fun G.K x qual st f fd) (S : FnScope N ps (defScope st)) (hn : ps.length = n) (hpad : N.length = n + pad)
    (body : ∀ (cdv : Value) (A : Around) (out : List Env) (s : Shared) (H : Hp) (E : XK), Room k (A.deeper (envOfC qual (defScope st) s.heap.objs.size f cdv)) → (A.deeper (envOfC qual (defScope st) s.heap.objs.size f cdv)).guards = some [] → Takes (cxOf (L2.CX P w) P w G.K mg base N qual (defScope st) f cdv A out s H E) (WE E) →
      PassesOwn (model P w) (A.deeper (envOfC qual (defScope st) s.heap.objs.size f cdv)) (envOfC qual (defScope st) s.heap.objs.size f cdv) (cxOf (L2.CX P w) P w G.K mg base N qual (defScope st) f cdv A out s H E).xe → DSs G (cxOf (L2.CX P w) P w G.K mg base N qual (defScope st) f cdv A out s H E) (WE E) (defBody st) fb) :
    FnG P w G.K mg base (k + 1) f fd ps (spG G n (runB n pad fb)) := by
  obtain rfl : pad = N.length - ps.length := by omega
  subst hn
  refine fn_g F S (fun vs H Q E h => h.1) fun cdv A out s H vs Q E hr hg ⟨hl, T, sl, al, r, os, R, no, em, k⟩ => ⟨_, body cdv A out s H E hr hg (takes_of rfl rfl rfl rfl) (passes_of rfl), ?_⟩
  have Rp0 : RepE G T (sl.map some ++ List.replicate (N.length - ps.length) none) al (L2.start N vs) H := by
    unfold L2.start
    rw [hl]
    exact R.pad
  unfold runB at em
  split at em
  case isFalse => cases em
  have nown : ∀ i, ¬ ownI (sl.map some ++ List.replicate (N.length - ps.length) none) i := fun i ⟨o, h⟩ => no i o (sl_get (get_pad h))
  have fin : ∀ (T1 : Addr → Prop) (env' : Sv) (al1 : Nat → Addr) (σ1 : L2.St) (H1 : Hp) (r' : Except Xn Out), Go T T1 (sl.map some ++ List.replicate (N.length - ps.length) none) env' al al1 H H1 → RepE G T1 env' al1 σ1 H1 → outsOf sl env' = some os → r' = r → EndR G H (TT T1 env' al1) H1 r Q E := fun T1 env' al1 σ1 H1 r' g R1 eo er => by
    refine k (TT T1 env' al1) H1 (fun a z => .inl (g.low a z)) (fun a z => R1.tt z) (fun b o hb e => g.keep b o (fun i hi => ?_) e) g.dom fun i o e => ?_
    · rcases hi with ⟨o', z⟩ | ⟨o', z⟩
      · exact absurd ⟨o', z⟩ (nown i)
      · exact hb i o' (sl_get (get_pad z))
    · obtain ⟨c, _, e2⟩ := outsOf_ok eo e
      obtain ⟨_, ea⟩ := g.sub.bor i ⟨o, e2⟩
      rw [← ea]
      exact (R1.bor i o e2).2.2
  cases ef : fb (sl.map some ++ List.replicate (N.length - ps.length) none) with
  | none => rw [ef] at em; cases em
  | some q =>
    obtain ⟨fl, env'⟩ := q
    rw [ef] at em
    refine ⟨T, _, al, fl, env', Rp0, ef, fun T1 al1 σ1 H1 g R1 => ?_⟩
    cases fl with
    | nx =>
      obtain ⟨os', eo, z⟩ := Option.map_eq_some_iff.mp em
      cases z
      exact fin T1 env' al1 σ1 H1 _ g R1 eo rfl .non rfl
    | brk => cases em
    | cnt => cases em
    | err x =>
      obtain ⟨os', eo, z⟩ := Option.map_eq_some_iff.mp em
      cases z
      exact fin T1 env' al1 σ1 H1 _ g R1 eo rfl
    | ret r0 =>
      intro v o
      obtain ⟨r1, ec, em⟩ := Option.bind_eq_some_iff.mp em
      obtain ⟨os', eo, z⟩ := Option.map_eq_some_iff.mp em
      cases z
      have q := fin T1 env' al1 σ1 H1 _ g R1 eo rfl
      cases r0 with
      | val d => cases ec; exact q v o
      | new ob =>
        cases ec
        obtain ⟨p, rfl, hp, tp, _, a⟩ := o
        exact q p hp (.inl tp) a
      | ref i =>
        obtain ⟨es, s, hs⟩ := o
        simp only [closeR, hs] at ec
        cases s with
        | val d =>
          cases ec
          obtain ⟨v', e1, rp⟩ := R1.val i d hs
          rw [es] at e1; cases e1
          exact q v rp
        | own ob =>
          cases ec
          obtain ⟨e1, _, a⟩ := R1.own i ob hs
          rw [es] at e1; cases e1
          refine q (al1 i) ?_ (.inr ⟨i, ⟨ob, hs⟩, rfl⟩) a
          exact (g.sub.own i ⟨ob, hs⟩).elim (fun z => absurd z.1 (nown i)) id
        | bor ob => cases ec
/-! ### a call of it -/
def toSl (env : Sv) : List Av → Option (List Sl × List (Option Nat))
  | [] => some ([], [])
  | .val d :: as => (toSl env as).map fun p => (.val d :: p.1, none :: p.2)
  | .out (.val d) :: as => (toSl env as).map fun p => (.val d :: p.1, none :: p.2)
  | .out (.ref i) :: as => match getS env i with
    | some o => (toSl env as).map fun p => (.bor o :: p.1, some i :: p.2)
    | none => none
  | .out (.new _) :: _ => none
def putBack : List (Option Nat) → List (Option O) → Sv → Option Sv
  | [], [], env => some env
  | some i :: is, some o :: os, env => (putS env i o).bind (putBack is os)
  | none :: is, none :: os, env => putBack is os env
  | _, _, _ => none
def callE (m : FD) (as : List Av) : DEn := fun env => match toSl env as with
  | some (sl, is) => if (is.filterMap id).Nodup then match m sl with
    | some (r, os) => match putBack is os env with
      | some env1 => match r with
        | .error x => some (.error x, env1)
        | .ok (.val d) => some (.ok (.val d), env1)
        | .ok (.new o) => some (.ok (.new o), env1)
        | .ok (.ref _) => none
      | none => none
    | none => none
    else none
  | none => none
theorem toSl_ok (R : RepE G T env al σ H) : ∀ {as : List Av} {vs : List V} {sl : List Sl} {is : List (Option Nat)}, AvReps G H0 T env al σ H as vs → toSl env as = some (sl, is) → sl.length = vs.length ∧
    ∀ (j : Nat) (s : Sl), sl[j]? = some s → ∃ v, vs[j]? = some v ∧ ((∃ d, s = .val d ∧ Rp G (TT T env al) H d v ∧ is[j]? = some none) ∨ ∃ o i, s = .bor o ∧ is[j]? = some (some i) ∧ getS env i = some o ∧ v = .ref (al i))
  | [], vs, sl, is, h, e => by
    cases h; cases e
    exact ⟨rfl, fun j s h => by simp at h⟩
  | a :: as, vs, sl, is, h, e => by
    obtain ⟨x, r, rfl, hx, hr⟩ := h
    have step : ∀ {sl' is'} {s0 : Sl} {i0 : Option Nat}, toSl env as = some (sl', is') → ((∃ d, s0 = .val d ∧ Rp G (TT T env al) H d x ∧ i0 = none) ∨ ∃ o i, s0 = .bor o ∧ i0 = some i ∧ getS env i = some o ∧ x = .ref (al i)) →
        (s0 :: sl').length = (x :: r).length ∧ ∀ (j : Nat) (s : Sl), (s0 :: sl')[j]? = some s → ∃ v, (x :: r)[j]? = some v ∧ ((∃ d, s = .val d ∧ Rp G (TT T env al) H d v ∧ (i0 :: is')[j]? = some none) ∨ ∃ o i, s = .bor o ∧ (i0 :: is')[j]? = some (some i) ∧ getS env i = some o ∧ v = .ref (al i)) := fun {sl' is' s0 i0} e' c => by
      obtain ⟨l, q⟩ := toSl_ok R hr e'
      refine ⟨by rw [List.length_cons, List.length_cons, l], fun j s hj => ?_⟩
      cases j with
      | zero =>
        simp only [List.getElem?_cons_zero, Option.some.injEq] at hj ⊢
        subst hj
        exact ⟨x, rfl, c⟩
      | succ j =>
        simp only [List.getElem?_cons_succ] at hj ⊢
        exact q j s hj
    cases a with
    | val d =>
      obtain ⟨⟨sl', is'⟩, e', z⟩ := Option.map_eq_some_iff.mp e
      cases z
      exact step e' (.inl ⟨d, rfl, hx, rfl⟩)
    | out o =>
      cases o with
      | val d =>
        obtain ⟨⟨sl', is'⟩, e', z⟩ := Option.map_eq_some_iff.mp e
        cases z
        exact step e' (.inl ⟨d, rfl, hx, rfl⟩)
      | new o => cases e
      | ref i =>
        simp only [toSl] at e
        split at e
        · rename_i o eg
          obtain ⟨⟨sl', is'⟩, e', z⟩ := Option.map_eq_some_iff.mp e
          cases z
          refine step e' (.inr ⟨o, i, rfl, rfl, eg, ?_⟩)
          have h1 := (R.slot eg).1
          rw [hx.1] at h1
          cases h1; rfl
        · cases e
theorem nodup_at : ∀ {is : List (Option Nat)} {i a b : Nat}, (is.filterMap id).Nodup → is[a]? = some (some i) → is[b]? = some (some i) → a = b
  | [], _, _, _, _, h, _ => by simp at h
  | x :: is, i, a, b, nd, ha, hb => by
    have mem : ∀ {j : Nat}, is[j]? = some (some i) → i ∈ is.filterMap id := fun h => List.mem_filterMap.mpr ⟨some i, List.mem_of_getElem? h, rfl⟩
    cases x with
    | none =>
      rw [List.filterMap_cons_none rfl] at nd
      cases a with
      | zero => simp at ha
      | succ a =>
        cases b with
        | zero => simp at hb
        | succ b => exact congrArg Nat.succ (nodup_at nd (by simpa using ha) (by simpa using hb))
    | some x =>
      rw [List.filterMap_cons_some (f := id) (b := x) rfl] at nd
      obtain ⟨n1, n2⟩ := List.nodup_cons.mp nd
      cases a with
      | zero =>
        simp only [List.getElem?_cons_zero, Option.some.injEq] at ha
        subst ha
        cases b with
        | zero => rfl
        | succ b => exact absurd (mem (by simpa using hb)) n1
      | succ a =>
        cases b with
        | zero =>
          simp only [List.getElem?_cons_zero, Option.some.injEq] at hb
          subst hb
          exact absurd (mem (by simpa using ha)) n1
        | succ b => exact congrArg Nat.succ (nodup_at n2 (by simpa using ha) (by simpa using hb))
structure Backed (env env1 : Sv) (is : List (Option Nat)) (os : List (Option O)) : Prop where
  len : env1.length = env.length
  own : ∀ i, ownI env1 i ↔ ownI env i
  bor : ∀ i, borI env1 i ↔ borI env i
  fill : ∀ (i : Nat) (s : Sl), env[i]? = some (some s) → ∃ s', env1[i]? = some (some s')
  out : ∀ i, (∀ j : Nat, is[j]? ≠ some (some i)) → env1[i]? = env[i]?
  at_ : ∀ i, (∃ j : Nat, is[j]? = some (some i)) → ∃ (j : Nat) (o : O), is[j]? = some (some i) ∧ os[j]? = some (some o) ∧ getS env1 i = some o
theorem putBack_ok : ∀ {is : List (Option Nat)} {os : List (Option O)} {env env1 : Sv}, (is.filterMap id).Nodup → putBack is os env = some env1 → Backed env env1 is os
  | [], [], env, env1, _, e => by
    cases e
    exact ⟨rfl, fun _ => Iff.rfl, fun _ => Iff.rfl, fun i s e => ⟨s, e⟩, fun _ _ => rfl, fun i ⟨j, h⟩ => by simp at h⟩
  | none :: is, none :: os, env, env1, nd, e => by
    rw [List.filterMap_cons_none rfl] at nd
    have b := putBack_ok nd e
    refine ⟨b.len, b.own, b.bor, b.fill, fun i h => b.out i fun j => by simpa using h (j + 1), fun i ⟨j, h⟩ => ?_⟩
    cases j with
    | zero => simp at h
    | succ j =>
      obtain ⟨j', o, h1, h2, h3⟩ := b.at_ i ⟨j, by simpa using h⟩
      exact ⟨j' + 1, o, by simpa using h1, by simpa using h2, h3⟩
  | some i0 :: is, some o0 :: os, env, env1, nd, e => by
    rw [List.filterMap_cons_some (f := id) (b := i0) rfl] at nd
    obtain ⟨n1, n2⟩ := List.nodup_cons.mp nd
    obtain ⟨env2, e2, e⟩ := Option.bind_eq_some_iff.mp e
    have b := putBack_ok n2 e
    have fresh : ∀ j : Nat, is[j]? ≠ some (some i0) := fun j h => n1 (List.mem_filterMap.mpr ⟨some i0, List.mem_of_getElem? h, rfl⟩)
    refine ⟨?_, fun i => (b.own i).trans (putS_own e2), fun i => (b.bor i).trans (putS_bor e2), fun i s e => ?_, fun i h => ?_, fun i ⟨j, h⟩ => ?_⟩
    · rw [b.len]
      obtain ⟨s, s', _, rfl, _⟩ := putS_get e2
      exact List.length_set
    · have : ∃ s', env2[i]? = some (some s') := by
        by_cases hi : i = i0
        · subst hi
          rcases putS_at e2 with ⟨o, _, w⟩ | ⟨o, _, w⟩ <;> exact ⟨_, w⟩
        · exact ⟨s, by rw [putS_ne e2 hi]; exact e⟩
      exact this.elim fun s' h => b.fill i s' h
    · rw [b.out i fun j => by simpa using h (j + 1)]
      exact putS_ne e2 fun z => h 0 (by simp [z])
    · by_cases hi : i = i0
      · subst hi
        refine ⟨0, o0, rfl, rfl, ?_⟩
        unfold getS
        rw [b.out i fresh]
        rcases putS_at e2 with ⟨o, _, w⟩ | ⟨o, _, w⟩ <;> rw [w]
      · cases j with
        | zero =>
          simp only [List.getElem?_cons_zero, Option.some.injEq] at h
          exact absurd h.symm hi
        | succ j =>
          obtain ⟨j', o, h1, h2, h3⟩ := b.at_ i ⟨j, by simpa using h⟩
          exact ⟨j' + 1, o, by simpa using h1, by simpa using h2, h3⟩
  | [], _ :: _, _, _, _, e => by cases e
  | none :: _, [], _, _, _, e => by cases e
  | some _ :: _, [], _, _, _, e => by cases e
  | none :: _, some _ :: _, _, _, _, e => by cases e
  | some _ :: _, none :: _, _, _, _, e => by cases e
theorem Backed.isC {is : List (Option Nat)} {os : List (Option O)} (b : Backed env env1 is os) {i : Nat} : Pd.isC env1 i ↔ Pd.isC env i := or_congr (b.own i) (b.bor i)
/-- the caller behind a call -/
theorem RepE.behind {is : List (Option Nat)} {os : List (Option O)} (R : RepE G T0 env al σ H) (b : Backed env env1 is os) (hc : ∀ (j i : Nat), is[j]? = some (some i) → isC env i) (low : ∀ a, T0 a → Tn a) (up : ∀ a, Tn a → T0 a ∨ H a = none) (un : ∀ a, TT Tn env1 al a → T1 a)
    (d1 : ∀ a, T1 a → H1 a ≠ none) (kp : ∀ c o, (∀ (j i : Nat), is[j]? = some (some i) → al i ≠ c) → H c = some o → H1 c = some o) (dm : ∀ c, H c ≠ none → H1 c ≠ none) (ha : ∀ (j i : Nat) (o : O), is[j]? = some (some i) → os[j]? = some (some o) → OAt G T1 H1 (al i) o) :
    RepE G Tn env1 al σ H1 ∧ Go T0 Tn env env1 al al H H1 := by
  have ttc : ∀ i, isC env i → TT T0 env al (al i) := fun i hi => by
    rcases hi with ⟨o, hi⟩ | ⟨o, hi⟩
    · exact .inr ⟨i, ⟨o, hi⟩, rfl⟩
    · exact .inl (R.bor i o hi).2.1
  have there : ∀ i, isC env i → H (al i) ≠ none := fun i hi => R.tt (ttc i hi)
  have kk : ∀ c o, ¬ TT T0 env al c → H c = some o → H1 c = some o := fun c o hn e => kp c o (fun j i h z => hn (z ▸ ttc i (hc j i h))) e
  have tt : ∀ a, TT Tn env1 al a → TT T0 env al a ∨ H a = none := fun a z => by
    rcases z with z | ⟨i, hi, e⟩
    · exact (up a z).imp .inl id
    · exact .inl (.inr ⟨i, (b.own i).mp hi, e⟩)
  have oth : ∀ i, isC env i → (∀ j : Nat, is[j]? ≠ some (some i)) → H1 (al i) = H (al i) := fun i hi hn => by
    cases q : H (al i) with
    | none => exact absurd q (there i hi)
    | some o => exact kp (al i) o (fun j i' h z => hn j (by rw [← R.inj i' i (hc j i' h) hi z]; exact h)) q
  have cont : ∀ i o, getS env1 i = some o → OAt G (TT Tn env1 al) H1 (al i) o := fun i o e => by
    have hi : isC env i := b.isC.mp (getS_isC e)
    by_cases hj : ∃ j : Nat, is[j]? = some (some i)
    · obtain ⟨j, o', h1, h2, h3⟩ := b.at_ i hj
      rw [e] at h3
      cases h3
      exact (ha j i o h1 h2).mono (fun _ _ _ e => e) (fun c hc => .inl (un c hc)) rfl
    · have hn : ∀ j : Nat, is[j]? ≠ some (some i) := fun j z => hj ⟨j, z⟩
      have e' : getS env i = some o := by unfold getS at e ⊢; rw [← b.out i hn]; exact e
      exact (R.slot e').2.1.mono kk tt (oth i hi hn)
  refine ⟨⟨b.len.trans R.len, fun i d e => ?_, fun i o e => ?_, fun i o e => ?_, fun i j hi hj => R.inj i j (b.isC.mp hi) (b.isC.mp hj), fun a z => d1 a (un a (.inl z))⟩, ⟨b.len, fun i hi => .inl ⟨(b.own i).mp hi, rfl⟩, fun i hi => ⟨(b.bor i).mp hi, rfl⟩, b.fill⟩,
    fun c o hn e => kp c o (fun j i h => hn i (hc j i h)) e, dm, low, fun a z => (up a z).imp .inl id⟩
  · have hn : ∀ j : Nat, is[j]? ≠ some (some i) := fun j z => by
      rcases b.isC.mpr (hc j i z) with ⟨o, w⟩ | ⟨o, w⟩ <;> rw [e] at w <;> cases w
    rw [b.out i hn] at e
    obtain ⟨v, e1, q⟩ := R.val i d e
    exact ⟨v, e1, q.mono kk tt⟩
  · obtain ⟨o0, e0⟩ := (b.own i).mp ⟨o, e⟩
    obtain ⟨e1, n', _⟩ := R.own i o0 e0
    refine ⟨e1, fun z => (up _ z).elim n' (there i (.inl ⟨o0, e0⟩)), cont i o ?_⟩
    unfold getS; rw [e]
  · obtain ⟨o0, e0⟩ := (b.bor i).mp ⟨o, e⟩
    obtain ⟨e1, n', _⟩ := R.bor i o0 e0
    refine ⟨e1, low _ n', cont i o ?_⟩
    unfold getS; rw [e]
theorem XnAt.mono {x : Xn} {cls : Value} {d : Option Addr} (t : ∀ a, T a → T1 a) (h : XnAt G T1 H x cls d) : XnAt G T H x cls d :=
  ⟨h.1, h.2.imp id fun ⟨dd, xs, e1, e2, l, q⟩ => ⟨dd, xs, e1, e2, l, q.mono (fun _ _ _ e => e) (fun b hb => .inl (t b hb))⟩⟩
theorem call_sp {m : FD} {as : List Av} {vs : List V} {n : Nat} (A : At G W (callE m as) T0 env al σ H Q) (ar : AvReps G H0 T0 env al σ H as vs) (fit : ∀ sl r, m sl = some r → sl.length = n) : spG G n m vs H Q (fun cls d H' => W cls d σ H') := by
  obtain ⟨r0, env1, R, e, p⟩ := A
  unfold callE at e
  split at e
  case h_2 => cases e
  rename_i sl is es
  split at e
  case isFalse => cases e
  rename_i nd
  split at e
  case h_2 => cases e
  rename_i r os em
  split at e
  case h_2 => cases e
  rename_i env2 ep
  obtain ⟨ln, at_⟩ := toSl_ok R ar es
  have bk := putBack_ok nd ep
  let al' : Nat → Addr := fun j => match is[j]? with
    | some (some i) => al i
    | _ => 0
  have al_at : ∀ {j i : Nat}, is[j]? = some (some i) → al' j = al i := fun {j i} h => by
    show (match is[j]? with
      | some (some i) => al i
      | _ => 0) = al i
    rw [h]
  have no : ∀ (i : Nat) (o : O), sl[i]? ≠ some (.own o) := fun i o h => by
    obtain ⟨v, _, ⟨d, z, _⟩ | ⟨o', j, z, _⟩⟩ := at_ i _ h <;> cases z
  have borA : ∀ (j : Nat) (c : O), sl[j]? = some (.bor c) → ∃ i : Nat, is[j]? = some (some i) ∧ getS env i = some c ∧ vs[j]? = some (.ref (al i)) := fun j c h => by
    obtain ⟨v, hv, ⟨d, z, _⟩ | ⟨o', i, z, h1, h2, rfl⟩⟩ := at_ j _ h
    · cases z
    · cases z
      exact ⟨i, h1, h2, hv⟩
  have isA : ∀ (j i : Nat), is[j]? = some (some i) → sl[j]? ≠ none → ∃ c, sl[j]? = some (.bor c) := fun j i h hs => by
    cases q : sl[j]? with
    | none => exact absurd q hs
    | some s =>
      obtain ⟨v, _, ⟨d, _, _, z⟩ | ⟨o', i', rfl, _⟩⟩ := at_ j s q
      · rw [h] at z; cases z
      · exact ⟨o', rfl⟩
  have lis : is.length = sl.length := by
    have : ∀ {as : List Av} {sl : List Sl} {is : List (Option Nat)}, toSl env as = some (sl, is) → is.length = sl.length := by
      intro as
      induction as with
      | nil => intro sl is e; cases e; rfl
      | cons a as ih =>
        intro sl is e
        cases a with
        | val d => obtain ⟨⟨sl', is'⟩, e', z⟩ := Option.map_eq_some_iff.mp e; cases z; exact congrArg Nat.succ (ih e')
        | out o =>
          cases o with
          | val d => obtain ⟨⟨sl', is'⟩, e', z⟩ := Option.map_eq_some_iff.mp e; cases z; exact congrArg Nat.succ (ih e')
          | new o => cases e
          | ref i =>
            simp only [toSl] at e
            split at e
            · obtain ⟨⟨sl', is'⟩, e', z⟩ := Option.map_eq_some_iff.mp e; cases z; exact congrArg Nat.succ (ih e')
            · cases e
    exact this es
  have hc : ∀ (j i : Nat), is[j]? = some (some i) → isC env i := fun j i h => by
    have hj : j < sl.length := by rw [← lis]; exact (List.getElem?_eq_some_iff.mp h).1
    obtain ⟨c, q⟩ := isA j i h (by rw [List.getElem?_eq_getElem hj]; exact fun z => nomatch z)
    obtain ⟨i', h1, h2, _⟩ := borA j c q
    rw [h] at h1; cases h1
    exact getS_isC h2
  have noT : ∀ a, TT (TT T0 env al) (sl.map some) al' a → TT T0 env al a := fun a z => by
    rcases z with z | ⟨j, ⟨o, z⟩, _⟩
    · exact z
    · exact absurd (sl_get z) (no j o)
  refine ⟨ln.symm.trans (fit _ _ em), TT T0 env al, sl, al', r, os, ⟨?_, fun j d h => ?_, fun j o h => absurd (sl_get h) (no j o), fun j o h => ?_, fun a b ha hb ez => ?_, fun a z => R.tt z⟩, no, em, fun T1 H1 low d1 kp dm oa => ?_⟩
  · rw [List.length_map, List.length_map, ln]
  · obtain ⟨v, hv, ⟨d', z, rp, _⟩ | ⟨o', i, z, _⟩⟩ := at_ j _ (sl_get h)
    · cases z
      exact ⟨v, by rw [List.getElem?_map, hv]; rfl, rp.mono (fun _ _ _ e => e) (fun b hb => .inl (noT b hb))⟩
    · cases z
  · obtain ⟨i, h1, h2, h3⟩ := borA j o (sl_get h)
    obtain ⟨_, a, t⟩ := R.slot h2
    rw [al_at h1]
    exact ⟨by rw [List.getElem?_map, h3]; rfl, t, a.mono (fun _ _ _ e => e) (fun b hb => .inl (noT b hb)) rfl⟩
  · have get : ∀ {j : Nat}, isC (sl.map some) j → ∃ i : Nat, is[j]? = some (some i) := fun {j} h => by
      rcases h with ⟨o, z⟩ | ⟨o, z⟩
      · exact absurd (sl_get z) (no j o)
      · obtain ⟨i, h1, _⟩ := borA j o (sl_get z)
        exact ⟨i, h1⟩
    obtain ⟨i, hi⟩ := get ha
    obtain ⟨i', hi'⟩ := get hb
    rw [al_at hi, al_at hi'] at ez
    have := R.inj i i' (hc a i hi) (hc b i' hi') ez
    subst this
    exact nodup_at nd hi hi'
  · have kp' : ∀ c o, (∀ (j i : Nat), is[j]? = some (some i) → al i ≠ c) → H c = some o → H1 c = some o := fun c o h e => kp c o (fun j b hb => by
      obtain ⟨i, h1, _⟩ := borA j b hb
      rw [al_at h1]
      exact h j i h1) e
    have oa' : ∀ (j i : Nat) (o : O), is[j]? = some (some i) → os[j]? = some (some o) → OAt G T1 H1 (al i) o := fun j i o h1 h2 => by
      have := oa j o h2
      rw [al_at h1] at this
      exact this
    have unI : ∀ a : Addr, (∃ i, ownI env2 i ∧ al i = a) → T1 a := fun a ⟨i, hi, ez⟩ => low a (.inr ⟨i, (bk.own i).mp hi, ez⟩)
    have un0 : ∀ a, TT T0 env2 al a → T1 a := fun a z => z.elim (fun z => low a (.inl z)) (unI a)
    cases r with
    | error x =>
      cases e
      obtain ⟨R1, g1⟩ := R.behind (Tn := T0) bk hc (fun _ z => z) (fun _ z => .inl z) un0 d1 kp' dm oa'
      exact fun cls d hx => p T0 H1 g1 R1 cls d (hx.mono un0)
    | ok r =>
      cases r with
      | ref i => cases e
      | val d =>
        cases e
        obtain ⟨R1, g1⟩ := R.behind (Tn := T0) bk hc (fun _ z => z) (fun _ z => .inl z) un0 d1 kp' dm oa'
        exact fun v rp => p T0 H1 g1 R1 v (rp.mono (fun _ _ _ e => e) (fun b hb => .inl (un0 b hb)))
      | new o =>
        cases e
        intro q hq tq a
        have un1 : ∀ a, TT (fun a => T0 a ∨ a = q) env1 al a → T1 a := fun a z => by
          rcases z with (z | z) | z
          · exact low a (.inl z)
          · exact z ▸ tq
          · exact unI a z
        obtain ⟨R1, g1⟩ := R.behind (Tn := fun a => T0 a ∨ a = q) bk hc (fun _ z => .inl z) (fun (a : Addr) (z : T0 a ∨ a = q) => z.imp id fun w => by rw [w]; exact hq) un1 d1 kp' dm oa'
        refine p _ H1 g1 R1 _ ⟨q, rfl, hq, .inr rfl, fun i hi z => ?_, a.mono (fun _ _ _ e => e) (fun b hb => .inl (un1 b hb)) rfl⟩
        rcases bk.isC.mp hi with ⟨o', w⟩ | ⟨o', w⟩
        · exact (R.own i o' w).2.2.some (z ▸ hq)
        · exact (R.bor i o' w).2.2.some (z ▸ hq)
end
end Pd

namespace Pd
open PySem PySem.Spec PyProof.Rows L2
/-- a def that stands at f, called with n values and the keywords nks -/
structure ClP (P : Program) (w : World) (K : PySem.W.Frag) (mg : Str → Option Value) (base : Heap) (G : Gc) (k : Nat) (f : Addr) (m : FD) (n : Nat) (nks : List Str) (ix : List Nat) (dv : List D) : Prop where
  ex : ∃ (fd : FuncData) (ps : List Str) (ds : List Value) (dvs : List V), FnG P w K mg base k f fd ps (spG G ps.length m) ∧ BindG K fd ps n nks ix ds ∧ Vals dvs ds ∧ (∀ T H, Rps G T H dv dvs) ∧ ∀ sl r, m sl = some r → sl.length = ps.length
  kp : PySem.W.keepIn K (.ref f) = true
abbrev Cl (X : Cx) := ClP X.prog X.w X.K X.mg X.base
section
variable {G : Gc} {X : Cx} {W : WX} {T T0 T1 T2 Tn : Addr → Prop} {env env0 env1 env2 env' : Sv} {al al1 al2 : Nat → Addr} {σ σ1 : L2.St} {H0 H H1 H2 : Hp} {Q Q1 : VK} {f h : DEn} {k : Out → DEn} {pos : Pos} {e e1 e2 e3 : Expr} {es : List Expr} {ks ka kb : List AK} {kws : List Keyword} {nks : List Str} {m : FD} {n j : Nat} {ix : List Nat} {dv : List D} {fa : Addr}
theorem ClP.up {P : Program} {w : World} {K : PySem.W.Frag} {mg : Str → Option Value} {base : Heap} {i : Nat} (c : ClP P w K mg base G j fa m n nks ix dv) (h : j ≤ i) : ClP P w K mg base G i fa m n nks ix dv := by
  obtain ⟨fd, ps, ds, dvs, F, r⟩ := c.ex
  exact ⟨⟨fd, ps, ds, dvs, F.up h, r⟩, c.kp⟩
theorem run_g {pins : List (Addr × Obj)} {s : Shared} {us : List Value} {ar : Args} {fd : FuncData} {ps : List Str} {sp : Sp} {vs : List V} (F : FnG X.prog X.w X.K X.mg X.base j fa fd ps sp) (hr : Room j X.A) (hg : X.A.guards = some []) (tk : Takes X W) (I : Inv X pins σ H s)
    (hb : BindsTo s fd ar (ps.zip us)) (r : Vals vs us) (h : sp vs H Q (fun cls d H' => W cls d σ H')) : wpAny (model X.prog X.w) X.A (call (.ref fa) ar.pos ar.kw) (EP X pins σ Q) X.xe s := by
  refine wpAny_call (codeAny_mono (F.goes X.A X.stack s H ar us vs Q _ hr hg I.env0 hb r h) fun r s' hq => ?_)
  match r, hq with
  | .error x, hq => exact tk x s' (XE.of_call I (fun _ _ _ z => z) hq)
  | .ok (.ret u), hq => exact I.after hq
  | .ok .next, hq => exact hq.elim
  | .ok .brk, hq => exact hq.elim
  | .ok .cont, hq => exact hq.elim
theorem AvReps.pick {as : List Av} {vs : List V} (r : AvReps G H0 T env al σ H as vs) : ∀ ix : List Nat, AvReps G H0 T env al σ H (pick ix as) (pick ix vs)
  | [] => rfl
  | i :: ix => by
    have t := AvReps.pick r ix
    show AvReps G H0 T env al σ H ((i :: ix).filterMap _) ((i :: ix).filterMap _)
    rw [List.filterMap_cons, List.filterMap_cons]
    have get : ∀ {as : List Av} {vs : List V} {i : Nat}, AvReps G H0 T env al σ H as vs → (as[i]? = none ∧ vs[i]? = none) ∨ ∃ a v, as[i]? = some a ∧ vs[i]? = some v ∧ AvRep G H0 T env al σ H a v := by
      intro as
      induction as with
      | nil => intro vs i h; cases h; exact .inl ⟨by simp, by simp⟩
      | cons a as ih =>
        intro vs i h
        obtain ⟨x, r, rfl, hx, hr⟩ := h
        cases i with
        | zero => exact .inr ⟨a, x, rfl, rfl, hx⟩
        | succ i => simpa using ih (i := i) hr
    rcases get (i := i) r with ⟨e1, e2⟩ | ⟨a, v, e1, e2, q⟩
    · rw [e1, e2]; exact t
    · rw [e1, e2]; exact ⟨v, _, rfl, q, t⟩
theorem AvReps.vals : ∀ {ds : List D} {vs : List V}, Rps G (TT T env al) H ds vs → AvReps G H0 T env al σ H (ds.map .val) vs
  | [], _, h => by unfold Rps at h; subst h; rfl
  | d :: ds, _, h => by
    unfold Rps at h
    obtain ⟨x, r, rfl, hx, hr⟩ := h
    exact ⟨x, r, rfl, hx, AvReps.vals hr⟩
def cCall (m : FD) (ix : List Nat) (dv : List D) (ks : List AK) : DEn := evs ks fun as => callE m (pick ix (as ++ dv.map .val))
/-- f(..) -/
theorem de_call {x : Str} {p : Pos} (c : Cl X G j fa m n nks ix dv) (hr : Room j X.A) (hgd : X.A.guards = some []) (tk : Takes X W) (hm : X.mg x = some (.ref fa)) (ha : CA X es kws n nks (tO G W ks)) (hg : Gl X x := by rfl) (hdb : (x == ("__debug__" : Str)) = false := by decide) :
    DE G X W (.Call (.Name x p) es kws pos) (cCall m ix dv ks) := by
  obtain ⟨⟨fd, ps, ds, dvs, F, hb, hd, hdv, fit⟩, kp⟩ := c
  refine ⟨fun pins s σ H Q I ⟨T0, env, al, A⟩ => wpAny_Call_Name_kw (ld_glob I hg hm ?_ hdb)⟩
  refine ha pos (.ref fa) [] pins s σ H (fun vs H1 => spG G ps.length m (pick ix (vs ++ dvs)) H1 Q (fun cls d H' => W cls d σ H')) _ kp I ?_ ?_
  · refine ⟨T0, env, al, _, Q, A.choose_spec.choose_spec.1, A, fun T1 env1 H1 avs vs g R1 os A1 => ?_⟩
    exact call_sp A1 ((os.append (AvReps.vals (hdv _ _))).pick ix) fit
  · intro us ws s1 H1 vs I1 r l1 l2 q
    have rr := Vals.pick (r.append hd) ix
    exact run_g (us := pick ix (us ++ ws ++ ds)) (ar := ⟨us, nks.zip ws⟩) F hr hgd tk I1 (hb s1 us ws I1.kIn l1 l2) rr q
/-! ### o.m(..) -/
def cNone : DEn := fun _ => none
def onIns (c : Nat) (d : D) (k : DEn) : DEn := match d with
  | .ins c' _ => if c' = c then k else cNone
  | _ => cNone
def cMethV (c : Nat) (m : FD) (ix : List Nat) (dv : List D) (f : DEn) (ks : List AK) : DEn := bindV f fun d => onIns c d (evs ks fun as => callE m (pick ix (.val d :: (as ++ dv.map .val))))
def cMethR (c : Nat) (m : FD) (ix : List Nat) (dv : List D) (f : DEn) (ks : List AK) : DEn := bindR f fun r env => match peek r env with
  | some d => onIns c d (evs ks fun as => callE m (pick ix (.out r :: (as ++ dv.map .val)))) env
  | none => none
theorem lookup_zip_none {x : Str} : ∀ {ns : List Str} {xs : List V}, x ∉ ns → (ns.zip xs).lookup x = none
  | [], _, _ => rfl
  | _ :: _, [], _ => rfl
  | n :: ns, v :: xs, h => by
    have h1 : (x == n) = false := beq_eq_false_iff_ne.mpr fun z => h (by simp [z])
    show (match x == n with
      | true => some v
      | false => (ns.zip xs).lookup x) = none
    rw [h1]
    exact lookup_zip_none fun z => h (List.mem_cons_of_mem _ z)
theorem At.onIns {c : Nat} {d : D} (A : At G W (Pd.onIns c d f) T env al σ H Q) : (∃ ds, d = .ins c ds) ∧ At G W f T env al σ H Q := by
  obtain ⟨r, env', R, e, p⟩ := A
  unfold Pd.onIns at e
  split at e
  · split at e
    · rename_i hc
      subst hc
      exact ⟨⟨_, rfl⟩, r, env', R, e, p⟩
    · cases e
  · cases e
theorem meth_core {o : Expr} {mn : Str} {apos : Pos} {c : Nat} {te : TE} {pl : Sem Bool} (hK : X.K = G.K) (he : PE X o te) (cl : Cls X.K (G.cls c)) (hm : Meth X.K (G.cls c) mn fa) (hf : mn ∉ G.fld c) (C : Cl X G j fa m (n + 1) nks ix dv) (hr : Room j X.A) (hgd : X.A.guards = some []) (tk : Takes X W) (ha : CA X es kws n nks (tO G W ks))
    (ht : eval (.Call (.Attribute o mn apos) es kws pos) X.env = (do
      let ov ← eval o X.env
      standAt apos.atName
      let (g, first) ← holding [ov] (getMethod ov mn pl)
      callWith pos g first (backTo pos (starEach es X.env)) (backToKw pos (keywordEach kws X.env)))) (F : DEn)
    (h : ∀ σ H Q, tD G W F σ H Q → te σ H fun x H1 => (∃ a dx xs, x = .ref a ∧ H1 a = some (.ins (G.cls c) dx ((G.fld c).zip xs))) ∧ ∃ T1 env1 al, ∃ (mk : List Av → List Av) (mv : List V → List V), At G W (evs ks fun as => callE m (mk as)) T1 env1 al σ H1 Q ∧ RepE G T1 env1 al σ H1 ∧
      (∀ (us ws ds : List Value) (vs dvs : List V) , Vals vs (us ++ ws) → Vals dvs ds → (∀ T H, Rps G T H dv dvs) → ∀ a, x = .ref a → Vals (mv (vs ++ dvs)) (pick ix ((.ref a :: us) ++ ws ++ ds))) ∧
      ∀ T2 env2 H2 as vs dvs, Go T1 T2 env1 env2 al al H1 H2 → RepE G T2 env2 al σ H2 → AvReps G H1 T2 env2 al σ H2 as vs → (∀ T H, Rps G T H dv dvs) → ∃ H0, AvReps G H0 T2 env2 al σ H2 (mk as) (mv (vs ++ dvs))) :
    DE G X W (.Call (.Attribute o mn apos) es kws pos) F := by
  obtain ⟨⟨fd, ps, ds, dvs, F, hb, hd, hdv, fit⟩, kp⟩ := C
  refine ⟨fun pins s σ H Q I q => PySem.W.methodCall_KW (pl := pl) (thn (he.run pins s σ H _ I (h σ H Q q)) fun u s1 ⟨x, H1, I1, rx, ⟨a, dx, xs, ex, ea⟩, T1, env1, al, mk, mv, A, R1, hv, hh⟩ => ?_) ht⟩
  subst ex
  obtain rfl : u = Value.ref a := rx
  refine getmeth_ok I1 ea cl hm (lookup_zip_none hf) ?_
  refine ha pos (.ref fa) [.ref a] pins s1 σ H1 (fun vs H2 => spG G ps.length m (mv (vs ++ dvs)) H2 Q (fun cls d H' => W cls d σ H')) _ kp I1 ?_ ?_
  · exact ⟨T1, env1, al, _, Q, R1, A, fun T2 env2 H2 avs vs g R2 os A2 => (hh T2 env2 H2 avs vs dvs g R2 os hdv).elim fun H0 ar => call_sp A2 ar fit⟩
  · intro us ws s2 H2 vs I2 r l1 l2 q
    exact run_g (us := pick ix (.ref a :: us ++ ws ++ ds)) (ar := ⟨.ref a :: us, nks.zip ws⟩) F hr hgd tk I2 (hb s2 (.ref a :: us) ws I2.kIn (by rw [List.length_cons, l1]) l2) (hv us ws ds vs dvs r hd hdv a rfl) q
theorem de_methV {o : Expr} {mn : Str} {apos : Pos} {c : Nat} {pl : Sem Bool} (hK : X.K = G.K) (he : DE G X W o f) (cl : Cls X.K (G.cls c)) (hm : Meth X.K (G.cls c) mn fa) (hf : mn ∉ G.fld c) (C : Cl X G j fa m (n + 1) nks ix dv) (hr : Room j X.A) (hgd : X.A.guards = some []) (tk : Takes X W) (ha : CA X es kws n nks (tO G W ks))
    (ht : eval (.Call (.Attribute o mn apos) es kws pos) X.env = (do
      let ov ← eval o X.env
      standAt apos.atName
      let (g, first) ← holding [ov] (getMethod ov mn pl)
      callWith pos g first (backTo pos (starEach es X.env)) (backToKw pos (keywordEach kws X.env))) := by rfl) : DE G X W (.Call (.Attribute o mn apos) es kws pos) (cMethV c m ix dv f ks) :=
  meth_core hK he cl hm hf C hr hgd tk ha ht _ fun σ H Q ⟨T0, env, al, A⟩ => A.bindV fun T1 env1 H1 d v g R1 rp A1 => by
    obtain ⟨⟨ds, rfl⟩, A2⟩ := A1.onIns
    obtain ⟨a, dx, xs, rfl, ea, _⟩ := RepB.ins (.inl rp)
    refine ⟨⟨a, dx, xs, rfl, ea⟩, T1, env1, al, _, fun l => pick ix (.ref a :: l), A2, R1, fun us ws es vs dvs r rd _ a' ez => ?_, fun T2 env2 H2 as vs dvs g2 R2 os hdv => ⟨H1, ?_⟩⟩
    · cases ez
      refine Vals.pick ?_ ix
      rw [List.cons_append, List.cons_append]
      exact .cons rfl (r.append rd)
    · exact AvReps.pick (as := .val _ :: (as ++ dv.map .val)) (vs := .ref a :: (vs ++ dvs)) ⟨_, _, rfl, g2.rp R1 rp, os.append (AvReps.vals (hdv _ _))⟩ ix
theorem de_methR {o : Expr} {mn : Str} {apos : Pos} {c : Nat} {pl : Sem Bool} (hK : X.K = G.K) (he : DE G X W o f) (cl : Cls X.K (G.cls c)) (hm : Meth X.K (G.cls c) mn fa) (hf : mn ∉ G.fld c) (C : Cl X G j fa m (n + 1) nks ix dv) (hr : Room j X.A) (hgd : X.A.guards = some []) (tk : Takes X W) (ha : CA X es kws n nks (tO G W ks))
    (ht : eval (.Call (.Attribute o mn apos) es kws pos) X.env = (do
      let ov ← eval o X.env
      standAt apos.atName
      let (g, first) ← holding [ov] (getMethod ov mn pl)
      callWith pos g first (backTo pos (starEach es X.env)) (backToKw pos (keywordEach kws X.env))) := by rfl) : DE G X W (.Call (.Attribute o mn apos) es kws pos) (cMethR c m ix dv f ks) :=
  meth_core hK he cl hm hf C hr hgd tk ha ht _ fun σ H Q ⟨T0, env, al, A⟩ => At.bind A fun T1 env1 H1 r1 v g R1 o1 ⟨r, env', _, e, p⟩ => by
    cases ep : peek r1 env1 with
    | none => simp only [ep] at e; cases e
    | some d =>
      simp only [ep] at e
      obtain ⟨⟨ds, rfl⟩, A2⟩ := At.onIns ⟨r, env', R1, e, p⟩
      obtain ⟨a, dx, xs, rfl, ea, _⟩ := RepB.ins (peek_ok R1 o1 ep)
      refine ⟨⟨a, dx, xs, rfl, ea⟩, T1, env1, al, _, fun l => pick ix (.ref a :: l), A2, R1, fun us ws es vs dvs r rd _ a' ez => ?_, fun T2 env2 H2 as vs dvs g2 R2 os hdv => ⟨H, ?_⟩⟩
      · cases ez
        refine Vals.pick ?_ ix
        rw [List.cons_append, List.cons_append]
        exact .cons rfl (r.append rd)
      · exact AvReps.pick (as := .out r1 :: (as ++ dv.map .val)) (vs := .ref a :: (vs ++ dvs)) ⟨_, _, rfl, OutRep.stay g2 R1 R2 o1, (os.back g.dom).append (AvReps.vals (hdv _ _))⟩ ix
/-! ### C(..) -/
def makeE (c : Nat) (m : FD) (as : List Av) : DEn := fun env => match vals as with
  | some ds => match m (.bor (.ins c []) :: ds.map .val) with
    | some (.error x, _) => some (.error x, env)
    | some (.ok (.val .non), some o :: _) => some (.ok (.new o), env)
    | _ => none
  | none => none
def cMake (c : Nat) (m : FD) (ix : List Nat) (dv : List D) (ks : List AK) : DEn := evs ks fun as => makeE c m (pick ix (as ++ dv.map .val))
theorem make_sp {c : Nat} {as : List Av} {vs : List V} {x dx : Addr} (A : At G W (makeE c m as) T0 env al σ H Q) (ar : AvReps G H0 T0 env al σ H as vs) (fit : ∀ sl r, m sl = some r → sl.length = n) (hx : H x = none) (hdx : H dx = none) (ne : dx ≠ x) :
    spG G n m (.ref x :: vs) (upd (upd H dx (.own x)) x (.ins (G.cls c) dx [])) (fun v H2 => v = .non ∧ Q (.ref x) H2) (fun cls d H' => W cls d σ H') := by
  obtain ⟨r0, env1, R, e, p⟩ := A
  unfold makeE at e
  split at e
  case h_2 => cases e
  rename_i ds ev
  have q := vals_ok ar ev
  have same : Same H (upd (upd H dx (.own x)) x (.ins (G.cls c) dx [])) := fun b o eb => by
    rw [upd_ne (ne_of_none eb hx), upd_ne (ne_of_none eb hdx)]; exact eb
  cases em : m (.bor (.ins c []) :: ds.map .val) with
  | none => rw [em] at e; cases e
  | some w =>
  obtain ⟨r, os⟩ := w
  rw [em] at e
  have no : ∀ (i : Nat) (o : O), (Sl.bor (.ins c []) :: ds.map .val)[i]? ≠ some (Sl.own o) := fun i o h => by
    cases i with
    | zero => simp at h
    | succ i =>
      rw [List.getElem?_cons_succ, List.getElem?_map] at h
      obtain ⟨_, _, z⟩ := Option.map_eq_some_iff.mp h
      cases z
  have bor0 : ∀ (i : Nat) (o : O), (Sl.bor (.ins c []) :: ds.map .val)[i]? = some (Sl.bor o) → i = 0 ∧ o = .ins c [] := fun i o h => by
    cases i with
    | zero => simp at h; exact ⟨rfl, h.symm⟩
    | succ i =>
      rw [List.getElem?_cons_succ, List.getElem?_map] at h
      obtain ⟨_, _, z⟩ := Option.map_eq_some_iff.mp h
      cases z
  have noT : ∀ a, TT (fun a => TT T0 env al a ∨ a = x) ((Sl.bor (.ins c []) :: ds.map .val).map some) (fun _ => x) a → TT T0 env al a ∨ H a = none := fun a z => by
    rcases z with (z | z) | ⟨j, ⟨o, z⟩, _⟩
    · exact .inl z
    · exact .inr (z ▸ hx)
    · exact absurd (sl_get z) (no j o)
  refine ⟨?_, fun a => TT T0 env al a ∨ a = x, .bor (.ins c []) :: ds.map .val, fun _ => x, r, os, ⟨?_, fun j d h => ?_, fun j o h => absurd (sl_get h) (no j o), fun j o h => ?_, fun a b ha hb _ => ?_, fun a z => ?_⟩, no, em, fun T1 H1 low d1 kp dm oa => ?_⟩
  · have := fit _ _ em
    rw [List.length_cons, List.length_map] at this
    rw [List.length_cons, ← q.length]; exact this
  · rw [List.length_map, List.length_map, List.length_cons, List.length_cons, List.length_map, q.length]
  · have h := sl_get h
    cases j with
    | zero => simp at h
    | succ j =>
      rw [List.getElem?_cons_succ, List.getElem?_map] at h
      obtain ⟨d', hd, z⟩ := Option.map_eq_some_iff.mp h
      cases z
      obtain ⟨v, hv, rp⟩ := q.get hd
      exact ⟨v, by rw [List.getElem?_map, List.getElem?_cons_succ, hv]; rfl, rp.mono (fun b o _ e => same b o e) noT⟩
  · obtain ⟨rfl, rfl⟩ := bor0 j o (sl_get h)
    refine ⟨rfl, .inr rfl, dx, [], ?_, Nat.zero_le _, Rps.nil⟩
    rw [upd_same, List.zip_nil_right]
  · have get : ∀ {j : Nat}, isC ((Sl.bor (.ins c []) :: ds.map .val).map some) j → j = 0 := fun {j} h => by
      rcases h with ⟨o, z⟩ | ⟨o, z⟩
      · exact absurd (sl_get z) (no j o)
      · exact (bor0 j o (sl_get z)).1
    rw [get ha, get hb]
  · rcases z with z | z
    · exact same_dom same (R.tt z)
    · rw [z, upd_same]; exact fun z => nomatch z
  · have bk : Backed env env [] [] := ⟨rfl, fun _ => Iff.rfl, fun _ => Iff.rfl, fun i s e => ⟨s, e⟩, fun _ _ => rfl, fun i ⟨j, h⟩ => by simp at h⟩
    have kp' : ∀ a o, (∀ (j i : Nat), ([] : List (Option Nat))[j]? = some (some i) → al i ≠ a) → H a = some o → H1 a = some o := fun a o _ ea =>
      kp a o (fun i b hb z => by rw [← z, hx] at ea; cases ea) (same a o ea)
    have dm' : ∀ a, H a ≠ none → H1 a ≠ none := fun a ha => dm a (same_dom same ha)
    cases r with
    | error xn =>
      cases e
      obtain ⟨R1, g1⟩ := R.behind (Tn := T0) (T1 := T1) bk (fun j i h => by simp at h) (fun _ z => z) (fun _ z => .inl z) (fun a z => low a (.inl z)) d1 kp' dm' (fun j i o h => by simp at h)
      exact fun cls d hx => p T0 H1 g1 R1 cls d (hx.mono fun a z => low a (.inl z))
    | ok r =>
      cases r with
      | ref i => cases e
      | new o => cases e
      | val d =>
        cases d <;> first | (cases e; done) | skip
        cases os with
        | nil => cases e
        | cons o1 os =>
          cases o1 with
          | none => cases e
          | some o =>
            cases e
            intro v hv
            have lx : ∀ a, TT (fun a => T0 a ∨ a = x) env al a → T1 a := fun a z => by
              rcases z with (z | z) | z
              · exact low a (.inl (.inl z))
              · exact low a (.inr z)
              · exact low a (.inl (.inr z))
            obtain ⟨R1, g1⟩ := R.behind (Tn := fun a => T0 a ∨ a = x) (T1 := T1) bk (fun j i h => by simp at h) (fun _ z => .inl z) (fun (a : Addr) (z : T0 a ∨ a = x) => z.imp id fun w => by rw [w]; exact hx) lx d1 kp' dm' (fun j i o h => by simp at h)
            refine ⟨hv, p _ H1 g1 R1 _ ⟨x, rfl, hx, .inr rfl, fun i hi z => ?_, (oa 0 o rfl).mono (fun _ _ _ e => e) (fun b hb => .inl (lx b hb)) rfl⟩⟩
            rcases hi with ⟨o', w⟩ | ⟨o', w⟩
            · exact (R.own i o' w).2.2.some (z ▸ hx)
            · exact (R.bor i o' w).2.2.some (z ▸ hx)
theorem make_guards {A : Around} {C : Addr} {us : List Value} {kw : List (Str × Value)} (h : A.guards = some []) : (A.under (.builtin "type.__call__" ⟨.ref C :: us, kw⟩)).guards = some [] := by
  first
  | exact h
  | simp [Around.under, Code.guards, pushGuards, h]
theorem pick_succ {α : Type} (a : α) (l : List α) (ix : List Nat) : pick (0 :: ix.map (· + 1)) (a :: l) = a :: pick ix l := by
  unfold pick
  rw [List.filterMap_cons]
  show a :: List.filterMap _ _ = _
  rw [List.filterMap_map]
  rfl
theorem de_make {x : Str} {p : Pos} {c : Nat} (M : Mk X.K (G.cls c) fa) (C : Cl X G j fa m (n + 1) nks (0 :: ix.map (· + 1)) dv) (hr : Room (j + 1) X.A) (hgd : X.A.guards = some []) (tk : Takes X W) (hm : X.mg x = some (.ref (G.cls c))) (ha : CA X es kws n nks (tO G W ks)) (hg : Gl X x := by rfl) (hdb : (x == ("__debug__" : Str)) = false := by decide) :
    DE G X W (.Call (.Name x p) es kws pos) (cMake c m ix dv ks) := by
  obtain ⟨⟨fd, ps, ds, dvs, F, hb, hd, hdv, fit⟩, _⟩ := C
  refine ⟨fun pins s σ H Q I ⟨T0, env, al, A⟩ => wpAny_Call_Name_kw (ld_glob I hg hm ?_ hdb)⟩
  refine ha pos (.ref (G.cls c)) [] pins s σ H (fun vs H1 => ∀ y dy, H1 y = none → H1 dy = none → dy ≠ y → spG G ps.length m (.ref y :: pick ix (vs ++ dvs)) (upd (upd H1 dy (.own y)) y (.ins (G.cls c) dy [])) (fun v H2 => v = .non ∧ Q (.ref y) H2) (fun cls d H' => W cls d σ H')) _ M.kp I ?_ ?_
  · exact ⟨T0, env, al, _, Q, A.choose_spec.choose_spec.1, A, fun T1 env1 H1 avs vs g R1 os A1 y dy hy hdy ne => make_sp A1 ((os.append (AvReps.vals (hdv _ _))).pick ix) fit hy hdy ne⟩
  · intro us ws s1 H1 vs I1 r l1 l2 q
    have hq := q (s1.heap.objs.size + 1) s1.heap.objs.size (I1.hok.fresh (Nat.le_succ _)) (I1.hok.fresh (Nat.le_refl _)) (Nat.ne_of_lt (Nat.lt_succ_self _))
    have I2 := L2.Inv.made (C := G.cls c) I1
    have rr : Vals (V.ref (s1.heap.objs.size + 1) :: pick ix (vs ++ dvs)) (pick (0 :: ix.map (· + 1)) ((Value.ref (s1.heap.objs.size + 1) :: us) ++ ws ++ ds)) := by
      rw [List.cons_append, List.cons_append, pick_succ]
      exact .cons rfl (Vals.pick (r.append hd) ix)
    refine wpAny_call (make_map (f := fa) I1.kIn M.makes M.init (beq_iff_eq.mp M.fn) (codeAny_mono (F.goes _ X.stack _ _ ⟨Value.ref (s1.heap.objs.size + 1) :: us, nks.zip ws⟩ _ _ _ _ (hr.make (G.cls c) us (nks.zip ws)) (make_guards hgd) (I2.env0.make (G.cls c) us (nks.zip ws))
      (hb _ (.ref (s1.heap.objs.size + 1) :: us) ws I2.kIn (by rw [List.length_cons, l1]) l2) rr hq) fun r s' hq' => ?_))
    match r, hq' with
    | .error xx, hq' => exact tk xx s' (XE.of_call I2 (fun _ _ _ z => z) hq')
    | .ok (.ret u), hq' =>
      obtain ⟨v, H', I3, rv, ev, q3⟩ := I2.after hq'
      subst ev
      exact ⟨rv, ⟨V.ref (s1.heap.objs.size + 1), H', I3, rfl, q3⟩⟩
    | .ok .next, hq' => exact hq'.elim
    | .ok .brk, hq' => exact hq'.elim
    | .ok .cont, hq' => exact hq'.elim
end
end Pd

namespace Pd
open PySem PySem.Spec PyProof.Rows L2
section
variable {G : Gc} {X : Cx} {W : WX} {T T0 T1 T2 Tn : Addr → Prop} {env env0 env1 env2 env' : Sv} {al al1 al2 : Nat → Addr} {σ σ1 : L2.St} {H0 H H1 H2 : Hp} {Q Q1 : VK} {f h : DEn} {k : Out → DEn} {pos : Pos} {e e1 e2 e3 : Expr} {es : List Expr} {ks ka kb : List AK} {m : FD} {n j : Nat} {ix : List Nat} {dv : List D} {fa : Addr}
theorem takes0 : Takes X W0 := fun _ _ ⟨_, _, _, _, _, _, _, _, _, _, _, _, _, _, _, _, w⟩ => w.elim
/-- a method of a class that Python itself calls -/
structure OwnMP (P : Program) (w : World) (K : PySem.W.Frag) (mg : Str → Option Value) (base : Heap) (G : Gc) (j c : Nat) (nm : Str) (m : FD) : Prop where
  ex : ∃ f, PySem.W.findIn K (.ref (G.cls c)) nm = some (some (.ref f)) ∧ PySem.W.isFn K (.ref f) = true ∧ ClP P w K mg base G j f m 1 [] [0] []
  nb : PySem.W.findIn K (.ref (G.cls c)) "__bool__" = some none
abbrev OwnM (X : Cx) := OwnMP X.prog X.w X.K X.mg X.base
theorem OwnMP.up {P : Program} {w : World} {K : PySem.W.Frag} {mg : Str → Option Value} {base : Heap} {i c : Nat} {nm : Str} (o : OwnMP P w K mg base G j c nm m) (h : j ≤ i) : OwnMP P w K mg base G i c nm m := ⟨o.ex.elim fun f ⟨a, b, c⟩ => ⟨f, a, b, c.up h⟩, o.nb⟩
theorem run_at {A' : Around} {pins : List (Addr × Obj)} {s : Shared} {us : List Value} {ar : Args} {fd : FuncData} {ps : List Str} {sp : Sp} {vs : List V} (F : FnG X.prog X.w X.K X.mg X.base j fa fd ps sp) (hr : Room j A') (hg : A'.guards = some []) (I : Inv X pins σ H s) (e0 : Env0 X.prog X.w X.K X.mg X.base A' X.stack s H)
    (hb : BindsTo s fd ar (ps.zip us)) (r : Vals vs us) (h : sp vs H Q (fun _ _ _ => False)) : wpAny (model X.prog X.w) A' (call (.ref fa) ar.pos ar.kw) (EP X pins σ Q) X.xe s := by
  refine wpAny_call (codeAny_mono (F.goes A' X.stack s H ar us vs Q _ hr hg e0 hb r h) fun r s' hq => ?_)
  match r, hq with
  | .error x, hq => exact takes0 x s' (XE.of_call (W := W0) I (fun _ _ _ z => z) hq)
  | .ok (.ret u), hq => exact I.after hq
  | .ok .next, hq => exact hq.elim
  | .ok .brk, hq => exact hq.elim
  | .ok .cont, hq => exact hq.elim
def ownE (m : FD) (d : D) : Option D := match m [.val d] with
  | some (.ok (.val r), _) => some r
  | _ => none
def flat : D → Bool
  | .int _ => true
  | .str _ => true
  | _ => false
theorem flat_rp {d : D} {v : V} (hf : flat d = true) (h : Rp G T H d v) : Rp G T1 H1 d v := by
  cases d <;> first | (cases hf; done) | exact h
/-- what own methods of an instance give -/
def rOwn (X : Cx) (G : Gc) (j : Nat) (nm : Str) (B : V → Hp → VK → Prop) : List V → Hp → VK → Prop := fun xs H Q => ∃ a c dx fs m, xs = [.ref a] ∧ H a = some (.ins (G.cls c) dx fs) ∧ OwnM X G j c nm m ∧ ∃ T d r, Rp G T H d (.ref a) ∧ (∀ a, T a → H a ≠ none) ∧ ownE m d = some r ∧ flat r = true ∧ ∀ v H', Same H H' → Rp G T H' r v → B v H' Q
theorem own_sp {a : Addr} {d r : D} (rp : Rp G T H d (.ref a)) (ht : ∀ a, T a → H a ≠ none) (e : ownE m d = some r) (fit : ∀ sl r, m sl = some r → sl.length = n) (hf : flat r = true) (q : ∀ v H', Same H H' → Rp G T H' r v → Q v H') : spG G n m [.ref a] H Q (fun _ _ _ => False) := by
  unfold ownE at e
  split at e
  · rename_i r' os em
    cases e
    have noO : ∀ j, ¬ ownI ([some (Sl.val d)] : Sv) j := fun j ⟨o, h⟩ => by
      cases j with
      | zero => simp at h
      | succ j => simp at h
    have noB : ∀ j, ¬ borI ([some (Sl.val d)] : Sv) j := fun j ⟨o, h⟩ => by
      cases j with
      | zero => simp at h
      | succ j => simp at h
    refine ⟨fit _ _ em, T, [.val d], fun _ => 0, _, os, ⟨rfl, fun j d' h => ?_, fun j o h => absurd ⟨o, h⟩ (noO j), fun j o h => absurd ⟨o, h⟩ (noB j), fun a b ha => (ha.elim (noO a) (noB a)).elim, ht⟩, fun j o h => ?_, em, fun T1 H1 low d1 kp dm oa v hv => ?_⟩
    · cases j with
      | zero =>
        simp at h
        subst h
        exact ⟨_, rfl, rp.mono (fun _ _ _ e => e) (fun b hb => .inl (hb.elim id fun ⟨i, hi, _⟩ => absurd hi (noO i)))⟩
      | succ j => simp at h
    · cases j with
      | zero => simp at h
      | succ j => simp at h
    · refine q v H1 (fun b o eb => kp b o (fun i c hc => ?_) eb) (flat_rp hf hv)
      cases i with
      | zero => simp at hc
      | succ i => simp at hc
  · cases e
theorem own_run {A' : Around} {pins : List (Addr × Obj)} {s : Shared} {a c : Nat} {nm : Str} {B : V → Hp → VK → Prop} {xs : List V} (h : rOwn X G j nm B xs H Q) (hr : Room j A') (hg : A'.guards = some []) (I : Inv X pins σ H s) (e0 : Env0 X.prog X.w X.K X.mg X.base A' X.stack s H) :
    ∃ a c dx fs f, xs = [.ref a] ∧ H a = some (.ins (G.cls c) dx fs) ∧ PySem.W.findIn X.K (.ref (G.cls c)) nm = some (some (.ref f)) ∧ PySem.W.isFn X.K (.ref f) = true ∧ wpAny (model X.prog X.w) A' (call (.ref f) [.ref a]) (EP X pins σ fun v H' => B v H' Q) X.xe s := by
  obtain ⟨a, c, dx, fs, m, rfl, ea, ⟨⟨f, h1, h2, ⟨⟨fd, ps, ds, dvs, F, hb, hd, hdv, fit⟩, kp⟩⟩, nb⟩, T, d, r, rp, ht, eo, hf, q⟩ := h
  refine ⟨a, c, dx, fs, f, rfl, ea, h1, h2, ?_⟩
  have hb' := hb s [.ref a] [] I.kIn rfl rfl
  exact run_at (us := [.ref a]) (ar := ⟨[.ref a], []⟩) F hr hg I e0 hb' (show Vals [V.ref a] [Value.ref a] from .cons (show L2.RelV (V.ref a) (Value.ref a) from rfl) .nil) (own_sp rp ht eo fit hf q)
theorem inst_of {pins : List (Addr × Obj)} {s : Shared} {a C dx : Addr} {fs : List (Str × V)} (I : Inv X pins σ H s) (e : H a = some (.ins C dx fs)) : ∃ od, PySem.W.InstAt s.heap a (PySem.W.instObj C dx) C (some od) := by
  obtain ⟨mA, O, _⟩ := ins_get I.hok e
  exact O.look.elim fun od z => ⟨od, z.1⟩
theorem fr_of {pins : List (Addr × Obj)} {s : Shared} (I : Inv X pins σ H s) : ∃ m, Fr X.base X.env.locals s.heap m := by
  obtain ⟨m, n, _⟩ := I.loc
  exact ⟨m, n, I.bk, Nat.le_trans I.ok.bsz I.ok.above⟩
def bLen : V → Hp → VK → Prop := fun v H Q => ∃ n : Int, v = .int n ∧ 0 ≤ n ∧ n < 2 ^ 63 ∧ Q (.int n) H
def bStr : V → Hp → VK → Prop := fun v H Q => ∃ n : Str, v = .str n ∧ Q (.str n) H
theorem call_lenOwn (hr : Room (j + 1) X.A) (hgd : X.A.guards = some []) : CallR X (.builtin "len") (rOwn X G j "__len__" bLen) := by
  intro pins s σ H xs us Q I r h
  obtain ⟨a, c, dx, fs, f, rfl, ea, h1, h2, hw⟩ := own_run (a := 0) (c := 0) h (A' := X.A.in1) hr.in1 hgd I I.env0.in1
  obtain rfl := Vals.ref1 r
  obtain ⟨od, i⟩ := inst_of I ea
  obtain ⟨mm, F⟩ := fr_of I
  refine PySem.W.len_K F I.ok.mod.kin i h1 h2 (thn hw fun u s' ⟨v, H', I', rv, n, ev, n0, n1, q⟩ => ?_)
  subst ev
  obtain ⟨t, rfl⟩ := rv
  exact ⟨⟨n0, n1⟩, .int n, H', I'.tok _, ⟨_, rfl⟩, q⟩
theorem call_reprOwn (hr : Room (j + 1) X.A) (hgd : X.A.guards = some []) : CallR X (.builtin "repr") (rOwn X G j "__repr__" bStr) := by
  intro pins s σ H xs us Q I r h
  obtain ⟨a, c, dx, fs, f, rfl, ea, h1, h2, hw⟩ := own_run (a := 0) (c := 0) h (A' := X.A.in1) hr.in1 hgd I I.env0.in1
  obtain rfl := Vals.ref1 r
  obtain ⟨od, i⟩ := inst_of I ea
  obtain ⟨mm, F⟩ := fr_of I
  refine PySem.W.repr_K hr.in1.units0 F I.ok.mod.kin i h1 h2 (thn hw fun u s' ⟨v, H', I', rv, n, ev, q⟩ => ?_)
  subst ev
  obtain ⟨t, rfl⟩ := rv
  exact ⟨.str n, H', I', ⟨_, rfl⟩, q⟩
theorem call_strOwn (hr : Room (j + 2) X.A) (hgd : X.A.guards = some []) : CallR X (.type "str") (rOwn X G j "__str__" bStr) := by
  intro pins s σ H xs us Q I r h
  obtain ⟨a, c, dx, fs, f, rfl, ea, h1, h2, hw⟩ := own_run (a := 0) (c := 0) h (A' := X.A.in1.in1) hr.in1.in1 hgd I I.env0.in1.in1
  obtain rfl := Vals.ref1 r
  obtain ⟨od, i⟩ := inst_of I ea
  refine PySem.W.kso_call hr.in1.in1.units0 I.kIn i h1 h2 (thn hw fun u s' ⟨v, H', I', rv, n, ev, q⟩ => ?_)
  subst ev
  obtain ⟨t, rfl⟩ := rv
  exact ⟨.str n, H', I', ⟨_, rfl⟩, q⟩
end
section
variable {prog : Program} {w : World} {A : Around} {E : Value → Shared → Prop} {s : Shared} {K : PySem.W.Frag} {x C f : Addr} {ox : Obj} {od : Option Obj}
/-- the truth of an instance with __len__ -/
theorem truthy_len {Q : Bool → Shared → Prop} (X : K.In s.heap) (I : PySem.W.InstAt s.heap x ox C od) (hb : PySem.W.findIn K (.ref C) "__bool__" = some none) (hl : PySem.W.findIn K (.ref C) "__len__" = some (some (.ref f))) (hf : PySem.W.isFn K (.ref f) = true)
    (h : wpAny (model prog w) A.in1 (call (.ref f) [.ref x]) (fun v s' => ∃ n t, v = .int n t ∧ 0 ≤ n ∧ n < 2 ^ 63 ∧ ∀ tk, Q (n != 0) { s' with toks := tk }) E s) : wpAny (model prog w) A (truthy (.ref x)) Q E s := by
  have key : wpAny (model prog w) A (runValue (.builtin "len" ⟨[.ref x], []⟩)) (fun r s' => ∃ n t, r = .int n t ∧ Q (n != 0) s') E s := by
    refine wpAny_runValue (codeAny_builtin entry_len ?_)
    rw [Around.under_plainId plain_len _]
    unfold Builtin.«len»
    refine wpAny_bind (m := oneArg "len" _) (wpAny_pure ?_)
    refine wpAny_bind (m := callSpecial? (.ref x) (Str.ofString "__len__")) (PySem.W.special_fn X I hl (beq_iff_eq.mp hf) (wpAny_mono h (fun r s' hr => ?_) fun _ _ y => y))
    obtain ⟨n, t, rfl, n0, n1, hq⟩ := hr
    refine wpAny_bind (wpAny_holding (wpAny_pure ?_))
    refine wpAny_bind (wpAny_letGo ?_)
    show wpAny _ _ (if n < 0 then _ else _) _ _ _
    rw [if_neg (by omega)]
    show wpAny _ _ (if n ≥ 2 ^ 63 then _ else _) _ _ _
    rw [if_neg (by omega)]
    exact wpAny_bind (wpAny_mkInt (wpAny_pure ⟨n, _, rfl, hq _⟩))
  have hsp : ∀ {Q' : Option Value → Shared → Prop}, Q' (some (.ref f)) s → wpAny (model prog w) A (specialOf (.ref x) "__len__") Q' E s := fun q => by
    unfold specialOf
    exact wpAny_bind (I.type.here ((PySem.W.looks_findIn X hl).here q))
  unfold truthy
  refine wpAny_bind (m := callSpecial? (.ref x) (Str.ofString "__bool__")) (wpAny_bind (wpAny_bind (I.type.here ((PySem.W.looks_findIn X hb).here (wpAny_pure ?_)))))
  refine wpAny_bind (hsp ?_)
  refine wpAny_bind (wpAny_mono key (fun r s' h' => ?_) fun _ _ e => e)
  obtain ⟨n, t, rfl, hq⟩ := h'
  exact wpAny_pure hq
theorem bool_len {Q : Value → Shared → Prop} (X : K.In s.heap) (I : PySem.W.InstAt s.heap x ox C od) (hb : PySem.W.findIn K (.ref C) "__bool__" = some none) (hl : PySem.W.findIn K (.ref C) "__len__" = some (some (.ref f))) (hf : PySem.W.isFn K (.ref f) = true)
    (h : wpAny (model prog w) A.in1.in1.in1 (call (.ref f) [.ref x]) (fun v s' => ∃ n t, v = .int n t ∧ 0 ≤ n ∧ n < 2 ^ 63 ∧ ∀ tk, Q (.bool (n != 0)) { s' with toks := tk }) E s) : wpAny (model prog w) A (call (.type "bool") [.ref x]) Q E s := by
  refine callType_codes (T := "bool") (Bi := Builtin.«object.__init__») (Q₁ := fun r s₁ => ∃ b, r = .bool b ∧ Q r s₁) PySem.F.called_bool (PySem.F.typeCall_bool_1 _) PySem.F.entry_object_init ?_ ?_
  · refine codeAny_of_tree ?_
    show wpAny _ A.in1.in1 (do checkBuiltinCall "bool.__new__" ⟨[.type "bool", .ref x], []⟩; again (.builtin "bool.__new__" ⟨[.type "bool", .ref x], []⟩)) _ _ s
    refine wpAny_bind (wpAny_of_eq (PySem.F.newCall_bool_1 _) (wpAny_pure ⟨plainId_quiet (by decide +kernel) _, codeAny_builtin PySem.F.entry_bool_new ?_⟩))
    rw [Around.under_plainId (by decide +kernel) _]
    unfold Builtin.«bool.__new__»
    refine wpAny_bind (m := isType (.type "bool")) (wpAny_pure ?_)
    refine wpAny_bind (wpAny_of_eq PySem.F.conv_sub_bool ?_)
    refine wpAny_bind (m := someArgs "bool" 0 1 _) (wpAny_pure ?_)
    refine wpAny_bind (truthy_len X I hb hl hf (wpAny_mono h (fun r s' hr => ?_) fun _ _ y => y))
    obtain ⟨n, t, rfl, n0, n1, hq⟩ := hr
    exact ⟨n, t, rfl, n0, n1, fun tk => wpAny_pure ⟨_, rfl, hq tk⟩⟩
  · rintro obj s₁ ⟨b, rfl, hq⟩
    exact ⟨PySem.typeIs_bool _ _, PySem.F.args_object_init_2 _ _, object_init_meets PySem.F.called_bool.init.lookup PySem.F.called_bool.made (by decide) prog w A.in1 _ s₁ ⟨PySem.typeIs_bool _ _, rfl, hq⟩⟩
end
section
variable {G : Gc} {X : Cx} {W : WX} {T T0 T1 T2 Tn : Addr → Prop} {env env0 env1 env2 env' : Sv} {al al1 al2 : Nat → Addr} {σ σ1 : L2.St} {H0 H H1 H2 : Hp} {Q Q1 : VK} {m : FD} {n j : Nat}
def bBool : V → Hp → VK → Prop := fun v H Q => ∃ n : Int, v = .int n ∧ 0 ≤ n ∧ n < 2 ^ 63 ∧ Q (.bl (n != 0)) H
theorem call_boolOwn (hr : Room (j + 3) X.A) (hgd : X.A.guards = some []) : CallR X (.type "bool") (rOwn X G j "__len__" bBool) := by
  intro pins s σ H xs us Q I r h
  have hc : ∃ a c dx fs, xs = [.ref a] ∧ H a = some (.ins (G.cls c) dx fs) ∧ ∃ m, OwnM X G j c "__len__" m := by
    obtain ⟨a', c, dx, fs, m, e, ea, om, _⟩ := id h
    exact ⟨a', c, dx, fs, e, ea, m, om⟩
  obtain ⟨a, c, dx, fs, f, rfl, ea, h1, h2, hw⟩ := own_run (a := 0) (c := 0) h (A' := X.A.in1.in1.in1) hr.in1.in1.in1 hgd I I.env0.in1.in1.in1
  obtain ⟨a0, c0, dx0, fs0, e0, ea0, om⟩ := hc
  cases e0
  rw [ea] at ea0
  have hbc : PySem.W.findIn X.K (.ref (G.cls c)) "__bool__" = some none := by
    have : G.cls c = G.cls c0 := by injection ea0 with z; injection z
    rw [this]
    exact om.elim fun _ z => z.nb
  obtain rfl := Vals.ref1 r
  obtain ⟨od, i⟩ := inst_of I ea
  refine bool_len I.kIn i hbc h1 h2 (thn hw fun u s' ⟨v, H', I', rv, n, ev, n0, n1, q⟩ => ?_)
  subst ev
  obtain ⟨t, rfl⟩ := rv
  exact ⟨n, t, rfl, n0, n1, fun tk => ⟨.bl (n != 0), H', I'.tok _, rfl, q⟩⟩
/-! ### at the data -/
abbrev Tab := List (Nat × FD)
def ownD (tab : Tab) (B : D → Option Out) : List D → Option Out
  | [.ins c ds] => (tab.lookup c).bind fun m => (ownE m (.ins c ds)).bind B
  | _ => none
def oLen : D → Option Out
  | .int n => if 0 ≤ n ∧ n < 2 ^ 63 then some (.val (.int n)) else none
  | _ => none
def oStr : D → Option Out
  | .str s => some (.val (.str s))
  | _ => none
def oBool : D → Option Out
  | .int n => if 0 ≤ n ∧ n < 2 ^ 63 then some (.val (.bl (n != 0))) else none
  | _ => none
theorem tab_mem {tab : Tab} {c : Nat} {m : FD} (h : tab.lookup c = some m) : (c, m) ∈ tab := by
  induction tab with
  | nil => cases h
  | cons p tab ih =>
    obtain ⟨a, b⟩ := p
    rw [List.lookup_cons] at h
    split at h
    · rename_i e
      cases h
      rw [eq_of_beq e]
      exact List.mem_cons_self
    · exact List.mem_cons_of_mem _ (ih h)
theorem rc_own {tab : Tab} {nm : Str} {B : D → Option Out} {Bv : V → Hp → VK → Prop} (ht : ∀ p ∈ tab, OwnM X G j p.1 nm p.2) (hF : ∀ d o, B d = some o → flat d = true ∧ ∃ d', o = .val d') (hB : ∀ d o T H v Q, B d = some o → Rp G T H d v → PP G T H o Q → Bv v H Q) : RCok G (rOwn X G j nm Bv) (ownD tab B) := fun T H vs ds o hT h e Q p => by
  unfold ownD at e
  split at e
  · rename_i c ds0
    obtain ⟨m, em, e⟩ := Option.bind_eq_some_iff.mp e
    obtain ⟨r, er, e⟩ := Option.bind_eq_some_iff.mp e
    obtain ⟨v, rfl, hv⟩ := h.one
    obtain ⟨a, dx, xs, rfl, ea, l, q⟩ := hv.ins
    obtain ⟨fl, d', rfl⟩ := hF r o e
    have rp : ∃ T', Rp G T' H (.ins c ds0) (.ref a) ∧ ∀ b, T' b → H b ≠ none := by
      rcases hv with hv | ⟨a', o', e1, e2, oa⟩
      · exact ⟨T, hv, hT⟩
      · cases e1
        refine ⟨fun b => T b ∧ b ≠ a, ?_, fun b hb => hT b hb.1⟩
        rw [e2]
        exact (oa.mono (T' := fun b => T b ∧ b ≠ a) (fun _ _ _ e => e) (fun b hb => .inl hb.1) rfl).rp fun z => z.2 rfl
    obtain ⟨T', rp, dT⟩ := rp
    exact ⟨a, c, dx, _, m, rfl, ea, ht _ (tab_mem em), T', _, r, rp, dT, er, fl, fun v H' s rv => hB r _ T H' v Q e (flat_rp fl rv) fun v' H'' s' rv' => p v' H'' (fun b o eb => s' b o (s b o eb)) rv'⟩
  · cases e
theorem rc_ownLen {tab : Tab} (ht : ∀ p ∈ tab, OwnM X G j p.1 "__len__" p.2) : RCok G (rOwn X G j "__len__" bLen) (ownD tab oLen) := rc_own ht (fun d o e => by
    unfold oLen at e
    split at e
    · split at e
      · cases e; exact ⟨rfl, _, rfl⟩
      · cases e
    · cases e) fun d o T H v Q e rp p => by
    unfold oLen at e
    split at e
    · split at e
      · rename_i hn
        cases e
        cases rp
        exact ⟨_, rfl, hn.1, hn.2, p _ H (fun _ _ e => e) rfl⟩
      · cases e
    · cases e
theorem rc_ownBool {tab : Tab} (ht : ∀ p ∈ tab, OwnM X G j p.1 "__len__" p.2) : RCok G (rOwn X G j "__len__" bBool) (ownD tab oBool) := rc_own ht (fun d o e => by
    unfold oBool at e
    split at e
    · split at e
      · cases e; exact ⟨rfl, _, rfl⟩
      · cases e
    · cases e) fun d o T H v Q e rp p => by
    unfold oBool at e
    split at e
    · split at e
      · rename_i hn
        cases e
        cases rp
        exact ⟨_, rfl, hn.1, hn.2, p _ H (fun _ _ e => e) rfl⟩
      · cases e
    · cases e
theorem rc_ownStr {tab : Tab} {nm : Str} (ht : ∀ p ∈ tab, OwnM X G j p.1 nm p.2) : RCok G (rOwn X G j nm bStr) (ownD tab oStr) := rc_own ht (fun d o e => by
    unfold oStr at e
    split at e
    · cases e; exact ⟨rfl, _, rfl⟩
    · cases e) fun d o T H v Q e rp p => by
    unfold oStr at e
    split at e
    · cases e
      exact ⟨_, rp.1, p _ H (fun _ _ e => e) ⟨rfl, rp.2⟩⟩
    · cases e
/-- one thing or another -/
def orG (g g' : List D → Option Out) : List D → Option Out := fun ds => match g ds with
  | some o => some o
  | none => g' ds
theorem callR_or {fv : Value} {r r' : List V → Hp → VK → Prop} (a : CallR X fv r) (b : CallR X fv r') : CallR X fv fun xs H Q => r xs H Q ∨ r' xs H Q := fun pins s σ H xs us Q I rv h => h.elim (a pins s σ H xs us Q I rv) (b pins s σ H xs us Q I rv)
theorem rc_or {r r' : List V → Hp → VK → Prop} {g g' : List D → Option Out} (a : RCok G r g) (b : RCok G r' g') : RCok G (fun xs H Q => r xs H Q ∨ r' xs H Q) (orG g g') := fun T H vs ds o hT h e Q p => by
  unfold orG at e
  cases eg : g ds with
  | some o' => rw [eg] at e; cases e; exact .inl (a T H vs ds _ hT h eg Q p)
  | none => rw [eg] at e; exact .inr (b T H vs ds o hT h e Q p)
def gBool : List D → Option Out
  | [.int i] => some (.val (.bl (i != 0)))
  | [.bl b] => some (.val (.bl b))
  | _ => none
theorem rc_bool : RCok G (fun xs H Q => (∃ i, xs = [.int i] ∧ Q (.bl (i != 0)) H) ∨ ∃ k, xs = [.bl k] ∧ Q (.bl k) H) gBool := fun T H vs ds o _ h e Q p => by
  unfold gBool at e
  split at e
  · obtain ⟨v, rfl, h1⟩ := h.one
    cases h1.int; cases e
    exact .inl ⟨_, rfl, p.val rfl⟩
  · obtain ⟨v, rfl, h1⟩ := h.one
    cases h1.bl; cases e
    exact .inr ⟨_, rfl, p.val rfl⟩
  · cases e
end
end Pd

namespace Pd
open PySem PySem.Spec PyProof.Rows L2
/-- the law's call behind the top -/
theorem law_g {P : Program} {w : World} {K : PySem.W.Frag} {mg mb : Str → Option Value} {k : Nat} {fl la : Addr} {fd : FuncData} {x : Str} {sp : Sp} {st : Shared} {ws : List Value} {zs : List Int}
    (kin : K.In st.heap) (gl : st.heap.Ns mainGlobals mg) (bl : st.heap.Ns builtinsNs mb) (bb : ∀ y : Str, y ≠ "__name__" → mb y = bootBuiltins y) (nl : st.heap.NoLimit) (ge : st.gens = #[])
    (ob : st.heap.get? la = some { cls := .type "list", data := .seq ws.toArray }) (ii : IntsAre ws zs) (lz : zs.length ≤ sizeLine) (room : Room k callerA)
    (F : ∀ ba : Heap, K.In ba → ba.Ns mainGlobals mg → FnG P w K mg ba k fl fd [x] sp) (bi : ∀ (s : Shared) (u : Value), BindsTo s fd ⟨[u], []⟩ [(x, u)])
    (wish : ∀ H : Hp, SqL K H la (zs.map V.int) → (∀ b, H b ≠ none → b = la) → sp [.ref la] H (fun v _ => v = .bl true) fun _ _ _ => False) :
    codeAny (model P w) callerA (.call (.ref fl) ⟨[.ref la], []⟩) (fun r s' => r = .ok (.ret (.bool true)) ∧ OldK st.heap s'.heap ∧ s'.os = st.os ∧ AllBare s'.gens) st := by
  have rv := vals_ints ii
  have lv := ii.length
  have main : ∀ H : Hp, L2.Only H → SqL K H la (zs.map V.int) → HOk P w H st.heap → (∀ b, H b ≠ none → b = la) → (H la ≠ none → K.lookup la = none) →
      codeAny (model P w) callerA (.call (.ref fl) ⟨[.ref la], []⟩) (fun r s' => r = .ok (.ret (.bool true)) ∧ OldK st.heap s'.heap ∧ s'.os = st.os ∧ AllBare s'.gens) st := by
    intro H on sq hk one out
    have low : ∀ {b : Addr} {o : Obj}, st.heap.get? b = some o → H b = none → (hidT st.heap H).get? b = some o := fun e n => hidT_get e n
    have noD : ∀ {b : Addr} {o : Obj} {es : Array DictEntry} {ep : Nat}, st.heap.get? b = some o → o.data = .dict es ep → H b = none := fun {b o es ep} e d => by
      cases q : H b with
      | none => rfl
      | some u =>
        obtain rfl : b = la := one b (by rw [q]; exact fun z => nomatch z)
        rw [ob] at e; cases e
        have d' : Data.seq ws.toArray _ = Data.dict es ep := d
        cases d'
    have nsB : ∀ {b : Addr} {m : Str → Option Value}, st.heap.Ns b m → (hidT st.heap H).Ns b m := fun {b m} ⟨o, es, ep, e, d, r⟩ => ⟨o, es, ep, low e (noD e d), d, r⟩
    have kinB : K.In (hidT st.heap H) := fun b o e => low (kin b o e) (by
      cases q : H b with
      | none => rfl
      | some u =>
        obtain rfl : b = la := one b (by rw [q]; exact fun z => nomatch z)
        rw [out (by rw [q]; exact fun z => nomatch z)] at e; cases e)
    have md : Mod K mg (hidT st.heap H) := ⟨kinB, nsB gl, ⟨mb, nsB bl, bb⟩, let ⟨mc, h1, h2⟩ := nl; ⟨mc, nsB h1, h2⟩⟩
    have en : Env0 P w K mg (hidT st.heap H) callerA [] st H := ⟨rfl, md, fun b o e => of_hidT e, Nat.le_of_eq (hidT_size _ _), trivial, fun b hb => absurd hb List.not_mem_nil, hk, .of_eq ge⟩
    refine codeAny_mono ((F _ kinB (nsB gl)).goes callerA [] st H ⟨[.ref la], []⟩ [.ref la] [.ref la] _ _ room rfl en (bi st (.ref la)) (show Vals [V.ref la] [Value.ref la] from .cons (show L2.RelV (V.ref la) (Value.ref la) from rfl) .nil) (wish H sq one)) fun r s' h => ?_
    match r, h with
    | .error e, ⟨_, _, _, _, _, _, _, _, _, _, _, _, z⟩ => exact z.elim
    | .ok .next, h => exact h.elim
    | .ok .brk, h => exact h.elim
    | .ok .cont, h => exact h.elim
    | .ok (.ret u), ⟨v, H', os, bare, un, hok', r', q⟩ =>
      have q' : v = .bl true := q
      subst q'
      obtain rfl : u = Value.bool true := r'
      refine ⟨rfl, OldK.of_keep fun b o e => ?_, os, bare⟩
      cases q : H b with
      | none => exact un.keep b o e q List.not_mem_nil List.not_mem_nil
      | some u =>
        rcases on b with z | ⟨ob', xs, z⟩
        · rw [q] at z; cases z
        · obtain ⟨e1, _⟩ := hk b _ z
          obtain ⟨e2, _⟩ := hok' b _ (un.frzs b ob' _ z)
          rw [e] at e1; cases e1
          exact e2
  cases hk : K.lookup la with
  | some o =>
    have e := kin la o hk
    rw [ob] at e
    cases e
    exact main (fun _ => none) (fun _ => .inl rfl) (.inr ⟨_, ws.toArray, _, hk, rfl, rfl, rfl, by rw [List.size_toArray, lv]; exact lz, by simpa using rv⟩) (fun b u z => nomatch (show (none : Option HO) = some u from z)) (fun b z => absurd rfl z) fun z => absurd rfl z
  | none =>
    refine main (fun b => if b = la then some (.frz { cls := .type "list", data := .seq ws.toArray } (.lst (zs.map V.int))) else none) (fun b => ?_) (.inl (.inr ⟨_, if_pos rfl⟩)) (fun b u z => ?_) (fun b z => ?_) fun _ => hk
    · by_cases hb : b = la
      · exact .inr ⟨_, _, if_pos hb⟩
      · exact .inl (if_neg hb)
    · by_cases hb : b = la
      · have z' := (if_pos hb).symm.trans z
        cases z'
        subst hb
        exact ⟨ob, by rw [List.length_map]; exact lz, ws, _, rv, ob⟩
      · have z' := (if_neg hb).symm.trans z
        cases z'
    · by_cases hb : b = la
      · exact hb
      · exact absurd (if_neg hb) z
/-- the data that the law is given -/
theorem law_sp {G : Gc} {m : FD} {H : Hp} {a : Addr} {ns : List Int} {os : List (Option O)} (fit : ∀ sl r, m sl = some r → sl.length = 1) (hl : ns.length ≤ LIM) (sq : SqL G.K H a (ns.map V.int)) (em : m [.val (.scr ns)] = some (.ok (.val (.bl true)), os)) :
    spG G 1 m [.ref a] H (fun v _ => v = .bl true) fun _ _ _ => False := by
  have rp : Rp G (fun _ => False) H (.scr ns) (.ref a) := ⟨a, rfl, sq.elim (fun z => .inl ⟨id, z⟩) (fun z => .inr (.inr z)), hl⟩
  have no : ∀ (j : Nat) (s : Sl), ([Sl.val (.scr ns)] : List Sl)[j]? = some s → j = 0 ∧ s = .val (.scr ns) := fun j s h => by
    cases j with
    | zero => simp at h; exact ⟨rfl, h.symm⟩
    | succ j => simp at h
  have noO : ∀ j, ¬ ownI (([Sl.val (.scr ns)] : List Sl).map some) j := fun j ⟨o, h⟩ => by obtain ⟨_, z⟩ := no j _ (sl_get h); cases z
  have noB : ∀ j, ¬ borI (([Sl.val (.scr ns)] : List Sl).map some) j := fun j ⟨o, h⟩ => by obtain ⟨_, z⟩ := no j _ (sl_get h); cases z
  refine ⟨rfl, fun _ => False, [.val (.scr ns)], fun _ => 0, _, os, ⟨rfl, fun j d h => ?_, fun j o h => absurd ⟨o, h⟩ (noO j), fun j o h => absurd ⟨o, h⟩ (noB j), fun a b ha => (ha.elim (noO a) (noB a)).elim, fun _ z => z.elim⟩, fun j o h => (by obtain ⟨_, z⟩ := no j _ h; cases z), em, fun T1 H1 _ _ _ _ _ v hv => hv⟩
  obtain ⟨rfl, z⟩ := no j _ (sl_get h)
  cases z
  exact ⟨_, rfl, rp.mono (fun _ _ _ e => e) (fun b hb => .inl (hb.elim id fun ⟨i, hi, _⟩ => absurd hi (noO i)))⟩
theorem walk_g {l : PySem.W.OpenLaw} {k : Nat} {q : Program} {loose : List Str} {XP : (Str → Option Value) → Heap → Prop} {YP : World → Heap → Prop} {d : DefRec} {K : Params → PySem.W.Frag} {x : Str}
    (hn : l.most = some 63) (hdf : d.params.defaults = []) (room : Room k callerA) (hY : ∀ (w : World) (h : Heap), YP w h → (K w.params).In h)
    (F : ∀ (w : World) (mg : Str → Option Value) (fa : Addr) (h : Heap), (K w.params).In h → h.Ns mainGlobals mg → mg d.name = some (.ref fa) →
      ∃ (fd : FuncData) (G : Gc) (m : FD), G.K = K w.params ∧ (∀ (s : Shared) (u : Value), BindsTo s fd ⟨[u], []⟩ [(x, u)]) ∧ (∀ sl r, m sl = some r → sl.length = 1) ∧ (∀ ns : List Int, ns.length ≤ 63 → ∃ os, m [.val (.scr ns)] = some (.ok (.val (.bl true)), os)) ∧
        ∀ ba : Heap, (K w.params).In ba → ba.Ns mainGlobals mg → FnG l.prog w (K w.params) mg ba k fa fd [x] (spG G 1 m)) :
    PySem.W.WalkO q loose XP YP l.row.toRowW d [] (fun f vs => PySem.call f vs) := by
  refine Att.attach_call hn hdf fun w s0 s1 mg mb fa o pm cd doc a vs ns E Y ho hd hcd hmg hobj hints hlen hg => ?_
  obtain ⟨fd, G, m, hK, hb, fit, pure, hF⟩ := F w mg fa _ (hY w _ Y) E.T.g hmg
  obtain ⟨os, em⟩ := pure ns hlen
  refine law_g (hY w _ Y) E.T.g E.T.b E.T.builtins E.T.nolimit hg hobj hints (Nat.le_trans hlen (by decide)) room hF hb fun H sq _ => law_sp fit (Nat.le_trans hlen (by decide)) (by rw [hK]; exact sq) em
end Pd

namespace Pd
open PySem PySem.Spec PyProof.Rows L2
section
variable {G : Gc} {X : Cx} {W : WX} {T T0 T1 T2 Tn : Addr → Prop} {env env0 env1 env2 env' : Sv} {al al1 al2 : Nat → Addr} {σ σ1 : L2.St} {H0 H H1 H2 : Hp} {Q Q1 : VK} {f h : DEn} {e tg : Expr}
/-! ### whatever has items -/
def iAny (K : PySem.W.Frag) (te : TE) : TI := fun σ H R => te σ H fun v H1 => (∃ a, v = .ref a ∧ (((∃ xs, SqL K H1 a xs) ∧ R (Itl K a) H1) ∨ ((∃ xs, SqT K H1 a xs) ∧ R (Itt K a) H1))) ∨ ∃ x, v = .str x ∧ R (Its x) H1
theorem pi_any {te : TE} (he : PE X e te) : PI X tg e (iAny X.K te) := by
  refine ⟨fun pins s σ H R I h => thn (he.run pins s σ H _ I h) fun u s1 ⟨v, H1, I1, r1, q1⟩ => ?_⟩
  have fp : ∀ b ∈ [s1.heap.objs.size], FpOk X pins H1 b := fun b hb => by
    obtain rfl : b = s1.heap.objs.size := by simpa using hb
    exact I1.fpOk (Nat.le_refl _) (I1.hok.fresh (Nat.le_refl _))
  rcases q1 with ⟨a, rfl, ⟨⟨xs, hq⟩, q⟩ | ⟨⟨xs, hq⟩, q⟩⟩ | ⟨x, rfl, q⟩
  · cases r1
    obtain ⟨its, rv, p, hz⟩ := I1.list hq
    refine wpAny_pyIter_list p.isList ⟨_, [s1.heap.objs.size], _, _, H1, rfl, I1.kept (t' := s1.toks) (fun b o e => Heap.get?_push_of_some _ e), turn_list a _, ⟨_, Heap.get?_push_size _ rfl, rfl, rfl⟩, fp, q⟩
  · cases r1
    obtain ⟨its, rv, p, hz⟩ := I1.tuple hq
    refine wpAny_pyIter_tuple (show s1.heap.IsTuple a its.toArray from p) ⟨_, [s1.heap.objs.size], _, _, H1, rfl, I1.kept (t' := s1.toks) (fun b o e => Heap.get?_push_of_some _ e), turn_tuple a _, ⟨_, Heap.get?_push_size _ rfl, rfl, rfl⟩, fp, q⟩
  · obtain ⟨t, rfl⟩ := r1
    cases ha : x.cps.all (· < 128)
    · exact wpAny_pyIter_wide ha (pi_one (tk := s1.toks) I1 _ (turn_str _ x t "str_iterator" (.inr rfl)) ⟨_, Heap.get?_push_size _ rfl, rfl, rfl⟩ q)
    · exact wpAny_pyIter_ascii ha (pi_one (tk := s1.toks) I1 _ (turn_str _ x t "str_ascii_iterator" (.inl rfl)) ⟨_, Heap.get?_push_size _ rfl, rfl, rfl⟩ q)
def itAny : D → Option (List D)
  | .lst ds => some ds
  | .scr ns => some (ns.map .int)
  | .tup ds => some ds
  | .str s => some (s.cps.toList.map fun c => .str ⟨#[c]⟩)
  | _ => none
theorem di_any (hK : X.K = G.K) (he : DE G X W e f) : DI G X W tg e (onIt f itAny) := DI.of (pi_any he) fun σ H R ⟨T0, env, al, A⟩ => A.onIt fun T1 env1 H1 d1 v1 ds R1 rp ek w => by
  cases d1 <;> first | (cases ek; done) | skip
  · rename_i s
    cases ek
    obtain ⟨rfl, l⟩ := rp
    refine .inr ⟨s, rfl, w _ ⟨by rw [List.length_map]; exact sOk_len l, fun i H2 T2 ht hk hr => ⟨fun d hd => ?_, fun ei => ?_⟩⟩⟩
    · rw [List.getElem?_map] at hd
      obtain ⟨c, hc, rfl⟩ := Option.map_eq_some_iff.mp hd
      have hi : i < s.cps.size := by simpa using (List.getElem?_eq_some_iff.mp hc).1
      refine ⟨hi, fun x H3 ⟨e1, c', hc', e2⟩ => ?_⟩
      subst e1 e2
      have : c' = c := by
        rw [← Array.getElem?_toList, hc] at hc'
        exact (Option.some.inj hc').symm
      subst this
      exact ⟨Same.refl _, rfl, sOk_one l (List.mem_of_getElem? hc)⟩
    · show s.cps.size ≤ i
      rw [ei, List.length_map]
      simp
  · cases ek
    unfold Rp at rp
    obtain ⟨a, xs, rfl, r, l, q⟩ := rp
    refine .inl ⟨a, rfl, .inr ⟨⟨xs, hK ▸ r.sq⟩, ?_⟩⟩
    rw [hK]
    exact w _ (walks_tup l q fun H2 hk => r.still R1 H2 hk)
  · cases ek
    unfold Rp at rp
    obtain ⟨a, xs, rfl, n, r, l, q⟩ := rp
    refine .inl ⟨a, rfl, .inl ⟨⟨xs, SqL.of r⟩, ?_⟩⟩
    rw [hK]
    exact w _ (walks_list' l q fun H2 hk => SqL.of (hk a _ (R1.ntt n) r))
  · cases ek
    unfold Rp at rp
    obtain ⟨a, rfl, r, l⟩ := rp
    refine .inl ⟨a, rfl, .inl ⟨⟨_, hK ▸ r.sq⟩, ?_⟩⟩
    rw [hK]
    exact w _ (walks_list' (by rw [List.length_map]; exact l) (ints_rps _) fun H2 hk => r.still R1 H2 hk)
end
end Pd

namespace Pd
open PySem PySem.Spec PyProof.Rows L2
theorem own0 {X : Cx} {G : Gc} {j : Nat} {nm : Str} : ∀ p ∈ ([] : Tab), OwnM X G j p.1 nm p.2 := fun _ h => absurd h List.not_mem_nil
theorem own1 {X : Cx} {G : Gc} {j c : Nat} {nm : Str} {m : FD} {tab : Tab} (h : OwnM X G j c nm m) (r : ∀ p ∈ tab, OwnM X G j p.1 nm p.2) : ∀ p ∈ (c, m) :: tab, OwnM X G j p.1 nm p.2 := fun p hp => (List.mem_cons.mp hp).elim (fun e => e ▸ h) (r p)
theorem at0 {G : Gc} {n : Str} : ∀ p ∈ ([] : List (Nat × Nat)), AttrOk G n p.1 p.2 := fun _ h => absurd h List.not_mem_nil
theorem at1 {G : Gc} {n : Str} {c k : Nat} {tab : List (Nat × Nat)} (h : AttrOk G n c k) (r : ∀ p ∈ tab, AttrOk G n p.1 p.2) : ∀ p ∈ (c, k) :: tab, AttrOk G n p.1 p.2 := fun p hp => (List.mem_cons.mp hp).elim (fun e => e ▸ h) (r p)
theorem bb_len : bootBuiltins "len" = some (.builtin "len") := by decide +kernel
theorem bb_repr : bootBuiltins "repr" = some (.builtin "repr") := by decide +kernel
theorem bb_abs : bootBuiltins "abs" = some (.builtin "abs") := by decide +kernel
theorem bb_divmod : bootBuiltins "divmod" = some (.builtin "divmod") := by decide +kernel
theorem bb_all : bootBuiltins "all" = some (.builtin "all") := by decide +kernel
theorem bb_any : bootBuiltins "any" = some (.builtin "any") := by decide +kernel
theorem bb_sorted : bootBuiltins "sorted" = some (.builtin "sorted") := by decide +kernel
theorem bb_max : bootBuiltins "max" = some (.builtin "max") := by decide +kernel
theorem bb_min : bootBuiltins "min" = some (.builtin "min") := by decide +kernel
theorem bb_isinstance : bootBuiltins "isinstance" = some (.builtin "isinstance") := by decide +kernel
theorem bb_sum : bootBuiltins "sum" = some (.builtin "sum") := by decide +kernel
theorem bb_int : bootBuiltins "int" = some (.type "int") := by decide +kernel
theorem bb_str : bootBuiltins "str" = some (.type "str") := by decide +kernel
theorem bb_tuple : bootBuiltins "tuple" = some (.type "tuple") := by decide +kernel
theorem bb_list : bootBuiltins "list" = some (.type "list") := by decide +kernel
theorem bb_bool : bootBuiltins "bool" = some (.type "bool") := by decide +kernel
theorem bb_dict : bootBuiltins "dict" = some (.type "dict") := by decide +kernel
theorem bb_set : bootBuiltins "set" = some (.type "set") := by decide +kernel
end Pd

namespace L2
theorem Room.u65 {k : Nat} {A : PySem.Around} (r : Room k A) : A.units + 65 < PySem.cLine := by have := r.un; omega
end L2

/-! Pd: reckoning with what texts do to data -/
namespace Pd
open PySem PySem.Spec PyProof.Rows L2
/-! each thing, applied; what comes next waits till its first part is reckoned -/
def kE (x : Res) (k : Out → DEn) : Res := match x with
  | none => none
  | some (.error e, env) => some (.error e, env)
  | some (.ok r, env) => k r env
def kV (x : Res) (k : D → DEn) : Res := kE x fun r env => match toVal r env with
  | none => none
  | some (d, env2) => k d env2
section
variable {f h c : DEn} {k : Out → DEn} {kd : D → DEn} {env e1 : Sv} {r : Out} {x : Xn} {d d1 d2 : D} {i : Nat} {o : O} {m m1 m2 : DSt} {b : Bool}
theorem kE_ok : kE (some (.ok r, env)) k = k r env := (rfl)
theorem kE_err : kE (some (.error x, env)) k = some (.error x, env) := (rfl)
theorem kV_val : kV (some (.ok (.val d), env)) kd = kd d env := (rfl)
theorem kV_new : kV (some (.ok (.new o), env)) kd = kd o.toD env := (rfl)
theorem kV_ref : kV (some (.ok (.ref i), env)) kd = (match toVal (.ref i) env with
  | none => none
  | some (d, env2) => kd d env2) := (rfl)
theorem s_bindR : bindR f k env = kE (f env) k := (rfl)
theorem s_bindV : bindV f kd env = kV (f env) kd := by
  unfold bindV kV kE
  cases f env with
  | none => rfl
  | some q => obtain ⟨q, e⟩ := q; cases q <;> rfl
theorem s_cC : cC d env = some (.ok (.val d), env) := (rfl)
theorem s_ret : ret d env = some (.ok (.val d), env) := (rfl)
def varK (x : Option (Option Sl)) (i : Nat) (env : Sv) : Res := match x with
  | some (some (.val d)) => some (.ok (.val d), env)
  | some (some (.own _)) => some (.ok (.ref i), env)
  | some (some (.bor _)) => some (.ok (.ref i), env)
  | _ => none
theorem s_cVar : cVar i env = varK env[i]? i env := by
  unfold cVar varK
  cases env[i]? with
  | none => rfl
  | some s =>
    cases s with
    | none => rfl
    | some s => cases s <;> rfl
theorem s_varV : varK (some (some (.val d))) i env = some (.ok (.val d), env) := (rfl)
theorem s_varO : varK (some (some (.own o))) i env = some (.ok (.ref i), env) := (rfl)
theorem s_varB : varK (some (some (.bor o))) i env = some (.ok (.ref i), env) := (rfl)
def peekK (x : Option (Option Sl)) : Option D := match x with
  | some (some (.val d)) => some d
  | some (some (.own o)) => some o.toD
  | some (some (.bor o)) => some o.toD
  | _ => none
theorem s_peekV : peek (.val d) env = some d := (rfl)
theorem s_peekN : peek (.new o) env = some o.toD := (rfl)
theorem s_peekR : peek (.ref i) env = peekK env[i]? := by
  unfold peek peekK
  try dsimp only
  all_goals (generalize env[i]? = z; rcases z with _ | _ | s <;> try rfl)
  all_goals (cases s <;> rfl)
theorem s_pkV : peekK (some (some (.val d))) = some d := (rfl)
theorem s_pkO : peekK (some (some (.own o))) = some o.toD := (rfl)
theorem s_pkB : peekK (some (some (.bor o))) = some o.toD := (rfl)
def toValK (x : Option (Option Sl)) (i : Nat) (env : Sv) : Option (D × Sv) := match x with
  | some (some (.val d)) => some (d, env)
  | some (some (.own o)) => some (o.toD, env.set i (some (.val o.toD)))
  | _ => none
theorem s_toVR : toVal (.ref i) env = toValK env[i]? i env := by
  unfold toVal toValK
  try dsimp only
  all_goals (generalize env[i]? = z; rcases z with _ | _ | s <;> try rfl)
  all_goals (cases s <;> rfl)
theorem s_tvV : toValK (some (some (.val d))) i env = some (d, env) := (rfl)
theorem s_tvO : toValK (some (some (.own o))) i env = some (o.toD, env.set i (some (.val o.toD))) := (rfl)
theorem s_toVV : toVal (.val d) env = some (d, env) := (rfl)
theorem s_toVN : toVal (.new o) env = some (o.toD, env) := (rfl)
theorem s_toDl {ds : List D} : (O.lst ds).toD = .lst ds := (rfl)
theorem s_toDi {n : Nat} {ds : List D} : (O.ins n ds).toD = .ins n ds := (rfl)
/-- the end of a built-in thing -/
def outK (x : Option Out) (env : Sv) : Res := match x with
  | some (.val d) => some (.ok (.val d), env)
  | some (.new o) => some (.ok (.new o), env)
  | _ => none
theorem s_done {x : Option Out} : Pd.done x env = outK x env := (rfl)
theorem s_outV : outK (some (.val d)) env = some (.ok (.val d), env) := (rfl)
theorem s_outN : outK (some (.new o)) env = some (.ok (.new o), env) := (rfl)
def op2K (g : D → D → Option Out) (x y : Option D) (env : Sv) : Res := match x, y with
  | some d1, some d2 => outK (g d1 d2) env
  | _, _ => none
def op2F (g : D → D → Option Out) (h : DEn) (r1 : Out) : DEn := fun env => kE (h env) fun r2 env => op2K g (peek r1 env) (peek r2 env) env
theorem s_op2 {g : D → D → Option Out} : cOp2 g f h env = kE (f env) (op2F g h) := by
  unfold cOp2
  rw [s_bindR]
  congr 1
theorem s_op2F {g : D → D → Option Out} {r1 : Out} : op2F g h r1 env = kE (h env) fun r2 env => op2K g (peek r1 env) (peek r2 env) env := (rfl)
theorem s_op2K {g : D → D → Option Out} : op2K g (some d1) (some d2) env = outK (g d1 d2) env := (rfl)
def op1K (g : D → Option Out) (x : Option D) (env : Sv) : Res := match x with
  | some d => outK (g d) env
  | none => none
theorem s_op1 {g : D → Option Out} : cOp1 g f env = kE (f env) fun r env => op1K g (peek r env) env := by
  unfold cOp1 Pd.peeked
  rw [s_bindR]
  congr 1
theorem s_op1K {g : D → Option Out} : op1K g (some d) env = outK (g d) env := (rfl)
/-- arguments -/
theorem s_evs0 {kk : List Av → DEn} : evs [] kk env = kk [] env := (rfl)
theorem s_evsV {ks : List AK} {kk : List Av → DEn} : evs (.v f :: ks) kk env = kV (f env) fun d => evs ks fun as => kk (.val d :: as) := s_bindV
theorem s_evsR {ks : List AK} {kk : List Av → DEn} : evs (.r f :: ks) kk env = kE (f env) fun r => evs ks fun as => kk (.out r :: as) := (rfl)
def bK (g : List D → Option Out) (as : List Av) : DEn := fun env => match peeks env as with
  | some ds => outK (g ds) env
  | none => none
theorem s_cB {g : List D → Option Out} {ks : List AK} : cB g ks env = evs ks (bK g) env := (rfl)
def bK2 (g : List D → Option Out) (x : Option (List D)) (env : Sv) : Res := match x with
  | some ds => outK (g ds) env
  | none => none
theorem s_bK {g : List D → Option Out} {as : List Av} : bK g as env = bK2 g (peeks env as) env := (rfl)
theorem s_bK2 {g : List D → Option Out} {ds : List D} : bK2 g (some ds) env = outK (g ds) env := (rfl)
theorem s_pks0 : peeks env [] = some [] := (rfl)
theorem s_pksV {as : List Av} : peeks env (.val d :: as) = (peeks env as).map (d :: ·) := (rfl)
def pkC (x : Option D) (y : Option (List D)) : Option (List D) := match x, y with
  | some d, some ds => some (d :: ds)
  | _, _ => none
theorem s_pksO {as : List Av} : peeks env (.out r :: as) = pkC (peek r env) (peeks env as) := by
  show (match peek r env, peeks env as with
    | some d, some ds => some (d :: ds)
    | _, _ => none) = _
  unfold pkC
  cases peek r env <;> cases peeks env as <;> rfl
theorem s_pkC {ds : List D} : pkC (some d) (some ds) = some (d :: ds) := (rfl)
theorem s_map {α β : Type} {g : α → β} {a : α} : (some a).map g = some (g a) := (rfl)
def tupK (as : List Av) : DEn := fun env => bK2 (fun ds => if ds.length ≤ LIM then some (.val (.tup ds)) else none) (vals as) env
def lstK (as : List Av) : DEn := fun env => bK2 (fun ds => if ds.length ≤ LIM then some (.new (.lst ds)) else none) (vals as) env
theorem s_tup {ks : List AK} : cTup ks env = evs ks tupK env := by
  unfold cTup
  congr 1
theorem s_lst {ks : List AK} : cLst ks env = evs ks lstK env := by
  unfold cLst
  congr 1
theorem s_tupK {as : List Av} : tupK as env = bK2 (fun ds => if ds.length ≤ LIM then some (.val (.tup ds)) else none) (vals as) env := (rfl)
theorem s_lstK {as : List Av} : lstK as env = bK2 (fun ds => if ds.length ≤ LIM then some (.new (.lst ds)) else none) (vals as) env := (rfl)
theorem s_vals0 : vals [] = some [] := (rfl)
theorem s_valsV {as : List Av} : vals (.val d :: as) = (vals as).map (d :: ·) := (rfl)
/-- truths -/
def bF (k : Bool → DEn) (r : Out) : DEn := match r with
  | .val (.bl b) => k b
  | _ => fun _ => none
theorem s_onB {kb : Bool → DEn} : onB f kb env = kE (f env) (bF kb) := by
  unfold Pd.onB
  rw [s_bindR]
  congr 1
theorem s_bF {kb : Bool → DEn} : bF kb (.val (.bl b)) = kb b := (rfl)
theorem s_not : cNot f env = kE (f env) (bF fun b => ret (.bl !b)) := s_onB
theorem s_and : cAnd f h env = kE (f env) (bF fun b => if b then h else ret (.bl false)) := s_onB
theorem s_or : cOr f h env = kE (f env) (bF fun b => if b then ret (.bl true) else h) := s_onB
theorem s_if : cIf c f h env = kE (c env) (bF fun b => if b then f else h) := s_onB
theorem s_truth : cTruth f env = kE (f env) fun r env => op1K (fun d => (truth d).map fun b => .val (.bl b)) (peek r env) env := s_op1 (g := fun d => (truth d).map fun b => .val (.bl b))
theorem s_itT {α : Type} {a b : α} : (if true = true then a else b) = a := (rfl)
theorem s_itF {α : Type} {a b : α} : (if false = true then a else b) = b := (rfl)
/-! statements -/
def sE (x : Res) (k : Out → DSt) : Option (Fl × Sv) := match x with
  | none => none
  | some (.error e, env) => some (.err e, env)
  | some (.ok r, env) => k r env
def sV (x : Res) (k : D → DSt) : Option (Fl × Sv) := sE x fun r env => match toVal r env with
  | none => none
  | some (d, env2) => k d env2
theorem sE_ok {ks : Out → DSt} : sE (some (.ok r, env)) ks = ks r env := (rfl)
theorem sE_err {ks : Out → DSt} : sE (some (.error x, env)) ks = some (.err x, env) := (rfl)
theorem sV_val {ks : D → DSt} : sV (some (.ok (.val d), env)) ks = ks d env := (rfl)
theorem sV_new {ks : D → DSt} : sV (some (.ok (.new o), env)) ks = ks o.toD env := (rfl)
theorem sV_ref {ks : D → DSt} : sV (some (.ok (.ref i), env)) ks = (match toVal (.ref i) env with
  | none => none
  | some (d, env2) => ks d env2) := (rfl)
theorem s_onE {ks : Out → DSt} : onE f ks env = sE (f env) ks := (rfl)
theorem s_onV {ks : D → DSt} : onV f ks env = sV (f env) ks := by
  unfold onV sV sE
  cases f env with
  | none => rfl
  | some q => obtain ⟨q, e⟩ := q; cases q <;> rfl
def seqK (x : Option (Fl × Sv)) (m : DSt) : Option (Fl × Sv) := match x with
  | some (.nx, env) => m env
  | x => x
theorem s_nop : cNop env = some (.nx, env) := (rfl)
theorem s_seq : cSeq m1 m2 env = seqK (m1 env) m2 := by
  unfold cSeq seqK
  cases m1 env with
  | none => rfl
  | some q => obtain ⟨q, e⟩ := q; cases q <;> rfl
theorem s_sqN : seqK (some (.nx, env)) m = m env := (rfl)
theorem s_sqR : seqK (some (.ret r, env)) m = some (.ret r, env) := (rfl)
theorem s_sqE : seqK (some (.err x, env)) m = some (.err x, env) := (rfl)
theorem s_drop : cDrop f env = sE (f env) fun _ => cNop := (rfl)
theorem s_retS : cRet f env = sE (f env) fun r env => some (.ret r, env) := (rfl)
def ifF (m1 m2 : DSt) (r : Out) : DSt := match r with
  | .val (.bl b) => if b then m1 else m2
  | _ => fun _ => none
theorem s_ifS : cIfS c m1 m2 env = sE (c env) (ifF m1 m2) := by
  unfold cIfS
  rw [s_onE]
  congr 1
theorem s_ifF : ifF m1 m2 (.val (.bl b)) = if b then m1 else m2 := (rfl)
theorem s_setV : setO i (.val d) env = if i < env.length then some (.nx, env.set i (some (.val d))) else none := (rfl)
theorem s_setN : setO i (.new o) env = if i < env.length then some (.nx, env.set i (some (.own o))) else none := (rfl)
theorem s_setR {j : Nat} : setO i (.ref j) env = if i < env.length then (match toVal (.ref j) env with
    | some (d, env') => some (.nx, env'.set i (some (.val d)))
    | none => none) else none := (rfl)
theorem s_set : cSet i f env = sE (f env) (setO i) := (rfl)
def asgK (x : Option Sv) : Option (Fl × Sv) := match x with
  | some env => some (.nx, env)
  | none => none
theorem s_asg {t : TGt} : cAsg t f env = sV (f env) fun d env => asgK (t d env) := by
  unfold cAsg
  rw [s_onV]
  congr 1
theorem s_asgK : asgK (some env) = some (.nx, env) := (rfl)
theorem s_tName : tName i d env = if i < env.length then some (env.set i (some (.val d))) else none := (rfl)
def obK {α β : Type} (x : Option α) (k : α → Option β) : Option β := match x with
  | some a => k a
  | none => none
theorem s_obK {α β : Type} {a : α} {kk : α → Option β} : obK (some a) kk = kk a := (rfl)
theorem s_tTup {n : Nat} {u : List D → Sv → Option Sv} {ds : List D} : tTup n u (.tup ds) env = if ds.length = n then u ds env else none := (rfl)
theorem s_ts0 : tsNil [] env = some env := (rfl)
theorem s_tsC {t : TGt} {u : List D → Sv → Option Sv} {ds : List D} : tsCons t u (d :: ds) env = obK (t d env) fun e => u ds e := by
  unfold tsCons obK
  dsimp only
  cases t d env <;> rfl
/-! calls -/
theorem s_call {fd : FD} {ix : List Nat} {dv : List D} {ks : List AK} : cCall fd ix dv ks env = evs ks (fun as => callE fd (pick ix (as ++ dv.map .val))) env := (rfl)
def endK (q : Except Xn Out × List (Option O)) (is : List (Option Nat)) (env : Sv) : Res := obK (putBack is q.2 env) fun env1 => match q.1 with
  | .error x => some (.error x, env1)
  | .ok (.val d) => some (.ok (.val d), env1)
  | .ok (.new o) => some (.ok (.new o), env1)
  | .ok (.ref _) => none
def callK (m : FD) (x : Option (List Sl × List (Option Nat))) (env : Sv) : Res := obK x fun p => if (p.2.filterMap id).Nodup then obK (m p.1) fun q => endK q p.2 env else none
theorem s_callE {fd : FD} {as : List Av} : callE fd as env = callK fd (toSl env as) env := by
  unfold callE callK obK
  cases toSl env as with
  | none => rfl
  | some p =>
    obtain ⟨sl, is⟩ := p
    simp only
    split
    · cases fd sl with
      | none => rfl
      | some q =>
        obtain ⟨q, os⟩ := q
        simp only [endK, obK]
        cases putBack is os env with
        | none => rfl
        | some e =>
          cases q with
          | error x => rfl
          | ok r => cases r <;> rfl
    · rfl
theorem s_endV {os : List (Option O)} {is : List (Option Nat)} : endK (.ok (.val d), os) is env = obK (putBack is os env) fun e => some (.ok (.val d), e) := (rfl)
theorem s_endN {os : List (Option O)} {is : List (Option Nat)} : endK (.ok (.new o), os) is env = obK (putBack is os env) fun e => some (.ok (.new o), e) := (rfl)
/-! slots -/
def getK (x : Option (Option Sl)) : Option O := match x with
  | some (some (.own o)) => some o
  | some (some (.bor o)) => some o
  | _ => none
theorem s_getS : getS env i = getK env[i]? := by
  unfold getS getK
  cases env[i]? with
  | none => rfl
  | some s =>
    cases s with
    | none => rfl
    | some s => cases s <;> rfl
theorem s_gkO : getK (some (some (.own o))) = some o := (rfl)
theorem s_gkB : getK (some (some (.bor o))) = some o := (rfl)
theorem s_gkV : getK (some (some (.val d))) = none := (rfl)
def putK2 (x : Option (Option Sl)) (env : Sv) (i : Nat) (o : O) : Option Sv := match x with
  | some (some (.own _)) => some (env.set i (some (.own o)))
  | some (some (.bor _)) => some (env.set i (some (.bor o)))
  | _ => none
theorem s_putS : putS env i o = putK2 env[i]? env i o := by
  unfold putS putK2
  cases env[i]? with
  | none => rfl
  | some s =>
    cases s with
    | none => rfl
    | some s => cases s <;> rfl
theorem s_pkkO {o1 : O} : putK2 (some (some (.own o1))) env i o = some (env.set i (some (.own o))) := (rfl)
theorem s_pkkB {o1 : O} : putK2 (some (some (.bor o1))) env i o = some (env.set i (some (.bor o))) := (rfl)
def subL (o : O) (k : Int) (env : Sv) (i : Nat) (d : D) : Option Sv := match o with
  | .lst ds => obK (ixN ds.length k) fun j => putS env i (.lst (ds.set j d))
  | _ => none
theorem s_subL {ds : List D} {n : Int} : subL (.lst ds) n env i d = obK (ixN ds.length n) fun j => putS env i (.lst (ds.set j d)) := (rfl)
def subK (x : Res) (i : Nat) (d : D) : Option Sv := match x with
  | some (.ok (.val (.int k)), env1) => obK (getS env1 i) fun o => subL o k env1 i d
  | _ => none
theorem s_subK {n : Int} : subK (some (.ok (.val (.int n)), env)) i d = obK (getS env i) fun o => subL o n env i d := (rfl)
theorem s_tSub : Pd.tSub i f d env = obK (getS env i) fun _ => subK (f env) i d := by
  unfold Pd.tSub obK
  cases getS env i with
  | none => rfl
  | some o0 =>
    dsimp only
    unfold subK
    cases f env with
    | none => rfl
    | some q =>
      obtain ⟨q, e⟩ := q
      cases q with
      | error x => rfl
      | ok r =>
        cases r with
        | val d =>
          cases d <;> first | rfl | skip
          dsimp only
          unfold obK subL
          cases getS e i with
          | none => rfl
          | some o =>
            cases o with
            | lst ds => dsimp only; unfold obK; cases ixN ds.length _ <;> rfl
            | _ => rfl
        | _ => rfl
theorem s_toSl0 : toSl env [] = some ([], []) := (rfl)
theorem s_toSlV {as : List Av} : toSl env (.val d :: as) = (toSl env as).map fun p => (.val d :: p.1, none :: p.2) := (rfl)
theorem s_toSlO {as : List Av} : toSl env (.out (.val d) :: as) = (toSl env as).map fun p => (.val d :: p.1, none :: p.2) := (rfl)
theorem s_toSlR {as : List Av} : toSl env (.out (.ref i) :: as) = obK (getS env i) fun o => (toSl env as).map fun p => (.bor o :: p.1, some i :: p.2) := by
  show (match getS env i with
    | some o => _
    | none => none) = _
  unfold obK
  cases getS env i <;> rfl
theorem s_callK {fd : FD} {sl : List Sl} {is : List (Option Nat)} : callK fd (some (sl, is)) env = if (is.filterMap id).Nodup then obK (fd sl) fun q => endK q is env else none := (rfl)
theorem s_pb0 : putBack [] [] env = some env := (rfl)
theorem s_pbN {is : List (Option Nat)} {os : List (Option O)} : putBack (none :: is) (none :: os) env = putBack is os env := (rfl)
theorem s_pbS {is : List (Option Nat)} {os : List (Option O)} : putBack (some i :: is) (some o :: os) env = obK (putS env i o) (putBack is os) := by
  show (putS env i o).bind _ = _
  unfold obK
  cases putS env i o <;> rfl
theorem s_out0 : outsOf [] env = some [] := by cases env <;> rfl
theorem s_outB {sl : List Sl} {o1 : O} : outsOf (.bor o1 :: sl) (some (.bor o) :: env) = (outsOf sl env).map (some o :: ·) := (rfl)
theorem s_outW {sl : List Sl} {s : Option Sl} : outsOf (.val d :: sl) (s :: env) = (outsOf sl env).map (none :: ·) := by cases s <;> rfl
theorem s_clV : closeR (.val d) env = some (.val d) := (rfl)
theorem s_clN : closeR (.new o) env = some (.new o) := (rfl)
def clK (x : Option (Option Sl)) : Option Out := match x with
  | some (some (.val d)) => some (.val d)
  | some (some (.own o)) => some (.new o)
  | _ => none
theorem s_clR : closeR (.ref i) env = clK env[i]? := by
  unfold closeR clK
  try dsimp only
  all_goals (generalize env[i]? = z; rcases z with _ | _ | s <;> try rfl)
  all_goals (cases s <;> rfl)
theorem s_clkV : clK (some (some (.val d))) = some (.val d) := (rfl)
theorem s_clkO : clK (some (some (.own o))) = some (.new o) := (rfl)
def runK (x : Option (Fl × Sv)) (sl : List Sl) : Option (Except Xn Out × List (Option O)) := match x with
  | some (.nx, env) => (outsOf sl env).map fun os => (.ok (.val .non), os)
  | some (.ret r, env) => obK (closeR r env) fun r => (outsOf sl env).map fun os => (.ok r, os)
  | some (.err x, env) => (outsOf sl env).map fun os => (.error x, os)
  | _ => none
theorem s_runB {n pad : Nat} {fb : DSt} {sl : List Sl} (h : sl.length = n) : runB n pad fb sl = runK (fb (sl.map some ++ List.replicate pad none)) sl := by
  unfold runB runK
  rw [if_pos h]
  cases fb (sl.map some ++ List.replicate pad none) with
  | none => rfl
  | some q =>
    obtain ⟨q, e⟩ := q
    cases q with
    | ret r => dsimp only; unfold obK; cases closeR r e <;> rfl
    | _ => rfl
theorem s_rkN {sl : List Sl} : runK (some (.nx, env)) sl = (outsOf sl env).map fun os => (.ok (.val .non), os) := (rfl)
theorem s_rkR {sl : List Sl} : runK (some (.ret r, env)) sl = obK (closeR r env) fun r => (outsOf sl env).map fun os => (.ok r, os) := (rfl)
theorem s_rkE {sl : List Sl} : runK (some (.err x, env)) sl = (outsOf sl env).map fun os => (.error x, os) := (rfl)
theorem s_run0 {pad : Nat} {fb : DSt} : runB 0 pad fb [] = runK (fb (List.replicate pad none)) [] := s_runB rfl
theorem s_run1 {pad : Nat} {fb : DSt} {a0 : Sl} : runB 1 pad fb [a0] = runK (fb (some a0 :: List.replicate pad none)) [a0] := s_runB rfl
theorem s_run2 {pad : Nat} {fb : DSt} {a0 a1 : Sl} : runB 2 pad fb [a0, a1] = runK (fb (some a0 :: some a1 :: List.replicate pad none)) [a0, a1] := s_runB rfl
theorem s_run3 {pad : Nat} {fb : DSt} {a0 a1 a2 : Sl} : runB 3 pad fb [a0, a1, a2] = runK (fb (some a0 :: some a1 :: some a2 :: List.replicate pad none)) [a0, a1, a2] := s_runB rfl
theorem s_run4 {pad : Nat} {fb : DSt} {a0 a1 a2 a3 : Sl} : runB 4 pad fb [a0, a1, a2, a3] = runK (fb (some a0 :: some a1 :: some a2 :: some a3 :: List.replicate pad none)) [a0, a1, a2, a3] := s_runB rfl
theorem s_run5 {pad : Nat} {fb : DSt} {a0 a1 a2 a3 a4 : Sl} : runB 5 pad fb [a0, a1, a2, a3, a4] = runK (fb (some a0 :: some a1 :: some a2 :: some a3 :: some a4 :: List.replicate pad none)) [a0, a1, a2, a3, a4] := s_runB rfl
theorem s_run6 {pad : Nat} {fb : DSt} {a0 a1 a2 a3 a4 a5 : Sl} : runB 6 pad fb [a0, a1, a2, a3, a4, a5] = runK (fb (some a0 :: some a1 :: some a2 :: some a3 :: some a4 :: some a5 :: List.replicate pad none)) [a0, a1, a2, a3, a4, a5] := s_runB rfl
theorem s_rp0 {α : Type} {a : α} : List.replicate 0 a = [] := (rfl)
theorem s_rpS {α : Type} {a : α} {n : Nat} : List.replicate (n + 1) a = a :: List.replicate n a := (rfl)
theorem s_at3a {α : Type} {x y z : α} : atI [x, y, z] 0 = some x := (rfl)
theorem s_at3b {α : Type} {x y z : α} : atI [x, y, z] 1 = some y := (rfl)
theorem s_at3c {α : Type} {x y z : α} : atI [x, y, z] 2 = some z := (rfl)
theorem s_at2a {α : Type} {x y : α} : atI [x, y] 0 = some x := (rfl)
theorem s_at2b {α : Type} {x y : α} : atI [x, y] 1 = some y := (rfl)
theorem s_ix30 : ixN 3 0 = some 0 := (rfl)
theorem s_ix31 : ixN 3 1 = some 1 := (rfl)
theorem s_ix32 : ixN 3 2 = some 2 := (rfl)
/-! slices, texts -/
def slF (g : D → Option Int → Option Int → Option Out) (lo hi : Option DEn) (r : Out) : DEn := part lo fun l => part hi fun u => fun env => op1K (fun d => g d l u) (peek r env) env
theorem s_sl {g : D → Option Int → Option Int → Option Out} {lo hi : Option DEn} : cSl g f lo hi env = kE (f env) (slF g lo hi) := by
  unfold cSl
  rw [s_bindR]
  congr 1
theorem s_slF {g : D → Option Int → Option Int → Option Out} {lo hi : Option DEn} : slF g lo hi r env = part lo (fun l => part hi fun u => fun env => op1K (fun d => g d l u) (peek r env) env) env := (rfl)
theorem s_part0 {kk : Option Int → DEn} : part none kk env = kk none env := (rfl)
def ptF (kk : Option Int → DEn) (r : Out) : DEn := match r with
  | .val (.int i) => kk (some i)
  | _ => fun _ => none
theorem s_partS {kk : Option Int → DEn} : part (some h) kk env = kE (h env) (ptF kk) := by
  show bindR h _ env = _
  rw [s_bindR]
  congr 1
theorem s_ptF {kk : Option Int → DEn} {n : Int} : ptF kk (.val (.int n)) = kk (some n) := (rfl)
def stF (g : Str → D → Option Out) (h : DEn) (r : Out) : DEn := match r with
  | .val (.str s) => fun env => kE (h env) fun r2 env => op1K (g s) (peek r2 env) env
  | _ => fun _ => none
theorem s_strM {g : Str → D → Option Out} : cStrM g f h env = kE (f env) (stF g h) := by
  unfold cStrM
  rw [s_bindR]
  congr 1
theorem s_stF {g : Str → D → Option Out} {s : Str} : stF g h (.val (.str s)) env = kE (h env) fun r2 env => op1K (g s) (peek r2 env) env := (rfl)
/-! walks -/
def itK (x : Res) (kk : D → Option (List D)) : Option (Except Xn (List D) × Sv) := match x with
  | none => none
  | some (.error x, env1) => some (.error x, env1)
  | some (.ok r, env1) => obK (toVal r env1) fun p => (kk p.1).map fun ds => (.ok ds, p.2)
theorem s_onIt {kk : D → Option (List D)} : onIt f kk env = itK (f env) kk := by
  unfold onIt itK
  cases f env with
  | none => rfl
  | some q =>
    obtain ⟨q, e⟩ := q
    cases q with
    | error x => rfl
    | ok r =>
      dsimp only
      unfold obK
      cases toVal r e with
      | none => rfl
      | some p => obtain ⟨d, e⟩ := p; rfl
theorem s_itK {kk : D → Option (List D)} : itK (some (.ok r, env)) kk = obK (toVal r env) fun p => (kk p.1).map fun ds => (.ok ds, p.2) := (rfl)
def forK (x : Option (Except Xn (List D) × Sv)) (t : TGt) (m : DSt) : Option (Fl × Sv) := match x with
  | none => none
  | some (.error x, env1) => some (.err x, env1)
  | some (.ok ds, env1) => loop t m ds env1
theorem s_for {s : DIn} {t : TGt} : cFor s t m env = forK (s env) t m := (rfl)
theorem s_forK {ds : List D} {t : TGt} : forK (some (.ok ds, env)) t m = loop t m ds env := (rfl)
def lcK (x : Option (Except Xn (List D) × Sv)) (vs : List Nat) (t : TGt) (c f : DEn) : Res := match x with
  | none => none
  | some (.error x, env1) => some (.error x, env1)
  | some (.ok ds, env1) => if okC vs env1 then (lcs vs t c f ds (wipeE vs env1)).map fun p => (.ok (.new (.lst p.1)), restE vs env1 p.2) else none
theorem s_lc {s : DIn} {vs : List Nat} {t : TGt} : cLc s vs t c f env = lcK (s env) vs t c f := (rfl)
theorem s_lcK {ds : List D} {vs : List Nat} {t : TGt} : lcK (some (.ok ds, env)) vs t c f = if okC vs env then (lcs vs t c f ds (wipeE vs env)).map fun p => (.ok (.new (.lst p.1)), restE vs env p.2) else none := (rfl)
def rgK (x : Res) : Option (Except Xn (List D) × Sv) := match x with
  | some (.ok (.val (.int n)), env1) => if -1000000 ≤ n ∧ n ≤ 1000000 then some (.ok (rangeD 0 n), env1) else none
  | some (.error x, env1) => some (.error x, env1)
  | _ => none
theorem s_rng1 : rng1 f env = rgK (f env) := (rfl)
theorem s_rgK {n : Int} : rgK (some (.ok (.val (.int n)), env)) = if -1000000 ≤ n ∧ n ≤ 1000000 then some (.ok (rangeD 0 n), env) else none := (rfl)
/-! instances -/
theorem s_methV {n : Nat} {fd : FD} {ix : List Nat} {dv : List D} {ks : List AK} : cMethV n fd ix dv f ks env = kV (f env) fun d => onIns n d (evs ks fun as => callE fd (pick ix (.val d :: (as ++ dv.map .val)))) := s_bindV
theorem s_onIns {n : Nat} {ds : List D} : onIns n (.ins n ds) f = f := (if_pos rfl)
def mkR (q : Except Xn Out × List (Option O)) (env : Sv) : Res := match q with
  | (.error x, _) => some (.error x, env)
  | (.ok (.val .non), some o :: _) => some (.ok (.new o), env)
  | _ => none
theorem s_mkR {os : List (Option O)} : mkR (.ok (.val .non), some o :: os) env = some (.ok (.new o), env) := (rfl)
def mkK (n : Nat) (fd : FD) (x : Option (List D)) (env : Sv) : Res := obK x fun ds => obK (fd (.bor (.ins n []) :: ds.map .val)) fun q => mkR q env
theorem s_mkK {n : Nat} {fd : FD} {ds : List D} : mkK n fd (some ds) env = obK (fd (.bor (.ins n []) :: ds.map .val)) fun q => mkR q env := (rfl)
theorem s_makeE {n : Nat} {fd : FD} {as : List Av} : makeE n fd as env = mkK n fd (vals as) env := by
  unfold makeE mkK obK
  cases vals as with
  | none => rfl
  | some ds =>
    dsimp only
    cases fd (.bor (.ins n []) :: ds.map .val) with
    | none => rfl
    | some q =>
      obtain ⟨q, os⟩ := q
      cases q with
      | error x => rfl
      | ok r =>
        cases r with
        | val d =>
          cases d <;> first
            | rfl
            | (cases os with
              | nil => rfl
              | cons o os => cases o <;> rfl)
        | _ => rfl
theorem s_make {n : Nat} {fd : FD} {ix : List Nat} {dv : List D} {ks : List AK} : cMake n fd ix dv ks env = evs ks (fun as => makeE n fd (pick ix (as ++ dv.map .val))) env := (rfl)
def fldK (n k : Nat) (x : Option O) (i : Nat) (d : D) (env : Sv) : Option (Fl × Sv) := match x with
  | some (.ins c' ds) => if c' = n then obK (setF k d ds) fun ds' => asgK (putS env i (.ins n ds')) else none
  | _ => none
theorem s_fldK {n k : Nat} {ds : List D} : fldK n k (some (.ins n ds)) i d env = obK (setF k d ds) fun ds' => asgK (putS env i (.ins n ds')) := (if_pos rfl)
theorem s_fld {n k : Nat} : cFld i n k f env = sV (f env) fun d env => fldK n k (getS env i) i d env := by
  unfold cFld
  rw [s_onV]
  congr 1
  funext d env
  unfold fldK
  cases getS env i with
  | none => rfl
  | some o =>
    cases o with
    | ins c' ds =>
      dsimp only
      split
      · unfold obK
        cases setF k d ds with
        | none => rfl
        | some ds' => dsimp only; unfold asgK; cases putS env i (.ins n ds') <;> rfl
      · rfl
    | _ => rfl
def apR (x : Option Sv) : Res := match x with
  | some e => some (.ok (.val .non), e)
  | none => none
theorem s_apR : apR (some env) = some (.ok (.val .non), env) := (rfl)
def apL (x : Option O) (i : Nat) (d : D) (env : Sv) : Res := match x with
  | some (.lst ds) => if ds.length < LIM then apR (putS env i (.lst (ds ++ [d]))) else none
  | _ => none
theorem s_apL {ds : List D} : apL (some (.lst ds)) i d env = if ds.length < LIM then apR (putS env i (.lst (ds ++ [d]))) else none := (rfl)
def apK (x : Option O) (i : Nat) (f : DEn) (env : Sv) : Res := match x with
  | some (.lst _) => kV (f env) fun d env1 => apL (getS env1 i) i d env1
  | _ => none
theorem s_apK {ds : List D} : apK (some (.lst ds)) i f env = kV (f env) fun d env1 => apL (getS env1 i) i d env1 := (rfl)
theorem s_app : cApp i f env = apK (getS env i) i f env := by
  unfold cApp apK
  cases getS env i with
  | none => rfl
  | some o =>
    cases o with
    | lst ds =>
      dsimp only
      rw [s_bindV]
      refine congrArg (kV (f env)) (funext fun d => funext fun env1 => ?_)
      unfold apL
      cases getS env1 i with
      | none => rfl
      | some o =>
        cases o with
        | lst ds =>
          dsimp only
          split
          · unfold apR; cases putS env1 i (.lst (ds ++ [d])) <;> rfl
          · rfl
        | _ => rfl
    | _ => rfl
def chK (g g' : D → D → Option Out) (r2 : Out) (h : DEn) (x : Option Out) (env : Sv) : Res := match x with
  | some (.val (.bl true)) => kE (h env) fun r3 env => op2K g' (peek r2 env) (peek r3 env) env
  | some (.val (.bl false)) => some (.ok (.val (.bl false)), env)
  | _ => none
def ch2 (g g' : D → D → Option Out) (x y : Option D) (r2 : Out) (m : DEn) (env : Sv) : Res := match x, y with
  | some d1, some d2 => chK g g' r2 m (g d1 d2) env
  | _, _ => none
theorem s_ch2 {g g' : D → D → Option Out} {r2 : Out} {m : DEn} : ch2 g g' (some d1) (some d2) r2 m env = chK g g' r2 m (g d1 d2) env := (rfl)
theorem s_chT {g g' : D → D → Option Out} {r2 : Out} : chK g g' r2 h (some (.val (.bl true))) env = kE (h env) fun r3 env => op2K g' (peek r2 env) (peek r3 env) env := (rfl)
theorem s_chF {g g' : D → D → Option Out} {r2 : Out} : chK g g' r2 h (some (.val (.bl false))) env = some (.ok (.val (.bl false)), env) := (rfl)
def chF (g g' : D → D → Option Out) (h m : DEn) (r1 : Out) : DEn := fun env => kE (h env) fun r2 env => ch2 g g' (peek r1 env) (peek r2 env) r2 m env
theorem s_chFF {g g' : D → D → Option Out} {m : DEn} {r1 : Out} : chF g g' h m r1 env = kE (h env) fun r2 env => ch2 g g' (peek r1 env) (peek r2 env) r2 m env := (rfl)
theorem s_chain {g g' : D → D → Option Out} {m : DEn} : cChain g g' f h m env = kE (f env) (chF g g' h m) := by
  unfold cChain
  rw [s_bindR]
  refine congrArg (kE (f env)) (funext fun r1 => funext fun env => ?_)
  rw [s_bindR]
  unfold chF
  refine congrArg (kE (h env)) (funext fun r2 => funext fun env => ?_)
  unfold ch2
  cases peek r1 env with
  | none => rfl
  | some d1 =>
    cases peek r2 env with
    | none => rfl
    | some d2 =>
      dsimp only
      cases g d1 d2 with
      | none => rfl
      | some o =>
        cases o with
        | val d =>
          cases d with
          | bl b =>
            cases b with
            | false => rfl
            | true =>
              dsimp only [chK]
              rw [s_bindR]
              refine congrArg (kE (m env)) (funext fun r3 => funext fun env => ?_)
              unfold op2K
              cases peek r2 env <;> cases peek r3 env <;> rfl
          | _ => rfl
        | _ => rfl
/-! blocks -/
def overF (g : Nat → Option Sl) (vs : List Nat) : Nat → Sv → Sv
  | _, [] => []
  | i, s :: r => (if vs.contains i then g i else s) :: overF g vs (i + 1) r
theorem over_F {g : Nat → Option Sl} {vs : List Nat} : ∀ (env : Sv) (i : Nat), (env.mapIdx fun j s => if vs.contains (j + i) then g (j + i) else s) = overF g vs i env
  | [], _ => rfl
  | s :: r, i => by
    rw [List.mapIdx_cons]
    unfold overF
    rw [← over_F r (i + 1)]
    simp only [Nat.zero_add, Nat.add_assoc, Nat.add_comm 1 i]
theorem s_wipe {vs : List Nat} : wipeE vs env = overF (fun _ => none) vs 0 env := by
  rw [← over_F]
  rfl
theorem s_rest {vs : List Nat} {env0 : Sv} : restE vs env0 env = overF (fun j => (env0[j]?).getD none) vs 0 env := by
  rw [← over_F]
  rfl
theorem s_ov0 {g : Nat → Option Sl} {vs : List Nat} {n : Nat} : overF g vs n [] = [] := (rfl)
theorem s_ovS {g : Nat → Option Sl} {vs : List Nat} {n : Nat} {s : Option Sl} : overF g vs n (s :: env) = (if vs.contains n then g n else s) :: overF g vs (n + 1) env := (rfl)
theorem s_co0 {n : Nat} : ([] : List Nat).contains n = false := (rfl)
theorem s_coS {n a : Nat} {vs : List Nat} : (a :: vs).contains n = (n == a || vs.contains n) := (rfl)
def okK (x : Option (Option Sl)) : Bool := match x with
  | some (some (.own _)) => false
  | some (some (.bor _)) => false
  | _ => true
theorem s_okC0 : okC [] env = true := (rfl)
theorem s_okCS {j : Nat} {vs : List Nat} : okC (j :: vs) env = (okK env[j]? && okC vs env) := by
  unfold okC
  rw [List.all_cons]
  congr 1
theorem s_okN : okK (some none) = true := (rfl)
theorem s_okV : okK (some (some (.val d))) = true := (rfl)
def fV (x : Res) : Option (D × Sv) := match x with
  | some (.ok r, e) => toVal r e
  | _ => none
theorem s_fV : fV (some (.ok r, env)) = toVal r env := (rfl)
def lcStep (vs : List Nat) (t : TGt) (f : DEn) (d : D) (env : Sv) : Option (D × Sv) := obK (t d env) fun e1 => obK (fV (f e1)) fun (p : D × Sv) => some (p.1, wipeE vs p.2)
theorem s_lcStep {vs : List Nat} {t : TGt} : lcStep vs t f d env = obK (t d env) fun e1 => obK (fV (f e1)) fun (p : D × Sv) => some (p.1, wipeE vs p.2) := (rfl)
theorem lcs_step {vs : List Nat} {t : TGt} {ds : List D} : lcs vs t cYes f (d :: ds) env = obK (lcStep vs t f d env) fun (p : D × Sv) => (lcs vs t cYes f ds p.2).map fun (q : List D × Sv) => (p.1 :: q.1, q.2) := by
  unfold lcStep obK fV
  conv => lhs; unfold lcs
  cases t d env with
  | none => rfl
  | some e1 =>
    show (match f e1 with
      | some (.ok r, env3) => match toVal r env3 with
        | some (y, env4) => (lcs vs t cYes f ds (wipeE vs env4)).map fun (p : List D × Sv) => (y :: p.1, p.2)
        | none => none
      | _ => none) = _
    dsimp only
    generalize f e1 = z
    cases z with
    | none => rfl
    | some q =>
      obtain ⟨q, e⟩ := q
      cases q with
      | error x => rfl
      | ok r =>
        dsimp only
        generalize toVal r e = z
        cases z with
        | none => rfl
        | some p => obtain ⟨y, e4⟩ := p; rfl
/-- a block's turns, by an invariant -/
theorem lcs_inv {vs : List Nat} {t : TGt} (P : Sv → Prop) (R : D → D → Prop) : ∀ (ds : List D) (env : Sv), (∀ d ∈ ds, ∀ env, P env → ∃ y env', lcStep vs t f d env = some (y, env') ∧ R d y ∧ P env') → P env →
    ∃ es env', lcs vs t cYes f ds env = some (es, env') ∧ es.length = ds.length ∧ (∀ (i : Nat) d y, ds[i]? = some d → es[i]? = some y → R d y) ∧ P env'
  | [], env, _, p => ⟨[], env, rfl, rfl, fun i d y h => by simp at h, p⟩
  | d :: ds, env, h, p => by
    obtain ⟨y, e1, h1, r1, p1⟩ := h d List.mem_cons_self env p
    obtain ⟨es, e2, h2, l2, r2, p2⟩ := lcs_inv P R ds e1 (fun d' hd => h d' (List.mem_cons_of_mem _ hd)) p1
    refine ⟨y :: es, e2, ?_, by rw [List.length_cons, List.length_cons, l2], fun i d' y' hd hy => ?_, p2⟩
    · rw [lcs_step, h1]
      show (lcs vs t cYes f ds e1).map _ = _
      rw [h2]
      rfl
    · cases i with
      | zero =>
        simp only [List.getElem?_cons_zero, Option.some.injEq] at hd hy
        subst hd hy
        exact r1
      | succ i =>
        simp only [List.getElem?_cons_succ] at hd hy
        exact r2 i d' y' hd hy
/-- .. that change nothing -/
theorem lcs_map {vs : List Nat} {t : TGt} {env : Sv} (g : D → D) : ∀ (ds : List D), (∀ d ∈ ds, lcStep vs t f d env = some (g d, env)) → lcs vs t cYes f ds env = some (ds.map g, env)
  | [], _ => rfl
  | d :: ds, h => by
    rw [lcs_step, h d List.mem_cons_self]
    show (lcs vs t cYes f ds env).map _ = _
    rw [lcs_map g ds fun d' hd => h d' (List.mem_cons_of_mem _ hd)]
    rfl
theorem s_eqI {i j : Int} : gEq (.int i) (.int j) = some (.val (.bl (i == j))) := by
  simp [gEq, eqD, D.py, PyData.depth, PyData.eqv]
theorem s_neI {i j : Int} : gNe (.int i) (.int j) = some (.val (.bl !(i == j))) := by
  simp [gNe, eqD, D.py, PyData.depth, PyData.eqv]
theorem s_eqS {i j : Str} : gEq (.str i) (.str j) = some (.val (.bl (i == j))) := by
  simp [gEq, eqD, D.py, PyData.depth, PyData.eqv]
theorem s_neS {i j : Str} : gNe (.str i) (.str j) = some (.val (.bl !(i == j))) := by
  simp [gNe, eqD, D.py, PyData.depth, PyData.eqv]
end
end Pd

/-! Pd: what a reckoning comes to, told from the front -/
namespace Pd
open PySem PySem.Spec PyProof.Rows L2
def Wp {α : Type} (x : Option α) (K : α → Prop) : Prop := ∃ a, x = some a ∧ K a
theorem Wp.ok {α : Type} {a : α} {K : α → Prop} (h : K a) : Wp (some a) K := ⟨a, rfl, h⟩
theorem wp_some {α : Type} {a : α} {K : α → Prop} : Wp (some a) K = K a := propext ⟨fun ⟨_, e, h⟩ => by cases e; exact h, Wp.ok⟩
theorem Wp.of {α : Type} {x : Option α} {a : α} {K : α → Prop} (e : x = some a) (h : K a) : Wp x K := ⟨a, e, h⟩
theorem Wp.mono {α : Type} {x : Option α} {P K : α → Prop} (w : Wp x P) (h : ∀ a, x = some a → P a → K a) : Wp x K := w.elim fun a ⟨e, p⟩ => ⟨a, e, h a e p⟩
/-- a piece whose outcome is known by what holds of it -/
theorem Wp.call {α : Type} {x : Option α} {P K : α → Prop} (w : Wp x P) (h : ∀ a, P a → K a) : Wp x K := w.mono fun a _ => h a
theorem Wp.ctx {α β : Type} {x : Option α} {K : β → Prop} (C : Option α → Option β) (w : Wp x fun a => Wp (C (some a)) K) : Wp (C x) K := by
  obtain ⟨a, rfl, h⟩ := w
  exact h
theorem Wp.runK {x : Option (Fl × Sv)} {sl : List Sl} {K : Except Xn Out × List (Option O) → Prop} (w : Wp x fun a => Wp (Pd.runK (some a) sl) K) : Wp (Pd.runK x sl) K := Wp.ctx (fun x => Pd.runK x sl) w
theorem Wp.seqK {x : Option (Fl × Sv)} {m : DSt} {K : Fl × Sv → Prop} (w : Wp x fun a => Wp (Pd.seqK (some a) m) K) : Wp (Pd.seqK x m) K := Wp.ctx (fun x => Pd.seqK x m) w
theorem Wp.sE {x : Res} {k : Out → DSt} {K : Fl × Sv → Prop} (w : Wp x fun a => Wp (Pd.sE (some a) k) K) : Wp (Pd.sE x k) K := Wp.ctx (fun x => Pd.sE x k) w
theorem Wp.sV {x : Res} {k : D → DSt} {K : Fl × Sv → Prop} (w : Wp x fun a => Wp (Pd.sV (some a) k) K) : Wp (Pd.sV x k) K := Wp.ctx (fun x => Pd.sV x k) w
theorem Wp.kE {x : Res} {k : Out → DEn} {K : Except Xn Out × Sv → Prop} (w : Wp x fun a => Wp (Pd.kE (some a) k) K) : Wp (Pd.kE x k) K := Wp.ctx (fun x => Pd.kE x k) w
theorem Wp.kV {x : Res} {k : D → DEn} {K : Except Xn Out × Sv → Prop} (w : Wp x fun a => Wp (Pd.kV (some a) k) K) : Wp (Pd.kV x k) K := Wp.ctx (fun x => Pd.kV x k) w
theorem Wp.obK {α β : Type} {x : Option α} {k : α → Option β} {K : β → Prop} (w : Wp x fun a => Wp (k a) K) : Wp (Pd.obK x k) K := Wp.ctx (fun x => Pd.obK x k) w
theorem Wp.map {α β : Type} {x : Option α} {k : α → β} {K : β → Prop} (w : Wp x fun a => K (k a)) : Wp (x.map k) K := Wp.ctx (fun x => x.map k) (w.mono fun a _ h => ⟨_, rfl, h⟩)
theorem Wp.itK {x : Res} {k : D → Option (List D)} {K : Except Xn (List D) × Sv → Prop} (w : Wp x fun a => Wp (Pd.itK (some a) k) K) : Wp (Pd.itK x k) K := Wp.ctx (fun x => Pd.itK x k) w
theorem Wp.rgK {x : Res} {K : Except Xn (List D) × Sv → Prop} (w : Wp x fun a => Wp (Pd.rgK (some a)) K) : Wp (Pd.rgK x) K := Wp.ctx (fun x => Pd.rgK x) w
theorem Wp.forK {x : Option (Except Xn (List D) × Sv)} {t : TGt} {m : DSt} {K : Fl × Sv → Prop} (w : Wp x fun a => Wp (Pd.forK (some a) t m) K) : Wp (Pd.forK x t m) K := Wp.ctx (fun x => Pd.forK x t m) w
theorem Wp.lcK {x : Option (Except Xn (List D) × Sv)} {vs : List Nat} {t : TGt} {c f : DEn} {K : Except Xn Out × Sv → Prop} (w : Wp x fun a => Wp (Pd.lcK (some a) vs t c f) K) : Wp (Pd.lcK x vs t c f) K := Wp.ctx (fun x => Pd.lcK x vs t c f) w
theorem Wp.asgK {x : Option Sv} {K : Fl × Sv → Prop} (w : Wp x fun a => K (.nx, a)) : Wp (Pd.asgK x) K := Wp.ctx (fun x => Pd.asgK x) (w.mono fun a _ h => ⟨_, rfl, h⟩)
theorem Wp.apR {x : Option Sv} {K : Except Xn Out × Sv → Prop} (w : Wp x fun a => K (.ok (.val .non), a)) : Wp (Pd.apR x) K := Wp.ctx (fun x => Pd.apR x) (w.mono fun a _ h => ⟨_, rfl, h⟩)
theorem Wp.outK {x : Option Out} {env : Sv} {K : Except Xn Out × Sv → Prop} (w : Wp x fun a => Wp (Pd.outK (some a) env) K) : Wp (Pd.outK x env) K := Wp.ctx (fun x => Pd.outK x env) w
theorem Wp.op1K {g : D → Option Out} {x : Option D} {env : Sv} {K : Except Xn Out × Sv → Prop} (w : Wp x fun a => Wp (Pd.outK (g a) env) K) : Wp (Pd.op1K g x env) K := Wp.ctx (fun x => Pd.op1K g x env) w
theorem Wp.bK2 {g : List D → Option Out} {x : Option (List D)} {env : Sv} {K : Except Xn Out × Sv → Prop} (w : Wp x fun a => Wp (Pd.outK (g a) env) K) : Wp (Pd.bK2 g x env) K := Wp.ctx (fun x => Pd.bK2 g x env) w
theorem Wp.subK {x : Res} {i : Nat} {d : D} {K : Sv → Prop} (w : Wp x fun a => Wp (Pd.subK (some a) i d) K) : Wp (Pd.subK x i d) K := Wp.ctx (fun x => Pd.subK x i d) w
theorem Wp.chK {g g' : D → D → Option Out} {r2 : Out} {h : DEn} {x : Option Out} {env : Sv} {K : Except Xn Out × Sv → Prop} (w : Wp x fun a => Wp (Pd.chK g g' r2 h (some a) env) K) : Wp (Pd.chK g g' r2 h x env) K := Wp.ctx (fun x => Pd.chK g g' r2 h x env) w
/-! walks -/
/-- a walk by an invariant: P by the turns that are done, R at the end -/
theorem Wp.loop {t : TGt} {m : DSt} {R : Fl × Sv → Prop} (P : List D → Sv → Prop) {ds : List D} {env : Sv} (h0 : P [] env)
    (step : ∀ pre d post env, ds = pre ++ d :: post → P pre env → Wp (t d env) fun e => Wp (m e) fun p => match p.1 with
      | .nx => P (pre ++ [d]) p.2
      | .cnt => P (pre ++ [d]) p.2
      | .brk => R (.nx, p.2)
      | .ret r => R (.ret r, p.2)
      | .err x => R (.err x, p.2)) (done : ∀ env, P ds env → R (.nx, env)) : Wp (Pd.loop t m ds env) R := by
  suffices h : ∀ (post pre : List D) (env : Sv), ds = pre ++ post → P pre env → Wp (Pd.loop t m post env) R from h ds [] env rfl h0
  intro post
  induction post with
  | nil =>
    intro pre env e p
    rw [List.append_nil] at e
    exact ⟨_, rfl, done env (e ▸ p)⟩
  | cons d post ih =>
    intro pre env e p
    obtain ⟨e1, h1, ⟨fl, e2⟩, h2, h3⟩ := step pre d post env e p
    unfold Pd.loop
    rw [h1]
    simp only [h2]
    have e' : ds = (pre ++ [d]) ++ post := by rw [e, List.append_assoc]; rfl
    cases fl with
    | nx => exact ih _ e2 e' h3
    | cnt => exact ih _ e2 e' h3
    | brk => exact ⟨_, rfl, h3⟩
    | ret r => exact ⟨_, rfl, h3⟩
    | err x => exact ⟨_, rfl, h3⟩
/-- .. over a row of things of one kind -/
theorem Wp.loopM {α : Type} {en : α → D} {t : TGt} {m : DSt} {R : Fl × Sv → Prop} (P : List α → Sv → Prop) {xs : List α} {env : Sv} (h0 : P [] env)
    (step : ∀ pre x post env, xs = pre ++ x :: post → P pre env → Wp (t (en x) env) fun e => Wp (m e) fun p => match p.1 with
      | .nx => P (pre ++ [x]) p.2
      | .cnt => P (pre ++ [x]) p.2
      | .brk => R (.nx, p.2)
      | .ret r => R (.ret r, p.2)
      | .err x => R (.err x, p.2)) (done : ∀ env, P xs env → R (.nx, env)) : Wp (Pd.loop t m (xs.map en) env) R := by
  suffices h : ∀ (post pre : List α) (env : Sv), xs = pre ++ post → P pre env → Wp (Pd.loop t m (post.map en) env) R from h xs [] env rfl h0
  intro post
  induction post with
  | nil =>
    intro pre env e p
    rw [List.append_nil] at e
    exact ⟨_, rfl, done env (e ▸ p)⟩
  | cons d post ih =>
    intro pre env e p
    obtain ⟨e1, h1, ⟨fl, e2⟩, h2, h3⟩ := step pre d post env e p
    rw [List.map_cons]
    unfold Pd.loop
    rw [h1]
    simp only [h2]
    have e' : xs = (pre ++ [d]) ++ post := by rw [e, List.append_assoc]; rfl
    cases fl with
    | nx => exact ih _ e2 e' h3
    | cnt => exact ih _ e2 e' h3
    | brk => exact ⟨_, rfl, h3⟩
    | ret r => exact ⟨_, rfl, h3⟩
    | err x => exact ⟨_, rfl, h3⟩
/-- a block that sees to every item, with what it has made so far -/
theorem Wp.lcsM {α : Type} {en : α → D} {vs : List Nat} {t : TGt} {f : DEn} {R : List D × Sv → Prop} (P : List α → List D → Sv → Prop) {xs : List α} {env : Sv} (h0 : P [] [] env)
    (step : ∀ pre x post ys env, xs = pre ++ x :: post → P pre ys env → Wp (t (en x) env) fun e => Wp (fV (f e)) fun p => P (pre ++ [x]) (ys ++ [p.1]) (wipeE vs p.2)) (done : ∀ ys env, P xs ys env → R (ys, env)) : Wp (lcs vs t cYes f (xs.map en) env) R := by
  suffices h : ∀ (post pre : List α) (ys : List D) (env : Sv), xs = pre ++ post → P pre ys env → Wp (lcs vs t cYes f (post.map en) env) fun p => P xs (ys ++ p.1) p.2 from
    (h xs [] [] env rfl h0).mono fun p _ q => done p.1 p.2 (by rw [List.nil_append] at q; exact q)
  intro post
  induction post with
  | nil =>
    intro pre ys env e p
    rw [List.append_nil] at e
    exact ⟨_, rfl, by show P xs (ys ++ []) env; rw [List.append_nil, e]; exact p⟩
  | cons d post ih =>
    intro pre ys env e p
    obtain ⟨e1, h1, ⟨y, e2⟩, h2, h3⟩ := step pre d post ys env e p
    have e' : xs = (pre ++ [d]) ++ post := by rw [e, List.append_assoc]; rfl
    obtain ⟨⟨zs, e3⟩, h4, h5⟩ := ih _ _ _ e' h3
    rw [List.map_cons, lcs_step]
    refine ⟨(y :: zs, e3), ?_, by rw [List.append_assoc] at h5; exact h5⟩
    unfold lcStep
    rw [h1]
    simp only [s_obK, h2, h4, s_map]
/-- .. that changes nothing -/
theorem lcsM_pure {α : Type} {en : α → D} {vs : List Nat} {t : TGt} {f : DEn} {env : Sv} (g : α → D) {xs : List α} (h : ∀ x ∈ xs, Wp (t (en x) env) fun e => Wp (fV (f e)) fun p => p.1 = g x ∧ wipeE vs p.2 = env) : lcs vs t cYes f (xs.map en) env = some (xs.map g, env) := by
  induction xs with
  | nil => rfl
  | cons x xs ih =>
    obtain ⟨e1, h1, ⟨y, e2⟩, h2, h3, h4⟩ := h x List.mem_cons_self
    rw [List.map_cons, lcs_step]
    unfold lcStep
    rw [h1]
    have h4 : wipeE vs e2 = env := h4
    have h3 : y = g x := h3
    simp only [s_obK, h2, h4, ih fun y hy => h y (List.mem_cons_of_mem _ hy), s_map, h3, List.map_cons]
end Pd

namespace Lwk01
open PySem PySem.Spec PyProof.Rows L2 Pd
def top (i : Nat) : Stmt := PySem.Challenge.pw_rollbook_k01_catalogs_made.main.body.getD i (.Pass ⟨0, 0, 0, 0⟩)
abbrev s__law_source : Stmt := (top 18)
abbrev s__law_cell : Stmt := (top 17)
abbrev s__law_draw : Stmt := (top 19)
abbrev s__law_names : Stmt := (top 20)
abbrev s__law_services : Stmt := (top 21)
abbrev s_is_integer : Stmt := (top 9)
abbrev s_is_name : Stmt := (top 13)
abbrev s_is_service : Stmt := (top 14)
abbrev s_Catalog___init__ : Stmt := (inClass (top 15) 0)
abbrev s_Catalog_names : Stmt := (inClass (top 15) 5)
abbrev s_Catalog_top_of : Stmt := (inClass (top 15) 6)
abbrev s_Catalog___len__ : Stmt := (inClass (top 15) 2)
abbrev s_Catalog___repr__ : Stmt := (inClass (top 15) 4)
abbrev s__law_right : Stmt := (top 22)
abbrev s_law : Stmt := (top 23)
theorem sc__law_source : FnScope ["_law_cell_here", "_law_digits"] ["_law_cell_here"] (defScope s__law_source) := ⟨rfl, rfl, rfl, by decide +kernel, rfl, by decide +kernel, by decide +kernel⟩
theorem sc__law_cell : FnScope ["_law_script", "_law_k", "_law_mixed", "_law_cell_here"] ["_law_script", "_law_k"] (defScope s__law_cell) := ⟨rfl, rfl, rfl, by decide +kernel, rfl, by decide +kernel, by decide +kernel⟩
theorem sc__law_draw : FnScope ["_law_source_here", "_law_many", "_law_mixed", "_law_digit"] ["_law_source_here", "_law_many"] (defScope s__law_draw) := ⟨rfl, rfl, rfl, by decide +kernel, rfl, by decide +kernel, by decide +kernel⟩
theorem sc__law_names : FnScope ["_law_source_here", "_law_many", "_law_words", "_law_letters", "_law_begin", "_law_stem", "_law_cut", "_law_first", "_law_step", "_law_way", "_law_k"] ["_law_source_here", "_law_many"] (defScope s__law_names) := ⟨rfl, rfl, rfl, by decide +kernel, rfl, by decide +kernel, by decide +kernel⟩
theorem sc__law_services : FnScope ["_law_source_here", "_law_many", "_law_wide", "_law_label"] ["_law_source_here"] (defScope s__law_services) := ⟨rfl, rfl, rfl, by decide +kernel, rfl, by decide +kernel, by decide +kernel⟩
theorem sc_is_integer : FnScope ["value", "low", "high"] ["value", "low", "high"] (defScope s_is_integer) := ⟨rfl, rfl, rfl, by decide +kernel, rfl, by decide +kernel, by decide +kernel⟩
theorem sc_is_name : FnScope ["value", "letter"] ["value"] (defScope s_is_name) := ⟨rfl, rfl, rfl, by decide +kernel, rfl, by decide +kernel, by decide +kernel⟩
theorem sc_is_service : FnScope ["value", "name", "top"] ["value"] (defScope s_is_service) := ⟨rfl, rfl, rfl, by decide +kernel, rfl, by decide +kernel, by decide +kernel⟩
theorem sc_Catalog___init__ : FnScope ["self", "services", "last", "index", "service"] ["self", "services"] (defScope s_Catalog___init__) := ⟨rfl, rfl, rfl, by decide +kernel, rfl, by decide +kernel, by decide +kernel⟩
theorem sc_Catalog_names : FnScope ["self", "name", "top"] ["self"] (defScope s_Catalog_names) := ⟨rfl, rfl, rfl, by decide +kernel, rfl, by decide +kernel, by decide +kernel⟩
theorem sc_Catalog_top_of : FnScope ["self", "name", "known", "top"] ["self", "name"] (defScope s_Catalog_top_of) := ⟨rfl, rfl, rfl, by decide +kernel, rfl, by decide +kernel, by decide +kernel⟩
theorem sc_Catalog___len__ : FnScope ["self"] ["self"] (defScope s_Catalog___len__) := ⟨rfl, rfl, rfl, by decide +kernel, rfl, by decide +kernel, by decide +kernel⟩
theorem sc_Catalog___repr__ : FnScope ["self"] ["self"] (defScope s_Catalog___repr__) := ⟨rfl, rfl, rfl, by decide +kernel, rfl, by decide +kernel, by decide +kernel⟩
theorem sc__law_right : FnScope ["_law_made", "_law_pairs", "_law_labels", "_law_label", "_law_high"] ["_law_made", "_law_pairs"] (defScope s__law_right) := ⟨rfl, rfl, rfl, by decide +kernel, rfl, by decide +kernel, by decide +kernel⟩
theorem sc_law : FnScope ["_law_script", "_law_known", "_law_k", "_law_source_here", "_law_pairs", "_law_made"] ["_law_script"] (defScope s_law) := ⟨rfl, rfl, rfl, by decide +kernel, rfl, by decide +kernel, by decide +kernel⟩
/-! ### what the defs do to data -/
def b__law_source : DSt := (cSeq (cSet 1 (cIf (cOr (cOp2 gLt (cVar 0) (cC (.int 0))) (cOp2 gGe (cVar 0) (cOp2 gPow (cC (.int 10)) (cC (.int 18))))) (cB gAbs [.r (cVar 0)]) (cC (.int 0))))
    (cRet (cLst [.v (cVar 1), .v (cOp2 gAdd (cOp2 gMulA (cOp2 gMod (cVar 0) (cC (.int 1000000103))) (cC (.int 8011))) (cC (.int 6007))), .v (cC (.int 0))])))
def d__law_source : FD := runB 1 1 b__law_source
def b__law_cell : DSt := (cSeq (cIfS (cOp2 gLt (cVar 1) (cB gLen [.r (cVar 0)])) (cRet (cOp2 gIx (cVar 0) (cVar 1))) cNop)
    (cSeq (cSet 2 (cOp2 gMod (cOp2 gMulA (cC (.int 70001)) (cOp2 gAdd (cOp2 gAdd (cOp2 gMulA (cVar 1) (cVar 1)) (cOp2 gMulA (cC (.int 9)) (cVar 1))) (cC (.int 5)))) (cC (.int 1000000103))))
    (cSeq (cFor (onIt (cSl gSl (cVar 0) none (some (cC (.int 4)))) itAny) (tName 3) (cSet 2 (cOp2 gMod (cOp2 gAdd (cOp2 gMulA (cVar 2) (cC (.int 41011))) (cVar 3)) (cC (.int 1000000103)))))
    (cRet (cVar 2)))))
def d__law_cell : FD := runB 2 2 b__law_cell
def b__law_draw : DSt := (cSeq (cAsg (tSub 0 (cC (.int 2))) (cOp2 gAdd (cOp2 gIx (cVar 0) (cC (.int 2))) (cC (.int 1))))
    (cSeq (cIfS (cOp2 gGt (cOp2 gIx (cVar 0) (cC (.int 0))) (cC (.int 0))) (cSeq (cAsg (tTup 2 (tsCons (tSub 0 (cC (.int 0))) (tsCons (tName 3) tsNil))) (cB gDivmod [.r (cOp2 gIx (cVar 0) (cC (.int 0))), .r (cVar 1)]))
    (cRet (cVar 3))) cNop)
    (cSeq (cSet 2 (cOp2 gMod (cOp2 gIx (cVar 0) (cC (.int 1))) (cC (.int 1000000103))))
    (cSeq (cAsg (tSub 0 (cC (.int 1))) (cOp2 gAdd (cOp2 gMulA (cVar 2) (cOp2 gAdd (cOp2 gMod (cVar 2) (cC (.int 45007))) (cC (.int 29009)))) (cOp2 gMulA (cC (.int 70019)) (cOp2 gIx (cVar 0) (cC (.int 2))))))
    (cRet (cOp2 gMod (cOp2 gFdiv (cOp2 gMod (cOp2 gIx (cVar 0) (cC (.int 1))) (cC (.int 1000000103))) (cC (.int 32))) (cVar 1)))))))
def d__law_draw : FD := runB 2 2 b__law_draw
def b__law_names : DSt := (cSeq (cSet 2 (cLst [.v (cC (.str ("worked" : Str))), .v (cC (.str ("failed" : Str))), .v (cC (.str ("retract" : Str))), .v (cC (.str ("deploy" : Str))), .v (cC (.str ("undo" : Str))), .v (cC (.str ("verdict" : Str))), .v (cC (.str ("plan" : Str))), .v (cC (.str ("current" : Str))), .v (cC (.str ("evidence" : Str))), .v (cC (.str ("check" : Str)))]))
    (cSeq (cSet 2 (cOp2 gAdd (cVar 2) (cLst [.v (cC (.str ("needs" : Str))), .v (cC (.str ("none" : Str)))])))
    (cSeq (cAsg (tTup 3 (tsCons (tName 7) (tsCons (tName 8) (tsCons (tName 9) tsNil)))) (cTup [.v (cCall d__law_draw [0, 1] [] [.r (cVar 0), .v (cC (.int 12))]), .v (cOp2 gIx (cLst [.v (cC (.int 1)), .v (cC (.int 5)), .v (cC (.int 7)), .v (cC (.int 11))]) (cCall d__law_draw [0, 1] [] [.r (cVar 0), .v (cC (.int 4))])), .v (cCall d__law_draw [0, 1] [] [.r (cVar 0), .v (cC (.int 4))])]))
    (cSeq (cIfS (cOp2 gEq (cVar 9) (cC (.int 1))) (cRet (cB gSortS [.r (cLc (rng1 (cVar 1)) [10] (tName 10) cYes (cOp2 gIx (cVar 2) (cOp2 gMod (cOp2 gAdd (cVar 7) (cOp2 gMulA (cVar 8) (cVar 10))) (cC (.int 12)))))])) cNop)
    (cSeq (cSet 3 (cC (.str ("abcdefghijklmnopqrstuvwxyz" : Str))))
    (cSeq (cSet 4 (cCall d__law_draw [0, 1] [] [.r (cVar 0), .v (cC (.int 26))]))
    (cSeq (cIfS (cOp2 gEq (cVar 9) (cC (.int 2))) (cRet (cB gSortS [.r (cLc (rng1 (cVar 1)) [10] (tName 10) cYes (cOp2 gMulA (cOp2 gIx (cVar 3) (cOp2 gMod (cOp2 gAdd (cVar 4) (cOp2 gFdiv (cVar 10) (cC (.int 8)))) (cC (.int 26)))) (cOp2 gAdd (cC (.int 1)) (cOp2 gMod (cVar 10) (cC (.int 8))))))])) cNop)
    (cSeq (cSet 5 (cStrM gJoin (cC (.str ("" : Str))) (cLc (rng1 (cCall d__law_draw [0, 1] [] [.r (cVar 0), .v (cC (.int 8))])) [10] (tName 10) cYes (cOp2 gIx (cVar 3) (cCall d__law_draw [0, 1] [] [.r (cVar 0), .v (cC (.int 26))])))))
    (cSeq (cSet 6 (cCall d__law_draw [0, 1] [] [.r (cVar 0), .v (cOp2 gAdd (cB gLen [.r (cVar 5)]) (cC (.int 1)))]))
    (cRet (cB gSortS [.r (cLc (rng1 (cVar 1)) [10] (tName 10) cYes (cOp2 gAdd (cOp2 gAdd (cSl gSl (cVar 5) none (some (cVar 6))) (cOp2 gIx (cVar 3) (cOp2 gMod (cOp2 gAdd (cVar 4) (cOp2 gMulA (cVar 8) (cVar 10))) (cC (.int 26))))) (cSl gSl (cVar 5) (some (cVar 6)) none)))])))))))))))
def d__law_names : FD := runB 2 9 b__law_names
def b__law_services : DSt := (cSeq (cSet 1 (cOp2 gAdd (cC (.int 1)) (cCall d__law_draw [0, 1] [] [.r (cVar 0), .v (cOp2 gIx (cLst [.v (cC (.int 4)), .v (cC (.int 12))]) (cB gInt [.r (cOp2 gEq (cCall d__law_draw [0, 1] [] [.r (cVar 0), .v (cC (.int 8))]) (cC (.int 3)))]))])))
    (cSeq (cSet 2 (cOp2 gIx (cLst [.v (cC (.int 4)), .v (cC (.int 10))]) (cB gInt [.r (cOp2 gEq (cCall d__law_draw [0, 1] [] [.r (cVar 0), .v (cC (.int 8))]) (cC (.int 5)))])))
    (cRet (cB gTuple [.r (cLc (onIt (cCall d__law_names [0, 1] [] [.r (cVar 0), .v (cVar 1)]) itAny) [3] (tName 3) cYes (cTup [.v (cVar 3), .v (cCall d__law_draw [0, 1] [] [.r (cVar 0), .v (cVar 2)])]))]))))
def d__law_services : FD := runB 1 3 b__law_services
def b_is_integer : DSt := (cSeq (cRet (cAnd (cB (gIsi 1) [.r (cVar 0), .r (cC (.ty "int"))]) (cAnd (cNot (cB (gIsi 1) [.r (cVar 0), .r (cC (.ty "bool"))])) (cChain gLe gLe (cVar 1) (cVar 0) (cVar 2))))) cNop)
def d_is_integer : FD := runB 3 0 b_is_integer
def b_is_name : DSt := (cSeq (cIfS (cOr (cNot (cTruth (cB (gIsi 1) [.r (cVar 0), .r (cC (.ty "str"))]))) (cNot (cChain gLe gLe (cC (.int 1)) (cB gLen [.r (cVar 0)]) (cC (.int 8))))) (cRet (cC (.bl false))) cNop)
    (cRet (cB gAll [.r (cLc (onIt (cVar 0) itAny) [1] (tName 1) cYes (cOp2 (gIn false) (cVar 1) (cC (.str ("abcdefghijklmnopqrstuvwxyz" : Str)))))])))
def d_is_name : FD := runB 1 1 b_is_name
def b_is_service : DSt := (cSeq (cIfS (cOr (cNot (cTruth (cB (gIsi 1) [.r (cVar 0), .r (cC (.ty "tuple"))]))) (cOp2 gNe (cB gLen [.r (cVar 0)]) (cC (.int 2)))) (cRet (cC (.bl false))) cNop)
    (cSeq (cAsg (tTup 2 (tsCons (tName 1) (tsCons (tName 2) tsNil))) (cVar 0))
    (cRet (cAnd (cCall d_is_name [0] [] [.v (cVar 1)]) (cCall d_is_integer [0, 1, 2] [] [.v (cVar 2), .v (cC (.int 0)), .v (cC (.int 9))])))))
def d_is_service : FD := runB 1 2 b_is_service
def b_Catalog___init__ : DSt := (cSeq (cIfS (cOr (cNot (cTruth (cB (gIsi 1) [.r (cVar 1), .r (cC (.ty "tuple"))]))) (cNot (cChain gLe gLe (cC (.int 1)) (cB gLen [.r (cVar 1)]) (cC (.int 12))))) cNever cNop)
    (cSeq (cSet 2 (cC (.str ("" : Str))))
    (cSeq (cFor (onIt (cVar 1) fun d => (itA d).map numbered) (tTup 2 (tsCons (tName 3) (tsCons (tName 4) tsNil))) (cSeq (cIfS (cOr (cNot (cTruth (cCall d_is_service [0] [] [.v (cVar 4)]))) (cOp2 gLe (cOp2 gIx (cVar 4) (cC (.int 0))) (cVar 2))) cNever cNop)
    (cSet 2 (cOp2 gIx (cVar 4) (cC (.int 0))))))
    (cFld 0 0 0 (cVar 1)))))
def d_Catalog___init__ : FD := runB 2 3 b_Catalog___init__
def b_Catalog_names : DSt := (cSeq (cRet (cB gTuple [.r (cLc (onIt (cOp1 (gAttr [(0, 0)]) (cVar 0)) itAny) [1, 2] (tTup 2 (tsCons (tName 1) (tsCons (tName 2) tsNil))) cYes (cVar 1))])) cNop)
def d_Catalog_names : FD := runB 1 2 b_Catalog_names
def b_Catalog_top_of : DSt := (cSeq (cFor (onIt (cOp1 (gAttr [(0, 0)]) (cVar 0)) itAny) (tTup 2 (tsCons (tName 2) (tsCons (tName 3) tsNil))) (cIfS (cAnd (cTruth (cB (gIsi 1) [.r (cVar 1), .r (cC (.ty "str"))])) (cOp2 gEq (cVar 2) (cVar 1))) (cRet (cVar 3)) cNop))
    cNever)
def d_Catalog_top_of : FD := runB 2 2 b_Catalog_top_of
def b_Catalog___len__ : DSt := (cSeq (cRet (cB gLen [.r (cOp1 (gAttr [(0, 0)]) (cVar 0))])) cNop)
def d_Catalog___len__ : FD := runB 1 0 b_Catalog___len__
def b_Catalog___repr__ : DSt := (cSeq (cRet (joins [(cC (.str ("Catalog(" : Str))), (cOp1 gFmt (cB gLen [.r (cOp1 (gAttr [(0, 0)]) (cVar 0))])), (cC (.str (")" : Str)))] Str.empty)) cNop)
def d_Catalog___repr__ : FD := runB 1 0 b_Catalog___repr__
def b__law_right : DSt := (cSeq (cSet 2 (cB gTuple [.r (cLc (onIt (cVar 1) itAny) [3, 4] (tTup 2 (tsCons (tName 3) (tsCons (tName 4) tsNil))) cYes (cVar 3))]))
    (cSeq (cIfS (cOr (cNot (cTruth (cB (gIsi 1) [.r (cVar 0), .r (cC (.cls 0))]))) (cOp2 gNe (cB gRepr [.r (cOp1 (gAttr [(0, 0)]) (cVar 0))]) (cB gRepr [.r (cVar 1)]))) (cRet (cC (.bl false))) cNop)
    (cSeq (cIfS (cOp2 gNe (cB gRepr [.r (cLst [.v (cMethV 0 d_Catalog_names [0] [] (cVar 0) []), .v (cMethV 0 d_Catalog_names [0] [] (cVar 0) [])])]) (cB gRepr [.r (cLst [.v (cVar 2), .v (cVar 2)])])) (cRet (cC (.bl false))) cNop)
    (cSeq (cFor (onIt (cVar 1) itAny) (tTup 2 (tsCons (tName 3) (tsCons (tName 4) tsNil))) (cIfS (cOp2 gNe (cB gRepr [.r (cLst [.v (cMethV 0 d_Catalog_top_of [0, 1] [] (cVar 0) [.v (cVar 3)]), .v (cMethV 0 d_Catalog_top_of [0, 1] [] (cVar 0) [.v (cVar 3)])])]) (cB gRepr [.r (cLst [.v (cVar 4), .v (cVar 4)])])) (cRet (cC (.bl false))) cNop))
    (cSeq (cIfS (cOp2 gNe (cB gRepr [.r (cLst [.v (cB (orG gLen (ownD [(0, d_Catalog___len__)] oLen)) [.r (cVar 0)]), .v (cB (orG gBool (ownD [(0, d_Catalog___len__)] oBool)) [.r (cVar 0)])])]) (cB gRepr [.r (cLst [.v (cB gLen [.r (cVar 1)]), .v (cC (.bl true))])])) (cRet (cC (.bl false))) cNop)
    (cRet (cOp2 gEq (cB (orG gRepr (ownD [(0, d_Catalog___repr__)] oStr)) [.r (cVar 0)]) (cOp2 gAdd (cOp2 gAdd (cC (.str ("Catalog(" : Str))) (cB gStr [.r (cB gLen [.r (cVar 1)])])) (cC (.str (")" : Str)))))))))))
def d__law_right : FD := runB 2 3 b__law_right
def b_law : DSt := (cSeq (cSet 1 (cLst []))
    (cSeq (cFor (rng1 (cB gMax2 [.r (cC (.int 2)), .r (cB gMin2 [.r (cB gLen [.r (cVar 0)]), .r (cC (.int 6))])])) (tName 2) (cSeq (cSet 3 (cCall d__law_source [0] [] [.v (cCall d__law_cell [0, 1] [] [.v (cVar 0), .v (cVar 2)])]))
    (cSeq (cSet 4 (cCall d__law_services [0] [] [.r (cVar 3)]))
    (cSeq (cSet 5 (cIf (cOp2 gEq (cCall d__law_draw [0, 1] [] [.r (cVar 3), .v (cC (.int 2))]) (cC (.int 0))) (cMake 0 d_Catalog___init__ [0] [] [.v (cVar 4)]) (cMake 0 d_Catalog___init__ [0] [] [.v (cVar 4)])))
    (cSeq (cIfS (cNot (cTruth (cCall d__law_right [0, 1] [] [.v (cVar 5), .v (cVar 4)]))) (cRet (cC (.bl false))) cNop)
    (cDrop (cApp 1 (cTup [.v (cVar 5), .v (cVar 4)]))))))))
    (cRet (cB gAll [.r (cLc (onIt (cVar 1) itAny) [5, 4] (tTup 2 (tsCons (tName 5) (tsCons (tName 4) tsNil))) cYes (cCall d__law_right [0, 1] [] [.v (cVar 5), .v (cVar 4)]))]))))
def d_law : FD := runB 1 5 b_law
/-! ### what the top has -/
structure Fx (K : PySem.W.Frag) (mg : Str → Option Value) where
  C_Catalog : Addr
  f__law_source : Addr
  fd__law_source : FuncData
  f__law_cell : Addr
  fd__law_cell : FuncData
  f__law_draw : Addr
  fd__law_draw : FuncData
  f__law_names : Addr
  fd__law_names : FuncData
  f__law_services : Addr
  fd__law_services : FuncData
  f_is_integer : Addr
  fd_is_integer : FuncData
  f_is_name : Addr
  fd_is_name : FuncData
  f_is_service : Addr
  fd_is_service : FuncData
  f_Catalog___init__ : Addr
  fd_Catalog___init__ : FuncData
  f_Catalog_names : Addr
  fd_Catalog_names : FuncData
  f_Catalog_top_of : Addr
  fd_Catalog_top_of : FuncData
  f_Catalog___len__ : Addr
  fd_Catalog___len__ : FuncData
  f_Catalog___repr__ : Addr
  fd_Catalog___repr__ : FuncData
  f__law_right : Addr
  fd__law_right : FuncData
  f_law : Addr
  fd_law : FuncData
  F__law_source : L2.Fun K "_law_source" "_law_source" s__law_source f__law_source fd__law_source
  m__law_source : mg "_law_source" = some (.ref f__law_source)
  F__law_cell : L2.Fun K "_law_cell" "_law_cell" s__law_cell f__law_cell fd__law_cell
  m__law_cell : mg "_law_cell" = some (.ref f__law_cell)
  F__law_draw : L2.Fun K "_law_draw" "_law_draw" s__law_draw f__law_draw fd__law_draw
  m__law_draw : mg "_law_draw" = some (.ref f__law_draw)
  F__law_names : L2.Fun K "_law_names" "_law_names" s__law_names f__law_names fd__law_names
  m__law_names : mg "_law_names" = some (.ref f__law_names)
  F__law_services : L2.Fun K "_law_services" "_law_services" s__law_services f__law_services fd__law_services
  m__law_services : mg "_law_services" = some (.ref f__law_services)
  F_is_integer : L2.Fun K "is_integer" "is_integer" s_is_integer f_is_integer fd_is_integer
  m_is_integer : mg "is_integer" = some (.ref f_is_integer)
  F_is_name : L2.Fun K "is_name" "is_name" s_is_name f_is_name fd_is_name
  m_is_name : mg "is_name" = some (.ref f_is_name)
  F_is_service : L2.Fun K "is_service" "is_service" s_is_service f_is_service fd_is_service
  m_is_service : mg "is_service" = some (.ref f_is_service)
  F_Catalog___init__ : L2.Fun K "__init__" "Catalog.__init__" s_Catalog___init__ f_Catalog___init__ fd_Catalog___init__
  F_Catalog_names : L2.Fun K "names" "Catalog.names" s_Catalog_names f_Catalog_names fd_Catalog_names
  F_Catalog_top_of : L2.Fun K "top_of" "Catalog.top_of" s_Catalog_top_of f_Catalog_top_of fd_Catalog_top_of
  F_Catalog___len__ : L2.Fun K "__len__" "Catalog.__len__" s_Catalog___len__ f_Catalog___len__ fd_Catalog___len__
  F_Catalog___repr__ : L2.Fun K "__repr__" "Catalog.__repr__" s_Catalog___repr__ f_Catalog___repr__ fd_Catalog___repr__
  F__law_right : L2.Fun K "_law_right" "_law_right" s__law_right f__law_right fd__law_right
  m__law_right : mg "_law_right" = some (.ref f__law_right)
  F_law : L2.Fun K "law" "law" s_law f_law fd_law
  m_law : mg "law" = some (.ref f_law)
  m_Catalog : mg "Catalog" = some (.ref C_Catalog)
  ck_Catalog : ClsOk K C_Catalog
  mk_Catalog : Mk K C_Catalog f_Catalog___init__
  na_Catalog_services : NoAttr K C_Catalog "services"
  kt_Catalog : (∀ b, b ∈ asked → PySem.W.kitOne K (.ref C_Catalog) (.type b) = some false) ∧ ∀ a, a ∈ tags → PySem.W.kitOne K (.type a) (.ref C_Catalog) = some false
  ii_Catalog_Catalog : PySem.W.kitOne K (.ref C_Catalog) (.ref C_Catalog) = some true
  nb_Catalog : PySem.W.findIn K (.ref C_Catalog) "__bool__" = some none
  mt_Catalog_names : Meth K C_Catalog "names" f_Catalog_names
  mt_Catalog_top_of : Meth K C_Catalog "top_of" f_Catalog_top_of
  mt_Catalog___len__ : Meth K C_Catalog "__len__" f_Catalog___len__
  mt_Catalog___repr__ : Meth K C_Catalog "__repr__" f_Catalog___repr__
  n_abs : mg "abs" = none
  n_all : mg "all" = none
  n_bool : mg "bool" = none
  n_divmod : mg "divmod" = none
  n_enumerate : mg "enumerate" = none
  n_int : mg "int" = none
  n_isinstance : mg "isinstance" = none
  n_len : mg "len" = none
  n_max : mg "max" = none
  n_min : mg "min" = none
  n_range : mg "range" = none
  n_repr : mg "repr" = none
  n_sorted : mg "sorted" = none
  n_str : mg "str" = none
  n_tuple : mg "tuple" = none
  t_LETTERS : Tok
  m_LETTERS : mg "LETTERS" = some (.str ("abcdefghijklmnopqrstuvwxyz" : Str) t_LETTERS)
  t_MAX_LETTERS : Tok
  m_MAX_LETTERS : mg "MAX_LETTERS" = some (.int 8 t_MAX_LETTERS)
  t_MAX_SERVICES : Tok
  m_MAX_SERVICES : mg "MAX_SERVICES" = some (.int 12 t_MAX_SERVICES)
  t_MAX_TOP : Tok
  m_MAX_TOP : mg "MAX_TOP" = some (.int 9 t_MAX_TOP)
section
variable {P : Program} {w : World} {K : PySem.W.Frag} {mg : Str → Option Value} {base : Heap}
abbrev Fx.G (x : Fx K mg) : Gc := ⟨K, fun i => [x.C_Catalog].getD i 0, fun i => ([["services"]] : List (List Str)).getD i [], 1⟩
theorem Fx.gok (x : Fx K mg) : Gok x.G where
  ok := fun c hc => match c, hc with | 0, _ => x.ck_Catalog
  insTy := fun c hc => match c, hc with | 0, _ => x.kt_Catalog.1
  tyIns := fun c hc => match c, hc with | 0, _ => x.kt_Catalog.2
  insIns := fun c c2 hc hc2 => match c, c2, hc, hc2 with | 0, 0, _, _ => x.ii_Catalog_Catalog
theorem Fx.cl_Catalog (x : Fx K mg) : Cls K x.C_Catalog := x.ck_Catalog.cl
theorem Fx.at_Catalog_services (x : Fx K mg) : AttrOk x.G "services" 0 0 := ⟨x.cl_Catalog, x.na_Catalog_services, rfl, by intro j hj; show (["services"] : List Str)[j]? ≠ _; revert j; decide +kernel⟩
theorem ok__law_source (x : Fx K mg) : FnG P w K mg base 2 x.f__law_source x.fd__law_source ["_law_cell_here"] (spG x.G 1 d__law_source) :=
  def_ok (G := x.G) (N := ["_law_cell_here", "_law_digits"]) (fb := b__law_source) (n := 1) (pad := 1) x.F__law_source sc__law_source rfl rfl fun cdv A out s H E hr hgd tk hp =>
    (Pd.dss_cons (Pd.ds_set 1 sc__law_source.nd (Pd.de_if (Pd.dw (Pd.dw_or (Pd.dt_cmp op_ltA Pd.r2_lt (Pd.dv 0) Pd.de_int) (Pd.dw_or1 (Pd.dt_cmp op_geA Pd.r2_ge (Pd.dv 0) (Pd.de_op2 op_pow Pd.r2_pow Pd.de_int Pd.de_int))))) (Pd.de_callB call_abs Pd.rc_abs rfl x.n_abs bb_abs (Pd.da_r (Pd.dv 0) Pd.da_nil)) Pd.de_int))
    (Pd.dss_one (Pd.ds_ret (Pd.de_lst (Pd.da_v (Pd.dv 1) (Pd.da_v (Pd.de_op2 op_addA Pd.r2_add (Pd.de_op2 op_mulA Pd.r2_mul (Pd.de_op2 op_mod Pd.r2_mod (Pd.dv 0) Pd.de_int) Pd.de_int) Pd.de_int) (Pd.da_v Pd.de_int Pd.da_nil)))))))
theorem bd__law_source_0 (x : Fx K mg) : BindG K x.fd__law_source ["_law_cell_here"] 1 [] [0] [] := bindG_of x.F__law_source fun _ _ _ _ _ _ us ws h1 h2 => match us, ws, h1, h2 with | [_], [], _, _ => rfl
theorem cl__law_source_0 (x : Fx K mg) : ClP P w K mg base x.G 2 x.f__law_source d__law_source 1 [] [0] [] := ⟨⟨_, _, [], [], ok__law_source x, bd__law_source_0 x, .nil, fun _ _ => Rps.nil, fun _ _ => runB_fit⟩, x.F__law_source.kp⟩
theorem ok__law_cell (x : Fx K mg) : FnG P w K mg base 2 x.f__law_cell x.fd__law_cell ["_law_script", "_law_k"] (spG x.G 2 d__law_cell) :=
  def_ok (G := x.G) (N := ["_law_script", "_law_k", "_law_mixed", "_law_cell_here"]) (fb := b__law_cell) (n := 2) (pad := 2) x.F__law_cell sc__law_cell rfl rfl fun cdv A out s H E hr hgd tk hp =>
    (Pd.dss_cons (Pd.ds_if (Pd.dt_cmp op_ltA Pd.r2_lt (Pd.dv 1) (Pd.de_callB call_len Pd.rc_len rfl x.n_len bb_len (Pd.da_r (Pd.dv 0) Pd.da_nil))) (Pd.dss_one (Pd.ds_ret (Pd.de_ix ix_seq Pd.r2_ix (Pd.dv 0) (Pd.dv 1)))) Pd.dss_nil)
    (Pd.dss_cons (Pd.ds_set 2 sc__law_cell.nd (Pd.de_op2 op_mod Pd.r2_mod (Pd.de_op2 op_mulA Pd.r2_mul Pd.de_int (Pd.de_op2 op_addA Pd.r2_add (Pd.de_op2 op_addA Pd.r2_add (Pd.de_op2 op_mulA Pd.r2_mul (Pd.dv 1) (Pd.dv 1)) (Pd.de_op2 op_mulA Pd.r2_mul Pd.de_int (Pd.dv 1))) Pd.de_int)) Pd.de_int))
    (Pd.dss_cons (Pd.ds_for hp rfl (Pd.di_any rfl (Pd.de_slice sl_any rs_any (Pd.dv 0) Pd.dp_none (Pd.dp_some Pd.de_int))) (Pd.dg_name 3 sc__law_cell.nd) (Pd.dss_one (Pd.ds_set 2 sc__law_cell.nd (Pd.de_op2 op_mod Pd.r2_mod (Pd.de_op2 op_addA Pd.r2_add (Pd.de_op2 op_mulA Pd.r2_mul (Pd.dv 2) Pd.de_int) (Pd.dv 3)) Pd.de_int))))
    (Pd.dss_one (Pd.ds_ret (Pd.dv 2))))))
theorem bd__law_cell_0 (x : Fx K mg) : BindG K x.fd__law_cell ["_law_script", "_law_k"] 2 [] [0, 1] [] := bindG_of x.F__law_cell fun _ _ _ _ _ _ us ws h1 h2 => match us, ws, h1, h2 with | [_, _], [], _, _ => rfl
theorem cl__law_cell_0 (x : Fx K mg) : ClP P w K mg base x.G 2 x.f__law_cell d__law_cell 2 [] [0, 1] [] := ⟨⟨_, _, [], [], ok__law_cell x, bd__law_cell_0 x, .nil, fun _ _ => Rps.nil, fun _ _ => runB_fit⟩, x.F__law_cell.kp⟩
theorem ok__law_draw (x : Fx K mg) : FnG P w K mg base 2 x.f__law_draw x.fd__law_draw ["_law_source_here", "_law_many"] (spG x.G 2 d__law_draw) :=
  def_ok (G := x.G) (N := ["_law_source_here", "_law_many", "_law_mixed", "_law_digit"]) (fb := b__law_draw) (n := 2) (pad := 2) x.F__law_draw sc__law_draw rfl rfl fun cdv A out s H E hr hgd tk hp =>
    (Pd.dss_cons (Pd.ds_asg (Pd.de_op2 op_addA Pd.r2_add (Pd.de_ix ix_seq Pd.r2_ix (Pd.dv 0) Pd.de_int) Pd.de_int) (Pd.dg_sub (pv 0) Pd.de_int))
    (Pd.dss_cons (Pd.ds_if (Pd.dt_cmp op_gtA Pd.r2_gt (Pd.de_ix ix_seq Pd.r2_ix (Pd.dv 0) Pd.de_int) Pd.de_int) (Pd.dss_cons (Pd.ds_asg (Pd.de_callB call_divmod Pd.rc_divmod rfl x.n_divmod bb_divmod (Pd.da_r (Pd.de_ix ix_seq Pd.r2_ix (Pd.dv 0) Pd.de_int) (Pd.da_r (Pd.dv 1) Pd.da_nil))) (Pd.dg_tup rfl rfl (Pd.dgs_cons (Pd.dg_sub (pv 0) Pd.de_int) (Pd.dgs_cons (Pd.dg_name 3 sc__law_draw.nd) Pd.dgs_nil))))
    (Pd.dss_one (Pd.ds_ret (Pd.dv 3)))) Pd.dss_nil)
    (Pd.dss_cons (Pd.ds_set 2 sc__law_draw.nd (Pd.de_op2 op_mod Pd.r2_mod (Pd.de_ix ix_seq Pd.r2_ix (Pd.dv 0) Pd.de_int) Pd.de_int))
    (Pd.dss_cons (Pd.ds_asg (Pd.de_op2 op_addA Pd.r2_add (Pd.de_op2 op_mulA Pd.r2_mul (Pd.dv 2) (Pd.de_op2 op_addA Pd.r2_add (Pd.de_op2 op_mod Pd.r2_mod (Pd.dv 2) Pd.de_int) Pd.de_int)) (Pd.de_op2 op_mulA Pd.r2_mul Pd.de_int (Pd.de_ix ix_seq Pd.r2_ix (Pd.dv 0) Pd.de_int))) (Pd.dg_sub (pv 0) Pd.de_int))
    (Pd.dss_one (Pd.ds_ret (Pd.de_op2 op_mod Pd.r2_mod (Pd.de_op2 op_fdiv Pd.r2_fdiv (Pd.de_op2 op_mod Pd.r2_mod (Pd.de_ix ix_seq Pd.r2_ix (Pd.dv 0) Pd.de_int) Pd.de_int) Pd.de_int) (Pd.dv 1))))))))
theorem bd__law_draw_0 (x : Fx K mg) : BindG K x.fd__law_draw ["_law_source_here", "_law_many"] 2 [] [0, 1] [] := bindG_of x.F__law_draw fun _ _ _ _ _ _ us ws h1 h2 => match us, ws, h1, h2 with | [_, _], [], _, _ => rfl
theorem cl__law_draw_0 (x : Fx K mg) : ClP P w K mg base x.G 2 x.f__law_draw d__law_draw 2 [] [0, 1] [] := ⟨⟨_, _, [], [], ok__law_draw x, bd__law_draw_0 x, .nil, fun _ _ => Rps.nil, fun _ _ => runB_fit⟩, x.F__law_draw.kp⟩
theorem ok__law_names (x : Fx K mg) : FnG P w K mg base 3 x.f__law_names x.fd__law_names ["_law_source_here", "_law_many"] (spG x.G 2 d__law_names) :=
  def_ok (G := x.G) (N := ["_law_source_here", "_law_many", "_law_words", "_law_letters", "_law_begin", "_law_stem", "_law_cut", "_law_first", "_law_step", "_law_way", "_law_k"]) (fb := b__law_names) (n := 2) (pad := 9) x.F__law_names sc__law_names rfl rfl fun cdv A out s H E hr hgd tk hp =>
    (Pd.dss_cons (Pd.ds_set 2 sc__law_names.nd (Pd.de_lst (Pd.da_v Pd.de_str (Pd.da_v Pd.de_str (Pd.da_v Pd.de_str (Pd.da_v Pd.de_str (Pd.da_v Pd.de_str (Pd.da_v Pd.de_str (Pd.da_v Pd.de_str (Pd.da_v Pd.de_str (Pd.da_v Pd.de_str (Pd.da_v Pd.de_str Pd.da_nil))))))))))))
    (Pd.dss_cons (Pd.ds_set 2 sc__law_names.nd (Pd.de_op2 op_addA Pd.r2_add (Pd.dv 2) (Pd.de_lst (Pd.da_v Pd.de_str (Pd.da_v Pd.de_str Pd.da_nil)))))
    (Pd.dss_cons (Pd.ds_asg (Pd.de_tup (Pd.da_v (Pd.de_call (j := 2) (n := 2) (cl__law_draw_0 x) (hr.mono (j := 2) (by decide)) hgd tk x.m__law_draw (Pd.ca_pos (Pd.da_r (Pd.dv 0) (Pd.da_v Pd.de_int Pd.da_nil)))) (Pd.da_v (Pd.de_ix ix_seq Pd.r2_ix (Pd.de_lst (Pd.da_v Pd.de_int (Pd.da_v Pd.de_int (Pd.da_v Pd.de_int (Pd.da_v Pd.de_int Pd.da_nil))))) (Pd.de_call (j := 2) (n := 2) (cl__law_draw_0 x) (hr.mono (j := 2) (by decide)) hgd tk x.m__law_draw (Pd.ca_pos (Pd.da_r (Pd.dv 0) (Pd.da_v Pd.de_int Pd.da_nil))))) (Pd.da_v (Pd.de_call (j := 2) (n := 2) (cl__law_draw_0 x) (hr.mono (j := 2) (by decide)) hgd tk x.m__law_draw (Pd.ca_pos (Pd.da_r (Pd.dv 0) (Pd.da_v Pd.de_int Pd.da_nil)))) Pd.da_nil)))) (Pd.dg_tup rfl rfl (Pd.dgs_cons (Pd.dg_name 7 sc__law_names.nd) (Pd.dgs_cons (Pd.dg_name 8 sc__law_names.nd) (Pd.dgs_cons (Pd.dg_name 9 sc__law_names.nd) Pd.dgs_nil)))))
    (Pd.dss_cons (Pd.ds_if (Pd.dt_cmp (op_eqD hr.units) Pd.r2_eq (Pd.dv 9) Pd.de_int) (Pd.dss_one (Pd.ds_ret (Pd.de_callB cr_sortedS Pd.rc_sortS rfl x.n_sorted bb_sorted (Pd.da_r (Pd.de_lc (own := [(("_law_k" : Str), 10)]) rfl sc__law_names.nd (Pd.di_range1 rfl x.n_range (Pd.dv 1)) (blkOk_by (by kernel_rfl)) (fun _ _ _ _ _ => (Pd.dg_name 10 sc__law_names.nd)) (fun _ _ _ _ _ => Pd.dts_nil) (fun _ _ _ _ _ => (Pd.de_ix ix_seq Pd.r2_ix (Pd.dv 2) (Pd.de_op2 op_mod Pd.r2_mod (Pd.de_op2 op_addA Pd.r2_add (Pd.dv 7) (Pd.de_op2 op_mulA Pd.r2_mul (Pd.dv 8) (Pd.dv 10))) Pd.de_int)))) Pd.da_nil)))) Pd.dss_nil)
    (Pd.dss_cons (Pd.ds_set 3 sc__law_names.nd Pd.de_str)
    (Pd.dss_cons (Pd.ds_set 4 sc__law_names.nd (Pd.de_call (j := 2) (n := 2) (cl__law_draw_0 x) (hr.mono (j := 2) (by decide)) hgd tk x.m__law_draw (Pd.ca_pos (Pd.da_r (Pd.dv 0) (Pd.da_v Pd.de_int Pd.da_nil)))))
    (Pd.dss_cons (Pd.ds_if (Pd.dt_cmp (op_eqD hr.units) Pd.r2_eq (Pd.dv 9) Pd.de_int) (Pd.dss_one (Pd.ds_ret (Pd.de_callB cr_sortedS Pd.rc_sortS rfl x.n_sorted bb_sorted (Pd.da_r (Pd.de_lc (own := [(("_law_k" : Str), 10)]) rfl sc__law_names.nd (Pd.di_range1 rfl x.n_range (Pd.dv 1)) (blkOk_by (by kernel_rfl)) (fun _ _ _ _ _ => (Pd.dg_name 10 sc__law_names.nd)) (fun _ _ _ _ _ => Pd.dts_nil) (fun _ _ _ _ _ => (Pd.de_op2 op_mulA Pd.r2_mul (Pd.de_ix ix_seq Pd.r2_ix (Pd.dv 3) (Pd.de_op2 op_mod Pd.r2_mod (Pd.de_op2 op_addA Pd.r2_add (Pd.dv 4) (Pd.de_op2 op_fdiv Pd.r2_fdiv (Pd.dv 10) Pd.de_int)) Pd.de_int)) (Pd.de_op2 op_addA Pd.r2_add Pd.de_int (Pd.de_op2 op_mod Pd.r2_mod (Pd.dv 10) Pd.de_int))))) Pd.da_nil)))) Pd.dss_nil)
    (Pd.dss_cons (Pd.ds_set 5 sc__law_names.nd (Pd.de_join rfl Pd.de_str (Pd.de_lc (own := [(("_law_k" : Str), 10)]) rfl sc__law_names.nd (Pd.di_range1 rfl x.n_range (Pd.de_call (j := 2) (n := 2) (cl__law_draw_0 x) (hr.mono (j := 2) (by decide)) hgd tk x.m__law_draw (Pd.ca_pos (Pd.da_r (Pd.dv 0) (Pd.da_v Pd.de_int Pd.da_nil))))) (blkOk_by (by kernel_rfl)) (fun _ _ _ _ _ => (Pd.dg_name 10 sc__law_names.nd)) (fun _ _ _ _ _ => Pd.dts_nil) (fun _ _ _ _ _ => (Pd.de_ix ix_seq Pd.r2_ix (Pd.dv 3) (Pd.de_call (j := 2) (n := 2) (cl__law_draw_0 x) (hr.mono (j := 2) (by decide)) hgd Pd.takes0 x.m__law_draw (Pd.ca_pos (Pd.da_r (Pd.dv 0) (Pd.da_v Pd.de_int Pd.da_nil)))))))))
    (Pd.dss_cons (Pd.ds_set 6 sc__law_names.nd (Pd.de_call (j := 2) (n := 2) (cl__law_draw_0 x) (hr.mono (j := 2) (by decide)) hgd tk x.m__law_draw (Pd.ca_pos (Pd.da_r (Pd.dv 0) (Pd.da_v (Pd.de_op2 op_addA Pd.r2_add (Pd.de_callB call_len Pd.rc_len rfl x.n_len bb_len (Pd.da_r (Pd.dv 5) Pd.da_nil)) Pd.de_int) Pd.da_nil)))))
    (Pd.dss_one (Pd.ds_ret (Pd.de_callB cr_sortedS Pd.rc_sortS rfl x.n_sorted bb_sorted (Pd.da_r (Pd.de_lc (own := [(("_law_k" : Str), 10)]) rfl sc__law_names.nd (Pd.di_range1 rfl x.n_range (Pd.dv 1)) (blkOk_by (by kernel_rfl)) (fun _ _ _ _ _ => (Pd.dg_name 10 sc__law_names.nd)) (fun _ _ _ _ _ => Pd.dts_nil) (fun _ _ _ _ _ => (Pd.de_op2 op_addA Pd.r2_add (Pd.de_op2 op_addA Pd.r2_add (Pd.de_slice sl_any rs_any (Pd.dv 5) Pd.dp_none (Pd.dp_some (Pd.dv 6))) (Pd.de_ix ix_seq Pd.r2_ix (Pd.dv 3) (Pd.de_op2 op_mod Pd.r2_mod (Pd.de_op2 op_addA Pd.r2_add (Pd.dv 4) (Pd.de_op2 op_mulA Pd.r2_mul (Pd.dv 8) (Pd.dv 10))) Pd.de_int))) (Pd.de_slice sl_any rs_any (Pd.dv 5) (Pd.dp_some (Pd.dv 6)) Pd.dp_none)))) Pd.da_nil)))))))))))))
theorem bd__law_names_0 (x : Fx K mg) : BindG K x.fd__law_names ["_law_source_here", "_law_many"] 2 [] [0, 1] [] := bindG_of x.F__law_names fun _ _ _ _ _ _ us ws h1 h2 => match us, ws, h1, h2 with | [_, _], [], _, _ => rfl
theorem cl__law_names_0 (x : Fx K mg) : ClP P w K mg base x.G 3 x.f__law_names d__law_names 2 [] [0, 1] [] := ⟨⟨_, _, [], [], ok__law_names x, bd__law_names_0 x, .nil, fun _ _ => Rps.nil, fun _ _ => runB_fit⟩, x.F__law_names.kp⟩
theorem ok__law_services (x : Fx K mg) : FnG P w K mg base 4 x.f__law_services x.fd__law_services ["_law_source_here"] (spG x.G 1 d__law_services) :=
  def_ok (G := x.G) (N := ["_law_source_here", "_law_many", "_law_wide", "_law_label"]) (fb := b__law_services) (n := 1) (pad := 3) x.F__law_services sc__law_services rfl rfl fun cdv A out s H E hr hgd tk hp =>
    (Pd.dss_cons (Pd.ds_set 1 sc__law_services.nd (Pd.de_op2 op_addA Pd.r2_add Pd.de_int (Pd.de_call (j := 2) (n := 2) (cl__law_draw_0 x) (hr.mono (j := 2) (by decide)) hgd tk x.m__law_draw (Pd.ca_pos (Pd.da_r (Pd.dv 0) (Pd.da_v (Pd.de_ix ix_seq Pd.r2_ix (Pd.de_lst (Pd.da_v Pd.de_int (Pd.da_v Pd.de_int Pd.da_nil))) (Pd.de_callTy call_int1 Pd.rc_int rfl x.n_int bb_int (Pd.da_r (Pd.de_cmp (op_eqD hr.units) Pd.r2_eq (Pd.de_call (j := 2) (n := 2) (cl__law_draw_0 x) (hr.mono (j := 2) (by decide)) hgd tk x.m__law_draw (Pd.ca_pos (Pd.da_r (Pd.dv 0) (Pd.da_v Pd.de_int Pd.da_nil)))) Pd.de_int) Pd.da_nil))) Pd.da_nil))))))
    (Pd.dss_cons (Pd.ds_set 2 sc__law_services.nd (Pd.de_ix ix_seq Pd.r2_ix (Pd.de_lst (Pd.da_v Pd.de_int (Pd.da_v Pd.de_int Pd.da_nil))) (Pd.de_callTy call_int1 Pd.rc_int rfl x.n_int bb_int (Pd.da_r (Pd.de_cmp (op_eqD hr.units) Pd.r2_eq (Pd.de_call (j := 2) (n := 2) (cl__law_draw_0 x) (hr.mono (j := 2) (by decide)) hgd tk x.m__law_draw (Pd.ca_pos (Pd.da_r (Pd.dv 0) (Pd.da_v Pd.de_int Pd.da_nil)))) Pd.de_int) Pd.da_nil))))
    (Pd.dss_one (Pd.ds_ret (Pd.de_callTy call_tuple_of Pd.rc_tuple rfl x.n_tuple bb_tuple (Pd.da_r (Pd.de_lc (own := [(("_law_label" : Str), 3)]) rfl sc__law_services.nd (Pd.di_any rfl (Pd.de_call (j := 3) (n := 2) (cl__law_names_0 x) (hr.mono (j := 3) (by decide)) hgd tk x.m__law_names (Pd.ca_pos (Pd.da_r (Pd.dv 0) (Pd.da_v (Pd.dv 1) Pd.da_nil))))) (blkOk_by (by kernel_rfl)) (fun _ _ _ _ _ => (Pd.dg_name 3 sc__law_services.nd)) (fun _ _ _ _ _ => Pd.dts_nil) (fun _ _ _ _ _ => (Pd.de_tup (Pd.da_v (Pd.dv 3) (Pd.da_v (Pd.de_call (j := 2) (n := 2) (cl__law_draw_0 x) (hr.mono (j := 2) (by decide)) hgd Pd.takes0 x.m__law_draw (Pd.ca_pos (Pd.da_r (Pd.dv 0) (Pd.da_v (Pd.dv 2) Pd.da_nil)))) Pd.da_nil))))) Pd.da_nil))))))
theorem bd__law_services_0 (x : Fx K mg) : BindG K x.fd__law_services ["_law_source_here"] 1 [] [0] [] := bindG_of x.F__law_services fun _ _ _ _ _ _ us ws h1 h2 => match us, ws, h1, h2 with | [_], [], _, _ => rfl
theorem cl__law_services_0 (x : Fx K mg) : ClP P w K mg base x.G 4 x.f__law_services d__law_services 1 [] [0] [] := ⟨⟨_, _, [], [], ok__law_services x, bd__law_services_0 x, .nil, fun _ _ => Rps.nil, fun _ _ => runB_fit⟩, x.F__law_services.kp⟩
theorem ok_is_integer (x : Fx K mg) : FnG P w K mg base 2 x.f_is_integer x.fd_is_integer ["value", "low", "high"] (spG x.G 3 d_is_integer) :=
  def_ok (G := x.G) (N := ["value", "low", "high"]) (fb := b_is_integer) (n := 3) (pad := 0) x.F_is_integer sc_is_integer rfl rfl fun cdv A out s H E hr hgd tk hp =>
    (Pd.dss_cons (Pd.ds_ret (Pd.de_and (Pd.de_callB call_isi (Pd.rc_isi x.gok) rfl x.n_isinstance bb_isinstance (Pd.da_r (Pd.dv 0) (Pd.da_r (Pd.de_ty rfl x.n_int bb_int) Pd.da_nil))) (Pd.de_and (Pd.de_not (Pd.de_callB call_isi (Pd.rc_isi x.gok) rfl x.n_isinstance bb_isinstance (Pd.da_r (Pd.dv 0) (Pd.da_r (Pd.de_ty rfl x.n_bool bb_bool) Pd.da_nil)))) (Pd.de_one (Pd.de_chain op_leA op_leA Pd.r2_le Pd.r2_le (Pd.dv 1) (Pd.dv 0) (Pd.dv 2)))))) Pd.dss_nil)
theorem bd_is_integer_0 (x : Fx K mg) : BindG K x.fd_is_integer ["value", "low", "high"] 3 [] [0, 1, 2] [] := bindG_of x.F_is_integer fun _ _ _ _ _ _ us ws h1 h2 => match us, ws, h1, h2 with | [_, _, _], [], _, _ => rfl
theorem cl_is_integer_0 (x : Fx K mg) : ClP P w K mg base x.G 2 x.f_is_integer d_is_integer 3 [] [0, 1, 2] [] := ⟨⟨_, _, [], [], ok_is_integer x, bd_is_integer_0 x, .nil, fun _ _ => Rps.nil, fun _ _ => runB_fit⟩, x.F_is_integer.kp⟩
theorem ok_is_name (x : Fx K mg) : FnG P w K mg base 2 x.f_is_name x.fd_is_name ["value"] (spG x.G 1 d_is_name) :=
  def_ok (G := x.G) (N := ["value", "letter"]) (fb := b_is_name) (n := 1) (pad := 1) x.F_is_name sc_is_name rfl rfl fun cdv A out s H E hr hgd tk hp =>
    (Pd.dss_cons (Pd.ds_if (Pd.dw (Pd.dw_or (Pd.dt_not (Pd.dt_truth rfl (Pd.de_callB call_isi (Pd.rc_isi x.gok) rfl x.n_isinstance bb_isinstance (Pd.da_r (Pd.dv 0) (Pd.da_r (Pd.de_ty rfl x.n_str bb_str) Pd.da_nil))))) (Pd.dw_or1 (Pd.dt_not (Pd.dt_chain op_leA op_leA Pd.r2_le Pd.r2_le Pd.de_int (Pd.de_callB call_len Pd.rc_len rfl x.n_len bb_len (Pd.da_r (Pd.dv 0) Pd.da_nil)) (Pd.de_globI rfl x.m_MAX_LETTERS)))))) (Pd.dss_one (Pd.ds_ret Pd.de_bl)) Pd.dss_nil)
    (Pd.dss_one (Pd.ds_ret (Pd.de_callB (cr_all rfl) Pd.rc_all rfl x.n_all bb_all (Pd.da_r (Pd.de_lc (own := [(("letter" : Str), 1)]) rfl sc_is_name.nd (Pd.di_any rfl (Pd.dv 0)) (blkOk_by (by kernel_rfl)) (fun _ _ _ _ _ => (Pd.dg_name 1 sc_is_name.nd)) (fun _ _ _ _ _ => Pd.dts_nil) (fun _ _ _ _ _ => (Pd.de_cmp (op_in hr.u65) (Pd.r2_in false) (Pd.dv 1) (Pd.de_globS rfl x.m_LETTERS)))) Pd.da_nil)))))
theorem bd_is_name_0 (x : Fx K mg) : BindG K x.fd_is_name ["value"] 1 [] [0] [] := bindG_of x.F_is_name fun _ _ _ _ _ _ us ws h1 h2 => match us, ws, h1, h2 with | [_], [], _, _ => rfl
theorem cl_is_name_0 (x : Fx K mg) : ClP P w K mg base x.G 2 x.f_is_name d_is_name 1 [] [0] [] := ⟨⟨_, _, [], [], ok_is_name x, bd_is_name_0 x, .nil, fun _ _ => Rps.nil, fun _ _ => runB_fit⟩, x.F_is_name.kp⟩
theorem ok_is_service (x : Fx K mg) : FnG P w K mg base 3 x.f_is_service x.fd_is_service ["value"] (spG x.G 1 d_is_service) :=
  def_ok (G := x.G) (N := ["value", "name", "top"]) (fb := b_is_service) (n := 1) (pad := 2) x.F_is_service sc_is_service rfl rfl fun cdv A out s H E hr hgd tk hp =>
    (Pd.dss_cons (Pd.ds_if (Pd.dw (Pd.dw_or (Pd.dt_not (Pd.dt_truth rfl (Pd.de_callB call_isi (Pd.rc_isi x.gok) rfl x.n_isinstance bb_isinstance (Pd.da_r (Pd.dv 0) (Pd.da_r (Pd.de_ty rfl x.n_tuple bb_tuple) Pd.da_nil))))) (Pd.dw_or1 (Pd.dt_cmp (op_neD hr.units) Pd.r2_ne (Pd.de_callB call_len Pd.rc_len rfl x.n_len bb_len (Pd.da_r (Pd.dv 0) Pd.da_nil)) Pd.de_int)))) (Pd.dss_one (Pd.ds_ret Pd.de_bl)) Pd.dss_nil)
    (Pd.dss_cons (Pd.ds_asg (Pd.dv 0) (Pd.dg_tup rfl rfl (Pd.dgs_cons (Pd.dg_name 1 sc_is_service.nd) (Pd.dgs_cons (Pd.dg_name 2 sc_is_service.nd) Pd.dgs_nil))))
    (Pd.dss_one (Pd.ds_ret (Pd.de_and (Pd.de_call (j := 2) (n := 1) (cl_is_name_0 x) (hr.mono (j := 2) (by decide)) hgd tk x.m_is_name (Pd.ca_pos (Pd.da_v (Pd.dv 1) Pd.da_nil))) (Pd.de_one (Pd.de_call (j := 2) (n := 3) (cl_is_integer_0 x) (hr.mono (j := 2) (by decide)) hgd tk x.m_is_integer (Pd.ca_pos (Pd.da_v (Pd.dv 2) (Pd.da_v Pd.de_int (Pd.da_v (Pd.de_globI rfl x.m_MAX_TOP) Pd.da_nil)))))))))))
theorem bd_is_service_0 (x : Fx K mg) : BindG K x.fd_is_service ["value"] 1 [] [0] [] := bindG_of x.F_is_service fun _ _ _ _ _ _ us ws h1 h2 => match us, ws, h1, h2 with | [_], [], _, _ => rfl
theorem cl_is_service_0 (x : Fx K mg) : ClP P w K mg base x.G 3 x.f_is_service d_is_service 1 [] [0] [] := ⟨⟨_, _, [], [], ok_is_service x, bd_is_service_0 x, .nil, fun _ _ => Rps.nil, fun _ _ => runB_fit⟩, x.F_is_service.kp⟩
theorem ok_Catalog___init__ (x : Fx K mg) : FnG P w K mg base 4 x.f_Catalog___init__ x.fd_Catalog___init__ ["self", "services"] (spG x.G 2 d_Catalog___init__) :=
  def_ok (G := x.G) (N := ["self", "services", "last", "index", "service"]) (fb := b_Catalog___init__) (n := 2) (pad := 3) x.F_Catalog___init__ sc_Catalog___init__ rfl rfl fun cdv A out s H E hr hgd tk hp =>
    (Pd.dss_cons (Pd.ds_if (Pd.dw (Pd.dw_or (Pd.dt_not (Pd.dt_truth rfl (Pd.de_callB call_isi (Pd.rc_isi x.gok) rfl x.n_isinstance bb_isinstance (Pd.da_r (Pd.dv 1) (Pd.da_r (Pd.de_ty rfl x.n_tuple bb_tuple) Pd.da_nil))))) (Pd.dw_or1 (Pd.dt_not (Pd.dt_chain op_leA op_leA Pd.r2_le Pd.r2_le Pd.de_int (Pd.de_callB call_len Pd.rc_len rfl x.n_len bb_len (Pd.da_r (Pd.dv 1) Pd.da_nil)) (Pd.de_globI rfl x.m_MAX_SERVICES)))))) (Pd.dss_one Pd.ds_never) Pd.dss_nil)
    (Pd.dss_cons (Pd.ds_set 2 sc_Catalog___init__.nd Pd.de_str)
    (Pd.dss_cons (Pd.ds_for hp rfl (Pd.di_enum rfl rfl x.n_enumerate (Pd.dv 1)) (Pd.dg_tup rfl rfl (Pd.dgs_cons (Pd.dg_name 3 sc_Catalog___init__.nd) (Pd.dgs_cons (Pd.dg_name 4 sc_Catalog___init__.nd) Pd.dgs_nil))) (Pd.dss_cons (Pd.ds_if (Pd.dw (Pd.dw_or (Pd.dt_not (Pd.dt_truth rfl (Pd.de_call (j := 3) (n := 1) (cl_is_service_0 x) (hr.mono (j := 3) (by decide)) hgd tk x.m_is_service (Pd.ca_pos (Pd.da_v (Pd.dv 4) Pd.da_nil))))) (Pd.dw_or1 (Pd.dt_cmp op_leA Pd.r2_le (Pd.de_ix ix_seq Pd.r2_ix (Pd.dv 4) Pd.de_int) (Pd.dv 2))))) (Pd.dss_one Pd.ds_never) Pd.dss_nil)
    (Pd.dss_one (Pd.ds_set 2 sc_Catalog___init__.nd (Pd.de_ix ix_seq Pd.r2_ix (Pd.dv 4) Pd.de_int)))))
    (Pd.dss_one (Pd.ds_fld rfl x.at_Catalog_services (by show 1 < 1000; decide) (pv 0) (Pd.dv 1))))))
theorem bd_Catalog___init___0 (x : Fx K mg) : BindG K x.fd_Catalog___init__ ["self", "services"] 2 [] (0 :: ([0] : List Nat).map (· + 1)) [] := bindG_of x.F_Catalog___init__ fun _ _ _ _ _ _ us ws h1 h2 => match us, ws, h1, h2 with | [_, _], [], _, _ => rfl
theorem cl_Catalog___init___0 (x : Fx K mg) : ClP P w K mg base x.G 4 x.f_Catalog___init__ d_Catalog___init__ 2 [] (0 :: ([0] : List Nat).map (· + 1)) [] := ⟨⟨_, _, [], [], ok_Catalog___init__ x, bd_Catalog___init___0 x, .nil, fun _ _ => Rps.nil, fun _ _ => runB_fit⟩, x.F_Catalog___init__.kp⟩
theorem bd_Catalog___init___1 (x : Fx K mg) : BindG K x.fd_Catalog___init__ ["self", "services"] 1 ["services"] (0 :: ([0] : List Nat).map (· + 1)) [] := bindG_of x.F_Catalog___init__ fun _ _ _ _ _ _ us ws h1 h2 => match us, ws, h1, h2 with | [_], [_], _, _ => rfl
theorem cl_Catalog___init___1 (x : Fx K mg) : ClP P w K mg base x.G 4 x.f_Catalog___init__ d_Catalog___init__ 1 ["services"] (0 :: ([0] : List Nat).map (· + 1)) [] := ⟨⟨_, _, [], [], ok_Catalog___init__ x, bd_Catalog___init___1 x, .nil, fun _ _ => Rps.nil, fun _ _ => runB_fit⟩, x.F_Catalog___init__.kp⟩
theorem ok_Catalog_names (x : Fx K mg) : FnG P w K mg base 2 x.f_Catalog_names x.fd_Catalog_names ["self"] (spG x.G 1 d_Catalog_names) :=
  def_ok (G := x.G) (N := ["self", "name", "top"]) (fb := b_Catalog_names) (n := 1) (pad := 2) x.F_Catalog_names sc_Catalog_names rfl rfl fun cdv A out s H E hr hgd tk hp =>
    (Pd.dss_cons (Pd.ds_ret (Pd.de_callTy call_tuple_of Pd.rc_tuple rfl x.n_tuple bb_tuple (Pd.da_r (Pd.de_lc (own := [(("name" : Str), 1), (("top" : Str), 2)]) rfl sc_Catalog_names.nd (Pd.di_any rfl (Pd.de_attr rfl (Pd.at1 x.at_Catalog_services Pd.at0) (Pd.dv 0))) (blkOk_by (by kernel_rfl)) (fun _ _ _ _ _ => (Pd.dg_tup rfl rfl (Pd.dgs_cons (Pd.dg_name 1 sc_Catalog_names.nd) (Pd.dgs_cons (Pd.dg_name 2 sc_Catalog_names.nd) Pd.dgs_nil)))) (fun _ _ _ _ _ => Pd.dts_nil) (fun _ _ _ _ _ => (Pd.dv 1))) Pd.da_nil))) Pd.dss_nil)
theorem bd_Catalog_names_0 (x : Fx K mg) : BindG K x.fd_Catalog_names ["self"] 1 [] [0] [] := bindG_of x.F_Catalog_names fun _ _ _ _ _ _ us ws h1 h2 => match us, ws, h1, h2 with | [_], [], _, _ => rfl
theorem cl_Catalog_names_0 (x : Fx K mg) : ClP P w K mg base x.G 2 x.f_Catalog_names d_Catalog_names 1 [] [0] [] := ⟨⟨_, _, [], [], ok_Catalog_names x, bd_Catalog_names_0 x, .nil, fun _ _ => Rps.nil, fun _ _ => runB_fit⟩, x.F_Catalog_names.kp⟩
theorem ok_Catalog_top_of (x : Fx K mg) : FnG P w K mg base 2 x.f_Catalog_top_of x.fd_Catalog_top_of ["self", "name"] (spG x.G 2 d_Catalog_top_of) :=
  def_ok (G := x.G) (N := ["self", "name", "known", "top"]) (fb := b_Catalog_top_of) (n := 2) (pad := 2) x.F_Catalog_top_of sc_Catalog_top_of rfl rfl fun cdv A out s H E hr hgd tk hp =>
    (Pd.dss_cons (Pd.ds_for hp rfl (Pd.di_any rfl (Pd.de_attr rfl (Pd.at1 x.at_Catalog_services Pd.at0) (Pd.dv 0))) (Pd.dg_tup rfl rfl (Pd.dgs_cons (Pd.dg_name 2 sc_Catalog_top_of.nd) (Pd.dgs_cons (Pd.dg_name 3 sc_Catalog_top_of.nd) Pd.dgs_nil))) (Pd.dss_one (Pd.ds_if (Pd.dw (Pd.dw_and (Pd.dt_truth rfl (Pd.de_callB call_isi (Pd.rc_isi x.gok) rfl x.n_isinstance bb_isinstance (Pd.da_r (Pd.dv 1) (Pd.da_r (Pd.de_ty rfl x.n_str bb_str) Pd.da_nil)))) (Pd.dw_and1 (Pd.dt_cmp (op_eqD hr.units) Pd.r2_eq (Pd.dv 2) (Pd.dv 1))))) (Pd.dss_one (Pd.ds_ret (Pd.dv 3))) Pd.dss_nil)))
    (Pd.dss_one Pd.ds_never))
theorem bd_Catalog_top_of_0 (x : Fx K mg) : BindG K x.fd_Catalog_top_of ["self", "name"] 2 [] [0, 1] [] := bindG_of x.F_Catalog_top_of fun _ _ _ _ _ _ us ws h1 h2 => match us, ws, h1, h2 with | [_, _], [], _, _ => rfl
theorem cl_Catalog_top_of_0 (x : Fx K mg) : ClP P w K mg base x.G 2 x.f_Catalog_top_of d_Catalog_top_of 2 [] [0, 1] [] := ⟨⟨_, _, [], [], ok_Catalog_top_of x, bd_Catalog_top_of_0 x, .nil, fun _ _ => Rps.nil, fun _ _ => runB_fit⟩, x.F_Catalog_top_of.kp⟩
theorem bd_Catalog_top_of_1 (x : Fx K mg) : BindG K x.fd_Catalog_top_of ["self", "name"] 1 ["name"] [0, 1] [] := bindG_of x.F_Catalog_top_of fun _ _ _ _ _ _ us ws h1 h2 => match us, ws, h1, h2 with | [_], [_], _, _ => rfl
theorem cl_Catalog_top_of_1 (x : Fx K mg) : ClP P w K mg base x.G 2 x.f_Catalog_top_of d_Catalog_top_of 1 ["name"] [0, 1] [] := ⟨⟨_, _, [], [], ok_Catalog_top_of x, bd_Catalog_top_of_1 x, .nil, fun _ _ => Rps.nil, fun _ _ => runB_fit⟩, x.F_Catalog_top_of.kp⟩
theorem ok_Catalog___len__ (x : Fx K mg) : FnG P w K mg base 2 x.f_Catalog___len__ x.fd_Catalog___len__ ["self"] (spG x.G 1 d_Catalog___len__) :=
  def_ok (G := x.G) (N := ["self"]) (fb := b_Catalog___len__) (n := 1) (pad := 0) x.F_Catalog___len__ sc_Catalog___len__ rfl rfl fun cdv A out s H E hr hgd tk hp =>
    (Pd.dss_cons (Pd.ds_ret (Pd.de_callB call_len Pd.rc_len rfl x.n_len bb_len (Pd.da_r (Pd.de_attr rfl (Pd.at1 x.at_Catalog_services Pd.at0) (Pd.dv 0)) Pd.da_nil))) Pd.dss_nil)
theorem bd_Catalog___len___0 (x : Fx K mg) : BindG K x.fd_Catalog___len__ ["self"] 1 [] [0] [] := bindG_of x.F_Catalog___len__ fun _ _ _ _ _ _ us ws h1 h2 => match us, ws, h1, h2 with | [_], [], _, _ => rfl
theorem cl_Catalog___len___0 (x : Fx K mg) : ClP P w K mg base x.G 2 x.f_Catalog___len__ d_Catalog___len__ 1 [] [0] [] := ⟨⟨_, _, [], [], ok_Catalog___len__ x, bd_Catalog___len___0 x, .nil, fun _ _ => Rps.nil, fun _ _ => runB_fit⟩, x.F_Catalog___len__.kp⟩
theorem om_Catalog___len__ (x : Fx K mg) : OwnMP P w K mg base x.G 2 0 "__len__" d_Catalog___len__ := ⟨⟨x.f_Catalog___len__, x.mt_Catalog___len__.at_, x.mt_Catalog___len__.fn, cl_Catalog___len___0 x⟩, x.nb_Catalog⟩
theorem ok_Catalog___repr__ (x : Fx K mg) : FnG P w K mg base 2 x.f_Catalog___repr__ x.fd_Catalog___repr__ ["self"] (spG x.G 1 d_Catalog___repr__) :=
  def_ok (G := x.G) (N := ["self"]) (fb := b_Catalog___repr__) (n := 1) (pad := 0) x.F_Catalog___repr__ sc_Catalog___repr__ rfl rfl fun cdv A out s H E hr hgd tk hp =>
    (Pd.dss_cons (Pd.ds_ret (Pd.de_fstr (.cons Pd.de_str (.cons (Pd.de_fmt (Pd.de_callB call_len Pd.rc_len rfl x.n_len bb_len (Pd.da_r (Pd.de_attr rfl (Pd.at1 x.at_Catalog_services Pd.at0) (Pd.dv 0)) Pd.da_nil))) (.cons Pd.de_str .nil))))) Pd.dss_nil)
theorem bd_Catalog___repr___0 (x : Fx K mg) : BindG K x.fd_Catalog___repr__ ["self"] 1 [] [0] [] := bindG_of x.F_Catalog___repr__ fun _ _ _ _ _ _ us ws h1 h2 => match us, ws, h1, h2 with | [_], [], _, _ => rfl
theorem cl_Catalog___repr___0 (x : Fx K mg) : ClP P w K mg base x.G 2 x.f_Catalog___repr__ d_Catalog___repr__ 1 [] [0] [] := ⟨⟨_, _, [], [], ok_Catalog___repr__ x, bd_Catalog___repr___0 x, .nil, fun _ _ => Rps.nil, fun _ _ => runB_fit⟩, x.F_Catalog___repr__.kp⟩
theorem om_Catalog___repr__ (x : Fx K mg) : OwnMP P w K mg base x.G 2 0 "__repr__" d_Catalog___repr__ := ⟨⟨x.f_Catalog___repr__, x.mt_Catalog___repr__.at_, x.mt_Catalog___repr__.fn, cl_Catalog___repr___0 x⟩, x.nb_Catalog⟩
theorem ok__law_right (x : Fx K mg) : FnG P w K mg base 6 x.f__law_right x.fd__law_right ["_law_made", "_law_pairs"] (spG x.G 2 d__law_right) :=
  def_ok (G := x.G) (N := ["_law_made", "_law_pairs", "_law_labels", "_law_label", "_law_high"]) (fb := b__law_right) (n := 2) (pad := 3) x.F__law_right sc__law_right rfl rfl fun cdv A out s H E hr hgd tk hp =>
    (Pd.dss_cons (Pd.ds_set 2 sc__law_right.nd (Pd.de_callTy call_tuple_of Pd.rc_tuple rfl x.n_tuple bb_tuple (Pd.da_r (Pd.de_lc (own := [(("_law_label" : Str), 3), (("_law_high" : Str), 4)]) rfl sc__law_right.nd (Pd.di_any rfl (Pd.dv 1)) (blkOk_by (by kernel_rfl)) (fun _ _ _ _ _ => (Pd.dg_tup rfl rfl (Pd.dgs_cons (Pd.dg_name 3 sc__law_right.nd) (Pd.dgs_cons (Pd.dg_name 4 sc__law_right.nd) Pd.dgs_nil)))) (fun _ _ _ _ _ => Pd.dts_nil) (fun _ _ _ _ _ => (Pd.dv 3))) Pd.da_nil)))
    (Pd.dss_cons (Pd.ds_if (Pd.dw (Pd.dw_or (Pd.dt_not (Pd.dt_truth rfl (Pd.de_callB call_isi (Pd.rc_isi x.gok) rfl x.n_isinstance bb_isinstance (Pd.da_r (Pd.dv 0) (Pd.da_r (Pd.de_cls rfl x.m_Catalog) Pd.da_nil))))) (Pd.dw_or1 (Pd.dt_cmp (op_neD hr.units) Pd.r2_ne (Pd.de_callB (call_reprD hgd hr.units) Pd.rc_repr rfl x.n_repr bb_repr (Pd.da_r (Pd.de_attr rfl (Pd.at1 x.at_Catalog_services Pd.at0) (Pd.dv 0)) Pd.da_nil)) (Pd.de_callB (call_reprD hgd hr.units) Pd.rc_repr rfl x.n_repr bb_repr (Pd.da_r (Pd.dv 1) Pd.da_nil)))))) (Pd.dss_one (Pd.ds_ret Pd.de_bl)) Pd.dss_nil)
    (Pd.dss_cons (Pd.ds_if (Pd.dt_cmp (op_neD hr.units) Pd.r2_ne (Pd.de_callB (call_reprD hgd hr.units) Pd.rc_repr rfl x.n_repr bb_repr (Pd.da_r (Pd.de_lst (Pd.da_v (Pd.de_methV (j := 2) (n := 0) rfl (Pd.dv 0) x.cl_Catalog x.mt_Catalog_names (by show ¬ (("names" : Str) ∈ (["services"] : List Str)); decide +kernel) (cl_Catalog_names_0 x) (hr.mono (j := 2) (by decide)) hgd tk Pd.ca_none) (Pd.da_v (Pd.de_methV (j := 2) (n := 0) rfl (Pd.dv 0) x.cl_Catalog x.mt_Catalog_names (by show ¬ (("names" : Str) ∈ (["services"] : List Str)); decide +kernel) (cl_Catalog_names_0 x) (hr.mono (j := 2) (by decide)) hgd tk Pd.ca_none) Pd.da_nil))) Pd.da_nil)) (Pd.de_callB (call_reprD hgd hr.units) Pd.rc_repr rfl x.n_repr bb_repr (Pd.da_r (Pd.de_lst (Pd.da_v (Pd.dv 2) (Pd.da_v (Pd.dv 2) Pd.da_nil))) Pd.da_nil))) (Pd.dss_one (Pd.ds_ret Pd.de_bl)) Pd.dss_nil)
    (Pd.dss_cons (Pd.ds_for hp rfl (Pd.di_any rfl (Pd.dv 1)) (Pd.dg_tup rfl rfl (Pd.dgs_cons (Pd.dg_name 3 sc__law_right.nd) (Pd.dgs_cons (Pd.dg_name 4 sc__law_right.nd) Pd.dgs_nil))) (Pd.dss_one (Pd.ds_if (Pd.dt_cmp (op_neD hr.units) Pd.r2_ne (Pd.de_callB (call_reprD hgd hr.units) Pd.rc_repr rfl x.n_repr bb_repr (Pd.da_r (Pd.de_lst (Pd.da_v (Pd.de_methV (j := 2) (n := 1) rfl (Pd.dv 0) x.cl_Catalog x.mt_Catalog_top_of (by show ¬ (("top_of" : Str) ∈ (["services"] : List Str)); decide +kernel) (cl_Catalog_top_of_0 x) (hr.mono (j := 2) (by decide)) hgd tk (Pd.ca_pos (Pd.da_v (Pd.dv 3) Pd.da_nil))) (Pd.da_v (Pd.de_methV (j := 2) (n := 0) rfl (Pd.dv 0) x.cl_Catalog x.mt_Catalog_top_of (by show ¬ (("top_of" : Str) ∈ (["services"] : List Str)); decide +kernel) (cl_Catalog_top_of_1 x) (hr.mono (j := 2) (by decide)) hgd tk (Pd.ca_kw (Pd.dk_v (Pd.dv 3) Pd.dk_nil))) Pd.da_nil))) Pd.da_nil)) (Pd.de_callB (call_reprD hgd hr.units) Pd.rc_repr rfl x.n_repr bb_repr (Pd.da_r (Pd.de_lst (Pd.da_v (Pd.dv 4) (Pd.da_v (Pd.dv 4) Pd.da_nil))) Pd.da_nil))) (Pd.dss_one (Pd.ds_ret Pd.de_bl)) Pd.dss_nil)))
    (Pd.dss_cons (Pd.ds_if (Pd.dt_cmp (op_neD hr.units) Pd.r2_ne (Pd.de_callB (call_reprD hgd hr.units) Pd.rc_repr rfl x.n_repr bb_repr (Pd.da_r (Pd.de_lst (Pd.da_v (Pd.de_callB (callR_or call_len (call_lenOwn (G := x.G) (j := 2) (hr.mono (j := 3) (by decide)) hgd)) (Pd.rc_or Pd.rc_len (Pd.rc_ownLen (Pd.own1 ((om_Catalog___len__ x).up (by decide)) Pd.own0))) rfl x.n_len bb_len (Pd.da_r (Pd.dv 0) Pd.da_nil)) (Pd.da_v (Pd.de_callTy (callR_or call_bool1 (call_boolOwn (G := x.G) (j := 2) (hr.mono (j := 5) (by decide)) hgd)) (Pd.rc_or Pd.rc_bool (Pd.rc_ownBool (Pd.own1 ((om_Catalog___len__ x).up (by decide)) Pd.own0))) rfl x.n_bool bb_bool (Pd.da_r (Pd.dv 0) Pd.da_nil)) Pd.da_nil))) Pd.da_nil)) (Pd.de_callB (call_reprD hgd hr.units) Pd.rc_repr rfl x.n_repr bb_repr (Pd.da_r (Pd.de_lst (Pd.da_v (Pd.de_callB call_len Pd.rc_len rfl x.n_len bb_len (Pd.da_r (Pd.dv 1) Pd.da_nil)) (Pd.da_v Pd.de_bl Pd.da_nil))) Pd.da_nil))) (Pd.dss_one (Pd.ds_ret Pd.de_bl)) Pd.dss_nil)
    (Pd.dss_one (Pd.ds_ret (Pd.de_cmp (op_eqD hr.units) Pd.r2_eq (Pd.de_callB (callR_or (call_reprD hgd hr.units) (call_reprOwn (G := x.G) (j := 2) (hr.mono (j := 3) (by decide)) hgd)) (Pd.rc_or Pd.rc_repr (Pd.rc_ownStr (Pd.own1 ((om_Catalog___repr__ x).up (by decide)) Pd.own0))) rfl x.n_repr bb_repr (Pd.da_r (Pd.dv 0) Pd.da_nil)) (Pd.de_op2 op_addA Pd.r2_add (Pd.de_op2 op_addA Pd.r2_add Pd.de_str (Pd.de_callTy call_strA Pd.rc_str rfl x.n_str bb_str (Pd.da_r (Pd.de_callB call_len Pd.rc_len rfl x.n_len bb_len (Pd.da_r (Pd.dv 1) Pd.da_nil)) Pd.da_nil))) Pd.de_str)))))))))
theorem bd__law_right_0 (x : Fx K mg) : BindG K x.fd__law_right ["_law_made", "_law_pairs"] 2 [] [0, 1] [] := bindG_of x.F__law_right fun _ _ _ _ _ _ us ws h1 h2 => match us, ws, h1, h2 with | [_, _], [], _, _ => rfl
theorem cl__law_right_0 (x : Fx K mg) : ClP P w K mg base x.G 6 x.f__law_right d__law_right 2 [] [0, 1] [] := ⟨⟨_, _, [], [], ok__law_right x, bd__law_right_0 x, .nil, fun _ _ => Rps.nil, fun _ _ => runB_fit⟩, x.F__law_right.kp⟩
theorem ok_law (x : Fx K mg) : FnG P w K mg base 7 x.f_law x.fd_law ["_law_script"] (spG x.G 1 d_law) :=
  def_ok (G := x.G) (N := ["_law_script", "_law_known", "_law_k", "_law_source_here", "_law_pairs", "_law_made"]) (fb := b_law) (n := 1) (pad := 5) x.F_law sc_law rfl rfl fun cdv A out s H E hr hgd tk hp =>
    (Pd.dss_cons (Pd.ds_set 1 sc_law.nd (Pd.de_lst Pd.da_nil))
    (Pd.dss_cons (Pd.ds_for hp rfl (Pd.di_range1 rfl x.n_range (Pd.de_callB (call_max2 rfl) Pd.rc_max2 rfl x.n_max bb_max (Pd.da_r Pd.de_int (Pd.da_r (Pd.de_callB (call_min2 rfl) Pd.rc_min2 rfl x.n_min bb_min (Pd.da_r (Pd.de_callB call_len Pd.rc_len rfl x.n_len bb_len (Pd.da_r (Pd.dv 0) Pd.da_nil)) (Pd.da_r Pd.de_int Pd.da_nil))) Pd.da_nil)))) (Pd.dg_name 2 sc_law.nd) (Pd.dss_cons (Pd.ds_set 3 sc_law.nd (Pd.de_call (j := 2) (n := 1) (cl__law_source_0 x) (hr.mono (j := 2) (by decide)) hgd tk x.m__law_source (Pd.ca_pos (Pd.da_v (Pd.de_call (j := 2) (n := 2) (cl__law_cell_0 x) (hr.mono (j := 2) (by decide)) hgd tk x.m__law_cell (Pd.ca_pos (Pd.da_v (Pd.dv 0) (Pd.da_v (Pd.dv 2) Pd.da_nil)))) Pd.da_nil))))
    (Pd.dss_cons (Pd.ds_set 4 sc_law.nd (Pd.de_call (j := 4) (n := 1) (cl__law_services_0 x) (hr.mono (j := 4) (by decide)) hgd tk x.m__law_services (Pd.ca_pos (Pd.da_r (Pd.dv 3) Pd.da_nil))))
    (Pd.dss_cons (Pd.ds_set 5 sc_law.nd (Pd.de_if (Pd.dt_cmp (op_eqD hr.units) Pd.r2_eq (Pd.de_call (j := 2) (n := 2) (cl__law_draw_0 x) (hr.mono (j := 2) (by decide)) hgd tk x.m__law_draw (Pd.ca_pos (Pd.da_r (Pd.dv 3) (Pd.da_v Pd.de_int Pd.da_nil)))) Pd.de_int) (Pd.de_make (j := 4) (n := 1) (ix := [0]) x.mk_Catalog (cl_Catalog___init___0 x) (hr.mono (j := 5) (by decide)) hgd tk x.m_Catalog (Pd.ca_pos (Pd.da_v (Pd.dv 4) Pd.da_nil))) (Pd.de_make (j := 4) (n := 0) (ix := [0]) x.mk_Catalog (cl_Catalog___init___1 x) (hr.mono (j := 5) (by decide)) hgd tk x.m_Catalog (Pd.ca_kw (Pd.dk_v (Pd.dv 4) Pd.dk_nil)))))
    (Pd.dss_cons (Pd.ds_if (Pd.dt_not (Pd.dt_truth rfl (Pd.de_call (j := 6) (n := 2) (cl__law_right_0 x) (hr.mono (j := 6) (by decide)) hgd tk x.m__law_right (Pd.ca_pos (Pd.da_v (Pd.dv 5) (Pd.da_v (Pd.dv 4) Pd.da_nil)))))) (Pd.dss_one (Pd.ds_ret Pd.de_bl)) Pd.dss_nil)
    (Pd.dss_one (Pd.ds_expr (Pd.de_append (pv 1) rfl (Pd.de_tup (Pd.da_v (Pd.dv 5) (Pd.da_v (Pd.dv 4) Pd.da_nil)))))))))))
    (Pd.dss_one (Pd.ds_ret (Pd.de_callB (cr_all rfl) Pd.rc_all rfl x.n_all bb_all (Pd.da_r (Pd.de_lc (own := [(("_law_made" : Str), 5), (("_law_pairs" : Str), 4)]) rfl sc_law.nd (Pd.di_any rfl (Pd.dv 1)) (blkOk_by (by kernel_rfl)) (fun _ _ _ _ _ => (Pd.dg_tup rfl rfl (Pd.dgs_cons (Pd.dg_name 5 sc_law.nd) (Pd.dgs_cons (Pd.dg_name 4 sc_law.nd) Pd.dgs_nil)))) (fun _ _ _ _ _ => Pd.dts_nil) (fun _ _ _ _ _ => (Pd.de_call (j := 6) (n := 2) (cl__law_right_0 x) (hr.mono (j := 6) (by decide)) hgd Pd.takes0 x.m__law_right (Pd.ca_pos (Pd.da_v (Pd.dv 5) (Pd.da_v (Pd.dv 4) Pd.da_nil)))))) Pd.da_nil))))))
end
theorem all_fx {K : PySem.W.Frag} {h : Heap} {mg : Str → Option Value} {C_Catalog f__law_source f__law_cell f__law_draw f__law_names f__law_services f_is_integer f_is_name f_is_service f_Catalog___init__ f_Catalog_names f_Catalog_top_of f_Catalog___len__ f_Catalog___repr__ f__law_right f_law : Addr} (X : K.In h) (G : h.Ns mainGlobals mg)
    {od__law_source an__law_source od__law_cell an__law_cell od__law_draw an__law_draw od__law_names an__law_names od__law_services an__law_services od_is_integer an_is_integer od_is_name an_is_name od_is_service an_is_service od_Catalog___init__ an_Catalog___init__ od_Catalog_names an_Catalog_names od_Catalog_top_of an_Catalog_top_of od_Catalog___len__ an_Catalog___len__ od_Catalog___repr__ an_Catalog___repr__ od__law_right an__law_right od_law an_law : Option Addr} {sl__law_source sl__law_cell sl__law_draw sl__law_names sl__law_services sl_is_integer sl_is_name sl_is_service sl_Catalog___init__ sl_Catalog_names sl_Catalog_top_of sl_Catalog___len__ sl_Catalog___repr__ sl__law_right sl_law : Array (Option Value)} {oc__law_source kV__law_source dc__law_source pm__law_source cd__law_source ct__law_source oc__law_cell kV__law_cell dc__law_cell pm__law_cell cd__law_cell ct__law_cell oc__law_draw kV__law_draw dc__law_draw pm__law_draw cd__law_draw ct__law_draw oc__law_names kV__law_names dc__law_names pm__law_names cd__law_names ct__law_names oc__law_services kV__law_services dc__law_services pm__law_services cd__law_services ct__law_services oc_is_integer kV_is_integer dc_is_integer pm_is_integer cd_is_integer ct_is_integer oc_is_name kV_is_name dc_is_name pm_is_name cd_is_name ct_is_name oc_is_service kV_is_service dc_is_service pm_is_service cd_is_service ct_is_service oc_Catalog___init__ kV_Catalog___init__ dc_Catalog___init__ pm_Catalog___init__ cd_Catalog___init__ ct_Catalog___init__ oc_Catalog_names kV_Catalog_names dc_Catalog_names pm_Catalog_names cd_Catalog_names ct_Catalog_names oc_Catalog_top_of kV_Catalog_top_of dc_Catalog_top_of pm_Catalog_top_of cd_Catalog_top_of ct_Catalog_top_of oc_Catalog___len__ kV_Catalog___len__ dc_Catalog___len__ pm_Catalog___len__ cd_Catalog___len__ ct_Catalog___len__ oc_Catalog___repr__ kV_Catalog___repr__ dc_Catalog___repr__ pm_Catalog___repr__ cd_Catalog___repr__ ct_Catalog___repr__ oc__law_right kV__law_right dc__law_right pm__law_right cd__law_right ct__law_right oc_law kV_law dc_law pm_law cd_law ct_law : Value} {t_LETTERS t_MAX_LETTERS t_MAX_SERVICES t_MAX_TOP : Tok}
    (aC_Catalog : PySem.W.nsIn K mainGlobals "Catalog" = some (some (.ref C_Catalog)))
    (pg_Catalog : PySem.W.plainGet K C_Catalog Str.empty = true)
    (hd_Catalog : PySem.W.hasDictIn K C_Catalog = true)
    (po_Catalog : PySem.W.plainOver K C_Catalog = true)
    (sa_Catalog : PySem.W.findIn K (.ref C_Catalog) "__setattr__" = some (some (.builtin "object.__setattr__")))
    (ha_Catalog : PySem.W.findIn K (.ref C_Catalog) "__class__" = some (some (.builtin "object.__class__")))
    (hm_Catalog : PySem.W.mroIn K C_Catalog (.type "object") = some true)
    (nb_Catalog : PySem.W.findIn K (.ref C_Catalog) "__bool__" = some none)
    (mk_Catalog : PySem.W.makesIn K C_Catalog = true)
    (kc_Catalog : PySem.W.keepIn K (.ref C_Catalog) = true)
    (na_Catalog_services : PySem.W.findIn K (.ref C_Catalog) "services" = some none)
    (kb_Catalog_bool : PySem.W.kitOne K (.ref C_Catalog) (.type "bool") = some false)
    (kb_Catalog_int : PySem.W.kitOne K (.ref C_Catalog) (.type "int") = some false)
    (kb_Catalog_str : PySem.W.kitOne K (.ref C_Catalog) (.type "str") = some false)
    (kb_Catalog_tuple : PySem.W.kitOne K (.ref C_Catalog) (.type "tuple") = some false)
    (kb_Catalog_list : PySem.W.kitOne K (.ref C_Catalog) (.type "list") = some false)
    (kb_Catalog_dict : PySem.W.kitOne K (.ref C_Catalog) (.type "dict") = some false)
    (kt_Catalog_NoneType : PySem.W.kitOne K (.type "NoneType") (.ref C_Catalog) = some false)
    (kt_Catalog_bool : PySem.W.kitOne K (.type "bool") (.ref C_Catalog) = some false)
    (kt_Catalog_int : PySem.W.kitOne K (.type "int") (.ref C_Catalog) = some false)
    (kt_Catalog_str : PySem.W.kitOne K (.type "str") (.ref C_Catalog) = some false)
    (kt_Catalog_tuple : PySem.W.kitOne K (.type "tuple") (.ref C_Catalog) = some false)
    (kt_Catalog_list : PySem.W.kitOne K (.type "list") (.ref C_Catalog) = some false)
    (kt_Catalog_dict : PySem.W.kitOne K (.type "dict") (.ref C_Catalog) = some false)
    (ii_Catalog_Catalog : PySem.W.kitOne K (.ref C_Catalog) (.ref C_Catalog) = some true)
    (hn : PySem.W.specialIn K (.builtin "object.__class__") "__get__" = some (some (.builtin "getset_descriptor.__get__")))
    (ht : PySem.W.takesIn K (.builtin "object.__class__") = some true)
    (a__law_source : PySem.W.nsIn K mainGlobals "_law_source" = some (some (.ref f__law_source)))
    (l__law_source : K.lookup f__law_source = some ⟨oc__law_source, od__law_source, .func (PySem.W.fnOf "_law_source" "_law_source" (defArgs s__law_source) (defBody s__law_source) (defScope s__law_source) .none kV__law_source dc__law_source pm__law_source an__law_source cd__law_source ct__law_source), sl__law_source⟩)
    (c__law_source : PySem.W.codeIn K cd__law_source "_law_source" = true)
    (k__law_source : PySem.W.keepIn K (.ref f__law_source) = true)
    (a__law_cell : PySem.W.nsIn K mainGlobals "_law_cell" = some (some (.ref f__law_cell)))
    (l__law_cell : K.lookup f__law_cell = some ⟨oc__law_cell, od__law_cell, .func (PySem.W.fnOf "_law_cell" "_law_cell" (defArgs s__law_cell) (defBody s__law_cell) (defScope s__law_cell) .none kV__law_cell dc__law_cell pm__law_cell an__law_cell cd__law_cell ct__law_cell), sl__law_cell⟩)
    (c__law_cell : PySem.W.codeIn K cd__law_cell "_law_cell" = true)
    (k__law_cell : PySem.W.keepIn K (.ref f__law_cell) = true)
    (a__law_draw : PySem.W.nsIn K mainGlobals "_law_draw" = some (some (.ref f__law_draw)))
    (l__law_draw : K.lookup f__law_draw = some ⟨oc__law_draw, od__law_draw, .func (PySem.W.fnOf "_law_draw" "_law_draw" (defArgs s__law_draw) (defBody s__law_draw) (defScope s__law_draw) .none kV__law_draw dc__law_draw pm__law_draw an__law_draw cd__law_draw ct__law_draw), sl__law_draw⟩)
    (c__law_draw : PySem.W.codeIn K cd__law_draw "_law_draw" = true)
    (k__law_draw : PySem.W.keepIn K (.ref f__law_draw) = true)
    (a__law_names : PySem.W.nsIn K mainGlobals "_law_names" = some (some (.ref f__law_names)))
    (l__law_names : K.lookup f__law_names = some ⟨oc__law_names, od__law_names, .func (PySem.W.fnOf "_law_names" "_law_names" (defArgs s__law_names) (defBody s__law_names) (defScope s__law_names) .none kV__law_names dc__law_names pm__law_names an__law_names cd__law_names ct__law_names), sl__law_names⟩)
    (c__law_names : PySem.W.codeIn K cd__law_names "_law_names" = true)
    (k__law_names : PySem.W.keepIn K (.ref f__law_names) = true)
    (a__law_services : PySem.W.nsIn K mainGlobals "_law_services" = some (some (.ref f__law_services)))
    (l__law_services : K.lookup f__law_services = some ⟨oc__law_services, od__law_services, .func (PySem.W.fnOf "_law_services" "_law_services" (defArgs s__law_services) (defBody s__law_services) (defScope s__law_services) .none kV__law_services dc__law_services pm__law_services an__law_services cd__law_services ct__law_services), sl__law_services⟩)
    (c__law_services : PySem.W.codeIn K cd__law_services "_law_services" = true)
    (k__law_services : PySem.W.keepIn K (.ref f__law_services) = true)
    (a_is_integer : PySem.W.nsIn K mainGlobals "is_integer" = some (some (.ref f_is_integer)))
    (l_is_integer : K.lookup f_is_integer = some ⟨oc_is_integer, od_is_integer, .func (PySem.W.fnOf "is_integer" "is_integer" (defArgs s_is_integer) (defBody s_is_integer) (defScope s_is_integer) .none kV_is_integer dc_is_integer pm_is_integer an_is_integer cd_is_integer ct_is_integer), sl_is_integer⟩)
    (c_is_integer : PySem.W.codeIn K cd_is_integer "is_integer" = true)
    (k_is_integer : PySem.W.keepIn K (.ref f_is_integer) = true)
    (a_is_name : PySem.W.nsIn K mainGlobals "is_name" = some (some (.ref f_is_name)))
    (l_is_name : K.lookup f_is_name = some ⟨oc_is_name, od_is_name, .func (PySem.W.fnOf "is_name" "is_name" (defArgs s_is_name) (defBody s_is_name) (defScope s_is_name) .none kV_is_name dc_is_name pm_is_name an_is_name cd_is_name ct_is_name), sl_is_name⟩)
    (c_is_name : PySem.W.codeIn K cd_is_name "is_name" = true)
    (k_is_name : PySem.W.keepIn K (.ref f_is_name) = true)
    (a_is_service : PySem.W.nsIn K mainGlobals "is_service" = some (some (.ref f_is_service)))
    (l_is_service : K.lookup f_is_service = some ⟨oc_is_service, od_is_service, .func (PySem.W.fnOf "is_service" "is_service" (defArgs s_is_service) (defBody s_is_service) (defScope s_is_service) .none kV_is_service dc_is_service pm_is_service an_is_service cd_is_service ct_is_service), sl_is_service⟩)
    (c_is_service : PySem.W.codeIn K cd_is_service "is_service" = true)
    (k_is_service : PySem.W.keepIn K (.ref f_is_service) = true)
    (a_Catalog___init__ : PySem.W.findIn K (.ref C_Catalog) "__init__" = some (some (.ref f_Catalog___init__)))
    (i_Catalog___init__ : PySem.W.isFn K (.ref f_Catalog___init__) = true)
    (l_Catalog___init__ : K.lookup f_Catalog___init__ = some ⟨oc_Catalog___init__, od_Catalog___init__, .func (PySem.W.fnOf "__init__" "Catalog.__init__" (defArgs s_Catalog___init__) (defBody s_Catalog___init__) (defScope s_Catalog___init__) .none kV_Catalog___init__ dc_Catalog___init__ pm_Catalog___init__ an_Catalog___init__ cd_Catalog___init__ ct_Catalog___init__), sl_Catalog___init__⟩)
    (c_Catalog___init__ : PySem.W.codeIn K cd_Catalog___init__ "Catalog.__init__" = true)
    (k_Catalog___init__ : PySem.W.keepIn K (.ref f_Catalog___init__) = true)
    (a_Catalog_names : PySem.W.findIn K (.ref C_Catalog) "names" = some (some (.ref f_Catalog_names)))
    (i_Catalog_names : PySem.W.isFn K (.ref f_Catalog_names) = true)
    (l_Catalog_names : K.lookup f_Catalog_names = some ⟨oc_Catalog_names, od_Catalog_names, .func (PySem.W.fnOf "names" "Catalog.names" (defArgs s_Catalog_names) (defBody s_Catalog_names) (defScope s_Catalog_names) .none kV_Catalog_names dc_Catalog_names pm_Catalog_names an_Catalog_names cd_Catalog_names ct_Catalog_names), sl_Catalog_names⟩)
    (c_Catalog_names : PySem.W.codeIn K cd_Catalog_names "Catalog.names" = true)
    (k_Catalog_names : PySem.W.keepIn K (.ref f_Catalog_names) = true)
    (a_Catalog_top_of : PySem.W.findIn K (.ref C_Catalog) "top_of" = some (some (.ref f_Catalog_top_of)))
    (i_Catalog_top_of : PySem.W.isFn K (.ref f_Catalog_top_of) = true)
    (l_Catalog_top_of : K.lookup f_Catalog_top_of = some ⟨oc_Catalog_top_of, od_Catalog_top_of, .func (PySem.W.fnOf "top_of" "Catalog.top_of" (defArgs s_Catalog_top_of) (defBody s_Catalog_top_of) (defScope s_Catalog_top_of) .none kV_Catalog_top_of dc_Catalog_top_of pm_Catalog_top_of an_Catalog_top_of cd_Catalog_top_of ct_Catalog_top_of), sl_Catalog_top_of⟩)
    (c_Catalog_top_of : PySem.W.codeIn K cd_Catalog_top_of "Catalog.top_of" = true)
    (k_Catalog_top_of : PySem.W.keepIn K (.ref f_Catalog_top_of) = true)
    (a_Catalog___len__ : PySem.W.findIn K (.ref C_Catalog) "__len__" = some (some (.ref f_Catalog___len__)))
    (i_Catalog___len__ : PySem.W.isFn K (.ref f_Catalog___len__) = true)
    (l_Catalog___len__ : K.lookup f_Catalog___len__ = some ⟨oc_Catalog___len__, od_Catalog___len__, .func (PySem.W.fnOf "__len__" "Catalog.__len__" (defArgs s_Catalog___len__) (defBody s_Catalog___len__) (defScope s_Catalog___len__) .none kV_Catalog___len__ dc_Catalog___len__ pm_Catalog___len__ an_Catalog___len__ cd_Catalog___len__ ct_Catalog___len__), sl_Catalog___len__⟩)
    (c_Catalog___len__ : PySem.W.codeIn K cd_Catalog___len__ "Catalog.__len__" = true)
    (k_Catalog___len__ : PySem.W.keepIn K (.ref f_Catalog___len__) = true)
    (a_Catalog___repr__ : PySem.W.findIn K (.ref C_Catalog) "__repr__" = some (some (.ref f_Catalog___repr__)))
    (i_Catalog___repr__ : PySem.W.isFn K (.ref f_Catalog___repr__) = true)
    (l_Catalog___repr__ : K.lookup f_Catalog___repr__ = some ⟨oc_Catalog___repr__, od_Catalog___repr__, .func (PySem.W.fnOf "__repr__" "Catalog.__repr__" (defArgs s_Catalog___repr__) (defBody s_Catalog___repr__) (defScope s_Catalog___repr__) .none kV_Catalog___repr__ dc_Catalog___repr__ pm_Catalog___repr__ an_Catalog___repr__ cd_Catalog___repr__ ct_Catalog___repr__), sl_Catalog___repr__⟩)
    (c_Catalog___repr__ : PySem.W.codeIn K cd_Catalog___repr__ "Catalog.__repr__" = true)
    (k_Catalog___repr__ : PySem.W.keepIn K (.ref f_Catalog___repr__) = true)
    (a__law_right : PySem.W.nsIn K mainGlobals "_law_right" = some (some (.ref f__law_right)))
    (l__law_right : K.lookup f__law_right = some ⟨oc__law_right, od__law_right, .func (PySem.W.fnOf "_law_right" "_law_right" (defArgs s__law_right) (defBody s__law_right) (defScope s__law_right) .none kV__law_right dc__law_right pm__law_right an__law_right cd__law_right ct__law_right), sl__law_right⟩)
    (c__law_right : PySem.W.codeIn K cd__law_right "_law_right" = true)
    (k__law_right : PySem.W.keepIn K (.ref f__law_right) = true)
    (a_law : PySem.W.nsIn K mainGlobals "law" = some (some (.ref f_law)))
    (l_law : K.lookup f_law = some ⟨oc_law, od_law, .func (PySem.W.fnOf "law" "law" (defArgs s_law) (defBody s_law) (defScope s_law) .none kV_law dc_law pm_law an_law cd_law ct_law), sl_law⟩)
    (c_law : PySem.W.codeIn K cd_law "law" = true)
    (k_law : PySem.W.keepIn K (.ref f_law) = true)
    (z_abs : PySem.W.nsIn K mainGlobals "abs" = some none)
    (z_all : PySem.W.nsIn K mainGlobals "all" = some none)
    (z_bool : PySem.W.nsIn K mainGlobals "bool" = some none)
    (z_divmod : PySem.W.nsIn K mainGlobals "divmod" = some none)
    (z_enumerate : PySem.W.nsIn K mainGlobals "enumerate" = some none)
    (z_int : PySem.W.nsIn K mainGlobals "int" = some none)
    (z_isinstance : PySem.W.nsIn K mainGlobals "isinstance" = some none)
    (z_len : PySem.W.nsIn K mainGlobals "len" = some none)
    (z_max : PySem.W.nsIn K mainGlobals "max" = some none)
    (z_min : PySem.W.nsIn K mainGlobals "min" = some none)
    (z_range : PySem.W.nsIn K mainGlobals "range" = some none)
    (z_repr : PySem.W.nsIn K mainGlobals "repr" = some none)
    (z_sorted : PySem.W.nsIn K mainGlobals "sorted" = some none)
    (z_str : PySem.W.nsIn K mainGlobals "str" = some none)
    (z_tuple : PySem.W.nsIn K mainGlobals "tuple" = some none)
    (v_LETTERS : PySem.W.nsIn K mainGlobals "LETTERS" = some (some (.str ("abcdefghijklmnopqrstuvwxyz" : Str) t_LETTERS)))
    (v_MAX_LETTERS : PySem.W.nsIn K mainGlobals "MAX_LETTERS" = some (some (.int 8 t_MAX_LETTERS)))
    (v_MAX_SERVICES : PySem.W.nsIn K mainGlobals "MAX_SERVICES" = some (some (.int 12 t_MAX_SERVICES)))
    (v_MAX_TOP : PySem.W.nsIn K mainGlobals "MAX_TOP" = some (some (.int 9 t_MAX_TOP)))
    : Nonempty (Fx K mg) :=
  ⟨{
    C_Catalog := C_Catalog
    f__law_source := f__law_source
    fd__law_source := _
    f__law_cell := f__law_cell
    fd__law_cell := _
    f__law_draw := f__law_draw
    fd__law_draw := _
    f__law_names := f__law_names
    fd__law_names := _
    f__law_services := f__law_services
    fd__law_services := _
    f_is_integer := f_is_integer
    fd_is_integer := _
    f_is_name := f_is_name
    fd_is_name := _
    f_is_service := f_is_service
    fd_is_service := _
    f_Catalog___init__ := f_Catalog___init__
    fd_Catalog___init__ := _
    f_Catalog_names := f_Catalog_names
    fd_Catalog_names := _
    f_Catalog_top_of := f_Catalog_top_of
    fd_Catalog_top_of := _
    f_Catalog___len__ := f_Catalog___len__
    fd_Catalog___len__ := _
    f_Catalog___repr__ := f_Catalog___repr__
    fd_Catalog___repr__ := _
    f__law_right := f__law_right
    fd__law_right := _
    f_law := f_law
    fd_law := _
    F__law_source := fun_mk l__law_source c__law_source k__law_source
    m__law_source := PySem.W.mg_of X G a__law_source
    F__law_cell := fun_mk l__law_cell c__law_cell k__law_cell
    m__law_cell := PySem.W.mg_of X G a__law_cell
    F__law_draw := fun_mk l__law_draw c__law_draw k__law_draw
    m__law_draw := PySem.W.mg_of X G a__law_draw
    F__law_names := fun_mk l__law_names c__law_names k__law_names
    m__law_names := PySem.W.mg_of X G a__law_names
    F__law_services := fun_mk l__law_services c__law_services k__law_services
    m__law_services := PySem.W.mg_of X G a__law_services
    F_is_integer := fun_mk l_is_integer c_is_integer k_is_integer
    m_is_integer := PySem.W.mg_of X G a_is_integer
    F_is_name := fun_mk l_is_name c_is_name k_is_name
    m_is_name := PySem.W.mg_of X G a_is_name
    F_is_service := fun_mk l_is_service c_is_service k_is_service
    m_is_service := PySem.W.mg_of X G a_is_service
    F_Catalog___init__ := fun_mk l_Catalog___init__ c_Catalog___init__ k_Catalog___init__
    F_Catalog_names := fun_mk l_Catalog_names c_Catalog_names k_Catalog_names
    F_Catalog_top_of := fun_mk l_Catalog_top_of c_Catalog_top_of k_Catalog_top_of
    F_Catalog___len__ := fun_mk l_Catalog___len__ c_Catalog___len__ k_Catalog___len__
    F_Catalog___repr__ := fun_mk l_Catalog___repr__ c_Catalog___repr__ k_Catalog___repr__
    F__law_right := fun_mk l__law_right c__law_right k__law_right
    m__law_right := PySem.W.mg_of X G a__law_right
    F_law := fun_mk l_law c_law k_law
    m_law := PySem.W.mg_of X G a_law
    m_Catalog := PySem.W.mg_of X G aC_Catalog
    ck_Catalog := ⟨⟨pg_Catalog, hd_Catalog, po_Catalog, sa_Catalog⟩, ha_Catalog, hn, ht, hm_Catalog⟩
    mk_Catalog := ⟨mk_Catalog, a_Catalog___init__, i_Catalog___init__, kc_Catalog⟩
    na_Catalog_services := na_Catalog_services
    kt_Catalog := ⟨by unfold asked; simp only [List.forall_mem_cons]; exact ⟨kb_Catalog_bool, kb_Catalog_int, kb_Catalog_str, kb_Catalog_tuple, kb_Catalog_list, kb_Catalog_dict, fun _ z => absurd z List.not_mem_nil⟩, by unfold tags; simp only [List.forall_mem_cons]; exact ⟨kt_Catalog_NoneType, kt_Catalog_bool, kt_Catalog_int, kt_Catalog_str, kt_Catalog_tuple, kt_Catalog_list, kt_Catalog_dict, fun _ z => absurd z List.not_mem_nil⟩⟩
    ii_Catalog_Catalog := ii_Catalog_Catalog
    nb_Catalog := nb_Catalog
    mt_Catalog_names := ⟨a_Catalog_names, i_Catalog_names, k_Catalog_names⟩
    mt_Catalog_top_of := ⟨a_Catalog_top_of, i_Catalog_top_of, k_Catalog_top_of⟩
    mt_Catalog___len__ := ⟨a_Catalog___len__, i_Catalog___len__, k_Catalog___len__⟩
    mt_Catalog___repr__ := ⟨a_Catalog___repr__, i_Catalog___repr__, k_Catalog___repr__⟩
    n_abs := PySem.W.mg_none_of X G z_abs
    n_all := PySem.W.mg_none_of X G z_all
    n_bool := PySem.W.mg_none_of X G z_bool
    n_divmod := PySem.W.mg_none_of X G z_divmod
    n_enumerate := PySem.W.mg_none_of X G z_enumerate
    n_int := PySem.W.mg_none_of X G z_int
    n_isinstance := PySem.W.mg_none_of X G z_isinstance
    n_len := PySem.W.mg_none_of X G z_len
    n_max := PySem.W.mg_none_of X G z_max
    n_min := PySem.W.mg_none_of X G z_min
    n_range := PySem.W.mg_none_of X G z_range
    n_repr := PySem.W.mg_none_of X G z_repr
    n_sorted := PySem.W.mg_none_of X G z_sorted
    n_str := PySem.W.mg_none_of X G z_str
    n_tuple := PySem.W.mg_none_of X G z_tuple
    t_LETTERS := t_LETTERS
    m_LETTERS := PySem.W.mg_of X G v_LETTERS
    t_MAX_LETTERS := t_MAX_LETTERS
    m_MAX_LETTERS := PySem.W.mg_of X G v_MAX_LETTERS
    t_MAX_SERVICES := t_MAX_SERVICES
    m_MAX_SERVICES := PySem.W.mg_of X G v_MAX_SERVICES
    t_MAX_TOP := t_MAX_TOP
    m_MAX_TOP := PySem.W.mg_of X G v_MAX_TOP }⟩
theorem law_end {P : Program} {w : World} {K : PySem.W.Frag} {mg : Str → Option Value} {fa : Addr} (x : Fx K mg) (hmg : mg "law" = some (.ref fa)) (pure : ∀ ns : List Int, ns.length ≤ 63 → ∃ os, d_law [.val (.scr ns)] = some (.ok (.val (.bl true)), os)) :
    ∃ (fd : FuncData) (G : Gc) (m : FD), G.K = K ∧ (∀ (s : Shared) (u : Value), BindsTo s fd ⟨[u], []⟩ [("_law_script", u)]) ∧ (∀ sl r, m sl = some r → sl.length = 1) ∧ (∀ ns : List Int, ns.length ≤ 63 → ∃ os, m [.val (.scr ns)] = some (.ok (.val (.bl true)), os)) ∧
      ∀ ba : Heap, K.In ba → ba.Ns mainGlobals mg → FnG P w K mg ba 7 fa fd ["_law_script"] (spG G 1 m) := by
  have e := x.m_law.symm.trans hmg
  simp only [Option.some.injEq, Value.ref.injEq] at e
  subst e
  refine ⟨x.fd_law, x.G, d_law, rfl, fun s u => ?_, fun _ _ => runB_fit, pure, fun ba _ _ => ok_law x⟩
  obtain ⟨oc, od, kV, doc, pm, an, cdv, ct, osl, e, _, _⟩ := x.F_law.ex
  rw [e]
  exact .of_eq rfl
theorem end_law {P : Program} {w : World} {K : PySem.W.Frag} {h : Heap} {mg : Str → Option Value} {fa : Addr} {C_Catalog f__law_source f__law_cell f__law_draw f__law_names f__law_services f_is_integer f_is_name f_is_service f_Catalog___init__ f_Catalog_names f_Catalog_top_of f_Catalog___len__ f_Catalog___repr__ f__law_right f_law : Addr} (pure : ∀ ns : List Int, ns.length ≤ 63 → ∃ os, d_law [.val (.scr ns)] = some (.ok (.val (.bl true)), os)) (X : K.In h) (G : h.Ns mainGlobals mg) (hmg : mg "law" = some (.ref fa))
    {od__law_source an__law_source od__law_cell an__law_cell od__law_draw an__law_draw od__law_names an__law_names od__law_services an__law_services od_is_integer an_is_integer od_is_name an_is_name od_is_service an_is_service od_Catalog___init__ an_Catalog___init__ od_Catalog_names an_Catalog_names od_Catalog_top_of an_Catalog_top_of od_Catalog___len__ an_Catalog___len__ od_Catalog___repr__ an_Catalog___repr__ od__law_right an__law_right od_law an_law : Option Addr} {sl__law_source sl__law_cell sl__law_draw sl__law_names sl__law_services sl_is_integer sl_is_name sl_is_service sl_Catalog___init__ sl_Catalog_names sl_Catalog_top_of sl_Catalog___len__ sl_Catalog___repr__ sl__law_right sl_law : Array (Option Value)} {oc__law_source kV__law_source dc__law_source pm__law_source cd__law_source ct__law_source oc__law_cell kV__law_cell dc__law_cell pm__law_cell cd__law_cell ct__law_cell oc__law_draw kV__law_draw dc__law_draw pm__law_draw cd__law_draw ct__law_draw oc__law_names kV__law_names dc__law_names pm__law_names cd__law_names ct__law_names oc__law_services kV__law_services dc__law_services pm__law_services cd__law_services ct__law_services oc_is_integer kV_is_integer dc_is_integer pm_is_integer cd_is_integer ct_is_integer oc_is_name kV_is_name dc_is_name pm_is_name cd_is_name ct_is_name oc_is_service kV_is_service dc_is_service pm_is_service cd_is_service ct_is_service oc_Catalog___init__ kV_Catalog___init__ dc_Catalog___init__ pm_Catalog___init__ cd_Catalog___init__ ct_Catalog___init__ oc_Catalog_names kV_Catalog_names dc_Catalog_names pm_Catalog_names cd_Catalog_names ct_Catalog_names oc_Catalog_top_of kV_Catalog_top_of dc_Catalog_top_of pm_Catalog_top_of cd_Catalog_top_of ct_Catalog_top_of oc_Catalog___len__ kV_Catalog___len__ dc_Catalog___len__ pm_Catalog___len__ cd_Catalog___len__ ct_Catalog___len__ oc_Catalog___repr__ kV_Catalog___repr__ dc_Catalog___repr__ pm_Catalog___repr__ cd_Catalog___repr__ ct_Catalog___repr__ oc__law_right kV__law_right dc__law_right pm__law_right cd__law_right ct__law_right oc_law kV_law dc_law pm_law cd_law ct_law : Value} {t_LETTERS t_MAX_LETTERS t_MAX_SERVICES t_MAX_TOP : Tok}
    (aC_Catalog : PySem.W.nsIn K mainGlobals "Catalog" = some (some (.ref C_Catalog)))
    (pg_Catalog : PySem.W.plainGet K C_Catalog Str.empty = true)
    (hd_Catalog : PySem.W.hasDictIn K C_Catalog = true)
    (po_Catalog : PySem.W.plainOver K C_Catalog = true)
    (sa_Catalog : PySem.W.findIn K (.ref C_Catalog) "__setattr__" = some (some (.builtin "object.__setattr__")))
    (ha_Catalog : PySem.W.findIn K (.ref C_Catalog) "__class__" = some (some (.builtin "object.__class__")))
    (hm_Catalog : PySem.W.mroIn K C_Catalog (.type "object") = some true)
    (nb_Catalog : PySem.W.findIn K (.ref C_Catalog) "__bool__" = some none)
    (mk_Catalog : PySem.W.makesIn K C_Catalog = true)
    (kc_Catalog : PySem.W.keepIn K (.ref C_Catalog) = true)
    (na_Catalog_services : PySem.W.findIn K (.ref C_Catalog) "services" = some none)
    (kb_Catalog_bool : PySem.W.kitOne K (.ref C_Catalog) (.type "bool") = some false)
    (kb_Catalog_int : PySem.W.kitOne K (.ref C_Catalog) (.type "int") = some false)
    (kb_Catalog_str : PySem.W.kitOne K (.ref C_Catalog) (.type "str") = some false)
    (kb_Catalog_tuple : PySem.W.kitOne K (.ref C_Catalog) (.type "tuple") = some false)
    (kb_Catalog_list : PySem.W.kitOne K (.ref C_Catalog) (.type "list") = some false)
    (kb_Catalog_dict : PySem.W.kitOne K (.ref C_Catalog) (.type "dict") = some false)
    (kt_Catalog_NoneType : PySem.W.kitOne K (.type "NoneType") (.ref C_Catalog) = some false)
    (kt_Catalog_bool : PySem.W.kitOne K (.type "bool") (.ref C_Catalog) = some false)
    (kt_Catalog_int : PySem.W.kitOne K (.type "int") (.ref C_Catalog) = some false)
    (kt_Catalog_str : PySem.W.kitOne K (.type "str") (.ref C_Catalog) = some false)
    (kt_Catalog_tuple : PySem.W.kitOne K (.type "tuple") (.ref C_Catalog) = some false)
    (kt_Catalog_list : PySem.W.kitOne K (.type "list") (.ref C_Catalog) = some false)
    (kt_Catalog_dict : PySem.W.kitOne K (.type "dict") (.ref C_Catalog) = some false)
    (ii_Catalog_Catalog : PySem.W.kitOne K (.ref C_Catalog) (.ref C_Catalog) = some true)
    (hn : PySem.W.specialIn K (.builtin "object.__class__") "__get__" = some (some (.builtin "getset_descriptor.__get__")))
    (ht : PySem.W.takesIn K (.builtin "object.__class__") = some true)
    (a__law_source : PySem.W.nsIn K mainGlobals "_law_source" = some (some (.ref f__law_source)))
    (l__law_source : K.lookup f__law_source = some ⟨oc__law_source, od__law_source, .func (PySem.W.fnOf "_law_source" "_law_source" (defArgs s__law_source) (defBody s__law_source) (defScope s__law_source) .none kV__law_source dc__law_source pm__law_source an__law_source cd__law_source ct__law_source), sl__law_source⟩)
    (c__law_source : PySem.W.codeIn K cd__law_source "_law_source" = true)
    (k__law_source : PySem.W.keepIn K (.ref f__law_source) = true)
    (a__law_cell : PySem.W.nsIn K mainGlobals "_law_cell" = some (some (.ref f__law_cell)))
    (l__law_cell : K.lookup f__law_cell = some ⟨oc__law_cell, od__law_cell, .func (PySem.W.fnOf "_law_cell" "_law_cell" (defArgs s__law_cell) (defBody s__law_cell) (defScope s__law_cell) .none kV__law_cell dc__law_cell pm__law_cell an__law_cell cd__law_cell ct__law_cell), sl__law_cell⟩)
    (c__law_cell : PySem.W.codeIn K cd__law_cell "_law_cell" = true)
    (k__law_cell : PySem.W.keepIn K (.ref f__law_cell) = true)
    (a__law_draw : PySem.W.nsIn K mainGlobals "_law_draw" = some (some (.ref f__law_draw)))
    (l__law_draw : K.lookup f__law_draw = some ⟨oc__law_draw, od__law_draw, .func (PySem.W.fnOf "_law_draw" "_law_draw" (defArgs s__law_draw) (defBody s__law_draw) (defScope s__law_draw) .none kV__law_draw dc__law_draw pm__law_draw an__law_draw cd__law_draw ct__law_draw), sl__law_draw⟩)
    (c__law_draw : PySem.W.codeIn K cd__law_draw "_law_draw" = true)
    (k__law_draw : PySem.W.keepIn K (.ref f__law_draw) = true)
    (a__law_names : PySem.W.nsIn K mainGlobals "_law_names" = some (some (.ref f__law_names)))
    (l__law_names : K.lookup f__law_names = some ⟨oc__law_names, od__law_names, .func (PySem.W.fnOf "_law_names" "_law_names" (defArgs s__law_names) (defBody s__law_names) (defScope s__law_names) .none kV__law_names dc__law_names pm__law_names an__law_names cd__law_names ct__law_names), sl__law_names⟩)
    (c__law_names : PySem.W.codeIn K cd__law_names "_law_names" = true)
    (k__law_names : PySem.W.keepIn K (.ref f__law_names) = true)
    (a__law_services : PySem.W.nsIn K mainGlobals "_law_services" = some (some (.ref f__law_services)))
    (l__law_services : K.lookup f__law_services = some ⟨oc__law_services, od__law_services, .func (PySem.W.fnOf "_law_services" "_law_services" (defArgs s__law_services) (defBody s__law_services) (defScope s__law_services) .none kV__law_services dc__law_services pm__law_services an__law_services cd__law_services ct__law_services), sl__law_services⟩)
    (c__law_services : PySem.W.codeIn K cd__law_services "_law_services" = true)
    (k__law_services : PySem.W.keepIn K (.ref f__law_services) = true)
    (a_is_integer : PySem.W.nsIn K mainGlobals "is_integer" = some (some (.ref f_is_integer)))
    (l_is_integer : K.lookup f_is_integer = some ⟨oc_is_integer, od_is_integer, .func (PySem.W.fnOf "is_integer" "is_integer" (defArgs s_is_integer) (defBody s_is_integer) (defScope s_is_integer) .none kV_is_integer dc_is_integer pm_is_integer an_is_integer cd_is_integer ct_is_integer), sl_is_integer⟩)
    (c_is_integer : PySem.W.codeIn K cd_is_integer "is_integer" = true)
    (k_is_integer : PySem.W.keepIn K (.ref f_is_integer) = true)
    (a_is_name : PySem.W.nsIn K mainGlobals "is_name" = some (some (.ref f_is_name)))
    (l_is_name : K.lookup f_is_name = some ⟨oc_is_name, od_is_name, .func (PySem.W.fnOf "is_name" "is_name" (defArgs s_is_name) (defBody s_is_name) (defScope s_is_name) .none kV_is_name dc_is_name pm_is_name an_is_name cd_is_name ct_is_name), sl_is_name⟩)
    (c_is_name : PySem.W.codeIn K cd_is_name "is_name" = true)
    (k_is_name : PySem.W.keepIn K (.ref f_is_name) = true)
    (a_is_service : PySem.W.nsIn K mainGlobals "is_service" = some (some (.ref f_is_service)))
    (l_is_service : K.lookup f_is_service = some ⟨oc_is_service, od_is_service, .func (PySem.W.fnOf "is_service" "is_service" (defArgs s_is_service) (defBody s_is_service) (defScope s_is_service) .none kV_is_service dc_is_service pm_is_service an_is_service cd_is_service ct_is_service), sl_is_service⟩)
    (c_is_service : PySem.W.codeIn K cd_is_service "is_service" = true)
    (k_is_service : PySem.W.keepIn K (.ref f_is_service) = true)
    (a_Catalog___init__ : PySem.W.findIn K (.ref C_Catalog) "__init__" = some (some (.ref f_Catalog___init__)))
    (i_Catalog___init__ : PySem.W.isFn K (.ref f_Catalog___init__) = true)
    (l_Catalog___init__ : K.lookup f_Catalog___init__ = some ⟨oc_Catalog___init__, od_Catalog___init__, .func (PySem.W.fnOf "__init__" "Catalog.__init__" (defArgs s_Catalog___init__) (defBody s_Catalog___init__) (defScope s_Catalog___init__) .none kV_Catalog___init__ dc_Catalog___init__ pm_Catalog___init__ an_Catalog___init__ cd_Catalog___init__ ct_Catalog___init__), sl_Catalog___init__⟩)
    (c_Catalog___init__ : PySem.W.codeIn K cd_Catalog___init__ "Catalog.__init__" = true)
    (k_Catalog___init__ : PySem.W.keepIn K (.ref f_Catalog___init__) = true)
    (a_Catalog_names : PySem.W.findIn K (.ref C_Catalog) "names" = some (some (.ref f_Catalog_names)))
    (i_Catalog_names : PySem.W.isFn K (.ref f_Catalog_names) = true)
    (l_Catalog_names : K.lookup f_Catalog_names = some ⟨oc_Catalog_names, od_Catalog_names, .func (PySem.W.fnOf "names" "Catalog.names" (defArgs s_Catalog_names) (defBody s_Catalog_names) (defScope s_Catalog_names) .none kV_Catalog_names dc_Catalog_names pm_Catalog_names an_Catalog_names cd_Catalog_names ct_Catalog_names), sl_Catalog_names⟩)
    (c_Catalog_names : PySem.W.codeIn K cd_Catalog_names "Catalog.names" = true)
    (k_Catalog_names : PySem.W.keepIn K (.ref f_Catalog_names) = true)
    (a_Catalog_top_of : PySem.W.findIn K (.ref C_Catalog) "top_of" = some (some (.ref f_Catalog_top_of)))
    (i_Catalog_top_of : PySem.W.isFn K (.ref f_Catalog_top_of) = true)
    (l_Catalog_top_of : K.lookup f_Catalog_top_of = some ⟨oc_Catalog_top_of, od_Catalog_top_of, .func (PySem.W.fnOf "top_of" "Catalog.top_of" (defArgs s_Catalog_top_of) (defBody s_Catalog_top_of) (defScope s_Catalog_top_of) .none kV_Catalog_top_of dc_Catalog_top_of pm_Catalog_top_of an_Catalog_top_of cd_Catalog_top_of ct_Catalog_top_of), sl_Catalog_top_of⟩)
    (c_Catalog_top_of : PySem.W.codeIn K cd_Catalog_top_of "Catalog.top_of" = true)
    (k_Catalog_top_of : PySem.W.keepIn K (.ref f_Catalog_top_of) = true)
    (a_Catalog___len__ : PySem.W.findIn K (.ref C_Catalog) "__len__" = some (some (.ref f_Catalog___len__)))
    (i_Catalog___len__ : PySem.W.isFn K (.ref f_Catalog___len__) = true)
    (l_Catalog___len__ : K.lookup f_Catalog___len__ = some ⟨oc_Catalog___len__, od_Catalog___len__, .func (PySem.W.fnOf "__len__" "Catalog.__len__" (defArgs s_Catalog___len__) (defBody s_Catalog___len__) (defScope s_Catalog___len__) .none kV_Catalog___len__ dc_Catalog___len__ pm_Catalog___len__ an_Catalog___len__ cd_Catalog___len__ ct_Catalog___len__), sl_Catalog___len__⟩)
    (c_Catalog___len__ : PySem.W.codeIn K cd_Catalog___len__ "Catalog.__len__" = true)
    (k_Catalog___len__ : PySem.W.keepIn K (.ref f_Catalog___len__) = true)
    (a_Catalog___repr__ : PySem.W.findIn K (.ref C_Catalog) "__repr__" = some (some (.ref f_Catalog___repr__)))
    (i_Catalog___repr__ : PySem.W.isFn K (.ref f_Catalog___repr__) = true)
    (l_Catalog___repr__ : K.lookup f_Catalog___repr__ = some ⟨oc_Catalog___repr__, od_Catalog___repr__, .func (PySem.W.fnOf "__repr__" "Catalog.__repr__" (defArgs s_Catalog___repr__) (defBody s_Catalog___repr__) (defScope s_Catalog___repr__) .none kV_Catalog___repr__ dc_Catalog___repr__ pm_Catalog___repr__ an_Catalog___repr__ cd_Catalog___repr__ ct_Catalog___repr__), sl_Catalog___repr__⟩)
    (c_Catalog___repr__ : PySem.W.codeIn K cd_Catalog___repr__ "Catalog.__repr__" = true)
    (k_Catalog___repr__ : PySem.W.keepIn K (.ref f_Catalog___repr__) = true)
    (a__law_right : PySem.W.nsIn K mainGlobals "_law_right" = some (some (.ref f__law_right)))
    (l__law_right : K.lookup f__law_right = some ⟨oc__law_right, od__law_right, .func (PySem.W.fnOf "_law_right" "_law_right" (defArgs s__law_right) (defBody s__law_right) (defScope s__law_right) .none kV__law_right dc__law_right pm__law_right an__law_right cd__law_right ct__law_right), sl__law_right⟩)
    (c__law_right : PySem.W.codeIn K cd__law_right "_law_right" = true)
    (k__law_right : PySem.W.keepIn K (.ref f__law_right) = true)
    (a_law : PySem.W.nsIn K mainGlobals "law" = some (some (.ref f_law)))
    (l_law : K.lookup f_law = some ⟨oc_law, od_law, .func (PySem.W.fnOf "law" "law" (defArgs s_law) (defBody s_law) (defScope s_law) .none kV_law dc_law pm_law an_law cd_law ct_law), sl_law⟩)
    (c_law : PySem.W.codeIn K cd_law "law" = true)
    (k_law : PySem.W.keepIn K (.ref f_law) = true)
    (z_abs : PySem.W.nsIn K mainGlobals "abs" = some none)
    (z_all : PySem.W.nsIn K mainGlobals "all" = some none)
    (z_bool : PySem.W.nsIn K mainGlobals "bool" = some none)
    (z_divmod : PySem.W.nsIn K mainGlobals "divmod" = some none)
    (z_enumerate : PySem.W.nsIn K mainGlobals "enumerate" = some none)
    (z_int : PySem.W.nsIn K mainGlobals "int" = some none)
    (z_isinstance : PySem.W.nsIn K mainGlobals "isinstance" = some none)
    (z_len : PySem.W.nsIn K mainGlobals "len" = some none)
    (z_max : PySem.W.nsIn K mainGlobals "max" = some none)
    (z_min : PySem.W.nsIn K mainGlobals "min" = some none)
    (z_range : PySem.W.nsIn K mainGlobals "range" = some none)
    (z_repr : PySem.W.nsIn K mainGlobals "repr" = some none)
    (z_sorted : PySem.W.nsIn K mainGlobals "sorted" = some none)
    (z_str : PySem.W.nsIn K mainGlobals "str" = some none)
    (z_tuple : PySem.W.nsIn K mainGlobals "tuple" = some none)
    (v_LETTERS : PySem.W.nsIn K mainGlobals "LETTERS" = some (some (.str ("abcdefghijklmnopqrstuvwxyz" : Str) t_LETTERS)))
    (v_MAX_LETTERS : PySem.W.nsIn K mainGlobals "MAX_LETTERS" = some (some (.int 8 t_MAX_LETTERS)))
    (v_MAX_SERVICES : PySem.W.nsIn K mainGlobals "MAX_SERVICES" = some (some (.int 12 t_MAX_SERVICES)))
    (v_MAX_TOP : PySem.W.nsIn K mainGlobals "MAX_TOP" = some (some (.int 9 t_MAX_TOP)))
    : ∃ (fd : FuncData) (G : Gc) (m : FD), G.K = K ∧ (∀ (s : Shared) (u : Value), BindsTo s fd ⟨[u], []⟩ [("_law_script", u)]) ∧ (∀ sl r, m sl = some r → sl.length = 1) ∧ (∀ ns : List Int, ns.length ≤ 63 → ∃ os, m [.val (.scr ns)] = some (.ok (.val (.bl true)), os)) ∧
      ∀ ba : Heap, K.In ba → ba.Ns mainGlobals mg → FnG P w K mg ba 7 fa fd ["_law_script"] (spG G 1 m) :=
  (all_fx X G aC_Catalog pg_Catalog hd_Catalog po_Catalog sa_Catalog ha_Catalog hm_Catalog nb_Catalog mk_Catalog kc_Catalog na_Catalog_services kb_Catalog_bool kb_Catalog_int kb_Catalog_str kb_Catalog_tuple kb_Catalog_list kb_Catalog_dict kt_Catalog_NoneType kt_Catalog_bool kt_Catalog_int kt_Catalog_str kt_Catalog_tuple kt_Catalog_list kt_Catalog_dict ii_Catalog_Catalog hn ht a__law_source l__law_source c__law_source k__law_source a__law_cell l__law_cell c__law_cell k__law_cell a__law_draw l__law_draw c__law_draw k__law_draw a__law_names l__law_names c__law_names k__law_names a__law_services l__law_services c__law_services k__law_services a_is_integer l_is_integer c_is_integer k_is_integer a_is_name l_is_name c_is_name k_is_name a_is_service l_is_service c_is_service k_is_service a_Catalog___init__ i_Catalog___init__ l_Catalog___init__ c_Catalog___init__ k_Catalog___init__ a_Catalog_names i_Catalog_names l_Catalog_names c_Catalog_names k_Catalog_names a_Catalog_top_of i_Catalog_top_of l_Catalog_top_of c_Catalog_top_of k_Catalog_top_of a_Catalog___len__ i_Catalog___len__ l_Catalog___len__ c_Catalog___len__ k_Catalog___len__ a_Catalog___repr__ i_Catalog___repr__ l_Catalog___repr__ c_Catalog___repr__ k_Catalog___repr__ a__law_right l__law_right c__law_right k__law_right a_law l_law c_law k_law z_abs z_all z_bool z_divmod z_enumerate z_int z_isinstance z_len z_max z_min z_range z_repr z_sorted z_str z_tuple v_LETTERS v_MAX_LETTERS v_MAX_SERVICES v_MAX_TOP).elim fun x => law_end x hmg pure
end Lwk01

namespace Lwk01
open PySem PySem.Spec PyProof.Rows L2 Pd
theorem bm1 (x j : Int) : bMul (x % 1000000103) j = true := by
  unfold bMul
  rw [Bool.or_eq_true_iff, Bool.and_eq_true_iff]
  exact .inl ⟨decide_eq_true (by omega), decide_eq_true (by omega)⟩
theorem bm0 (x j : Int) (h0 : 0 ≤ x) (h1 : x < 1000000103) : bMul x j = true := by
  unfold bMul
  rw [Bool.or_eq_true_iff, Bool.and_eq_true_iff]
  exact .inl ⟨decide_eq_true (by omega), decide_eq_true (by omega)⟩
theorem bm2 (j : Int) : bMul 70019 j = true := rfl
theorem bm3 (j : Int) : bMul 70001 j = true := rfl
theorem bm4 (j : Int) : bMul 9 j = true := rfl
theorem draw_ok (a b c n : Int) (hn : 0 < n) (hn2 : n < 1073741824) : ∃ a' b' c' d, d__law_draw [.bor (.lst [.int a, .int b, .int c]), .val (.int n)] = some (.ok (.val (.int d)), [some (.lst [.int a', .int b', .int c']), none]) ∧ 0 ≤ d ∧ d < n := by
  unfold d__law_draw b__law_draw
  by_cases ha : 0 < a
  · simp only [kE_ok, kE_err, kV_val, kV_new, s_bindR, s_bindV, s_cC, s_ret, s_cVar, s_varV, s_varO, s_varB, s_peekV, s_peekN, s_peekR, s_pkV, s_pkO, s_pkB, s_toVR, s_tvV, s_tvO, s_toVV, s_toVN, s_toDl, s_toDi, s_done, s_outV, s_outN, s_op2, s_op2F, s_op2K, s_op1, s_op1K, s_evs0, s_evsV, s_evsR, s_cB, s_bK, s_bK2, s_pks0, s_pksV, s_pksO, s_pkC, s_map, s_tup, s_lst, s_tupK, s_lstK, s_vals0, s_valsV, s_onB, s_bF, s_not, s_and, s_or, s_if, s_truth, s_itT, s_itF, sE_ok, sE_err, sV_val, sV_new, s_onE, s_onV, s_nop, s_seq, s_sqN, s_sqR, s_sqE, s_drop, s_retS, s_ifS, s_ifF, s_setV, s_setN, s_set, s_asg, s_asgK, s_tName, s_obK, s_tTup, s_ts0, s_tsC, s_call, s_callE, s_endV, s_endN, s_getS, s_gkO, s_gkB, s_gkV, s_putS, s_pkkO, s_pkkB, s_subL, s_subK, s_tSub, s_toSl0, s_toSlV, s_toSlO, s_toSlR, s_callK, s_pb0, s_pbN, s_pbS, s_out0, s_outB, s_outW, s_clV, s_clN, s_clR, s_clkV, s_clkO, s_rkN, s_rkR, s_rkE, s_run0, s_run1, s_run2, s_run3, s_run4, s_run5, s_run6, s_rp0, s_rpS, s_at3a, s_at3b, s_at3c, s_at2a, s_at2b, s_ix30, s_ix31, s_ix32, s_sl, s_slF, s_part0, s_partS, s_ptF, s_strM, s_stF, s_onIt, s_itK, s_for, s_forK, s_lc, s_lcK, s_rng1, s_rgK, s_methV, s_onIns, s_mkR, s_mkK, s_makeE, s_make, s_fldK, s_fld, s_apR, s_apL, s_apK, s_app, s_ch2, s_chT, s_chF, s_chFF, s_chain, s_wipe, s_rest, s_ov0, s_ovS, s_co0, s_coS, s_okC0, s_okCS, s_okN, s_okV, s_fV, s_lcStep, s_eqI, s_neI, s_eqS, s_neS, List.length_cons, List.length_nil, List.map_cons, List.map_nil, List.cons_append, List.nil_append, List.append_nil, List.getElem?_cons_zero, List.getElem?_cons_succ, List.set_cons_zero, List.set_cons_succ, List.filterMap_cons, List.filterMap_nil, id, s_itT, s_itF, Bool.false_eq_true, if_true, if_false, Nat.reduceAdd, Nat.zero_add, Nat.reduceLT, Nat.reduceEqDiff, Nat.reduceLeDiff, Int.reduceLT, Int.reduceLE, Int.reduceNeg, Int.reduceAdd, Int.reduceMul, Int.reduceMod, and_self, and_true, true_and, List.nodup_cons, List.nodup_nil, List.not_mem_nil, not_false_eq_true, gIx, gAdd, vI, gGt, gCmp, decide_eq_true ha, gDivmod, hn, hn2, and_self, vB]
    exact ⟨_, _, _, _, rfl, Int.emod_nonneg _ (by omega), Int.emod_lt_of_pos _ hn⟩
  · simp only [kE_ok, kE_err, kV_val, kV_new, s_bindR, s_bindV, s_cC, s_ret, s_cVar, s_varV, s_varO, s_varB, s_peekV, s_peekN, s_peekR, s_pkV, s_pkO, s_pkB, s_toVR, s_tvV, s_tvO, s_toVV, s_toVN, s_toDl, s_toDi, s_done, s_outV, s_outN, s_op2, s_op2F, s_op2K, s_op1, s_op1K, s_evs0, s_evsV, s_evsR, s_cB, s_bK, s_bK2, s_pks0, s_pksV, s_pksO, s_pkC, s_map, s_tup, s_lst, s_tupK, s_lstK, s_vals0, s_valsV, s_onB, s_bF, s_not, s_and, s_or, s_if, s_truth, s_itT, s_itF, sE_ok, sE_err, sV_val, sV_new, s_onE, s_onV, s_nop, s_seq, s_sqN, s_sqR, s_sqE, s_drop, s_retS, s_ifS, s_ifF, s_setV, s_setN, s_set, s_asg, s_asgK, s_tName, s_obK, s_tTup, s_ts0, s_tsC, s_call, s_callE, s_endV, s_endN, s_getS, s_gkO, s_gkB, s_gkV, s_putS, s_pkkO, s_pkkB, s_subL, s_subK, s_tSub, s_toSl0, s_toSlV, s_toSlO, s_toSlR, s_callK, s_pb0, s_pbN, s_pbS, s_out0, s_outB, s_outW, s_clV, s_clN, s_clR, s_clkV, s_clkO, s_rkN, s_rkR, s_rkE, s_run0, s_run1, s_run2, s_run3, s_run4, s_run5, s_run6, s_rp0, s_rpS, s_at3a, s_at3b, s_at3c, s_at2a, s_at2b, s_ix30, s_ix31, s_ix32, s_sl, s_slF, s_part0, s_partS, s_ptF, s_strM, s_stF, s_onIt, s_itK, s_for, s_forK, s_lc, s_lcK, s_rng1, s_rgK, s_methV, s_onIns, s_mkR, s_mkK, s_makeE, s_make, s_fldK, s_fld, s_apR, s_apL, s_apK, s_app, s_ch2, s_chT, s_chF, s_chFF, s_chain, s_wipe, s_rest, s_ov0, s_ovS, s_co0, s_coS, s_okC0, s_okCS, s_okN, s_okV, s_fV, s_lcStep, s_eqI, s_neI, s_eqS, s_neS, List.length_cons, List.length_nil, List.map_cons, List.map_nil, List.cons_append, List.nil_append, List.append_nil, List.getElem?_cons_zero, List.getElem?_cons_succ, List.set_cons_zero, List.set_cons_succ, List.filterMap_cons, List.filterMap_nil, id, s_itT, s_itF, Bool.false_eq_true, if_true, if_false, Nat.reduceAdd, Nat.zero_add, Nat.reduceLT, Nat.reduceEqDiff, Nat.reduceLeDiff, Int.reduceLT, Int.reduceLE, Int.reduceNeg, Int.reduceAdd, Int.reduceMul, Int.reduceMod, and_self, and_true, true_and, List.nodup_cons, List.nodup_nil, List.not_mem_nil, not_false_eq_true, gIx, gAdd, vI, gGt, gCmp, decide_eq_false ha, gMod, gFdiv, gMulA, bm1, bm2, hn, hn2, vB]
    exact ⟨_, _, _, _, rfl, Int.emod_nonneg _ (by omega), Int.emod_lt_of_pos _ hn⟩
theorem source_ok (c : Int) : ∃ a b, d__law_source [.val (.int c)] = some (.ok (.new (.lst [.int a, .int b, .int 0])), [none]) := by
  unfold d__law_source b__law_source
  have l3 : 3 ≤ LIM := by decide
  by_cases h0 : c < 0
  · simp only [kE_ok, kE_err, kV_val, kV_new, s_bindR, s_bindV, s_cC, s_ret, s_cVar, s_varV, s_varO, s_varB, s_peekV, s_peekN, s_peekR, s_pkV, s_pkO, s_pkB, s_toVR, s_tvV, s_tvO, s_toVV, s_toVN, s_toDl, s_toDi, s_done, s_outV, s_outN, s_op2, s_op2F, s_op2K, s_op1, s_op1K, s_evs0, s_evsV, s_evsR, s_cB, s_bK, s_bK2, s_pks0, s_pksV, s_pksO, s_pkC, s_map, s_tup, s_lst, s_tupK, s_lstK, s_vals0, s_valsV, s_onB, s_bF, s_not, s_and, s_or, s_if, s_truth, s_itT, s_itF, sE_ok, sE_err, sV_val, sV_new, s_onE, s_onV, s_nop, s_seq, s_sqN, s_sqR, s_sqE, s_drop, s_retS, s_ifS, s_ifF, s_setV, s_setN, s_set, s_asg, s_asgK, s_tName, s_obK, s_tTup, s_ts0, s_tsC, s_call, s_callE, s_endV, s_endN, s_getS, s_gkO, s_gkB, s_gkV, s_putS, s_pkkO, s_pkkB, s_subL, s_subK, s_tSub, s_toSl0, s_toSlV, s_toSlO, s_toSlR, s_callK, s_pb0, s_pbN, s_pbS, s_out0, s_outB, s_outW, s_clV, s_clN, s_clR, s_clkV, s_clkO, s_rkN, s_rkR, s_rkE, s_run0, s_run1, s_run2, s_run3, s_run4, s_run5, s_run6, s_rp0, s_rpS, s_at3a, s_at3b, s_at3c, s_at2a, s_at2b, s_ix30, s_ix31, s_ix32, s_sl, s_slF, s_part0, s_partS, s_ptF, s_strM, s_stF, s_onIt, s_itK, s_for, s_forK, s_lc, s_lcK, s_rng1, s_rgK, s_methV, s_onIns, s_mkR, s_mkK, s_makeE, s_make, s_fldK, s_fld, s_apR, s_apL, s_apK, s_app, s_ch2, s_chT, s_chF, s_chFF, s_chain, s_wipe, s_rest, s_ov0, s_ovS, s_co0, s_coS, s_okC0, s_okCS, s_okN, s_okV, s_fV, s_lcStep, s_eqI, s_neI, s_eqS, s_neS, List.length_cons, List.length_nil, List.map_cons, List.map_nil, List.cons_append, List.nil_append, List.append_nil, List.getElem?_cons_zero, List.getElem?_cons_succ, List.set_cons_zero, List.set_cons_succ, List.filterMap_cons, List.filterMap_nil, id, s_itT, s_itF, Bool.false_eq_true, if_true, if_false, Nat.reduceAdd, Nat.zero_add, Nat.reduceLT, Nat.reduceEqDiff, Nat.reduceLeDiff, Int.reduceLT, Int.reduceLE, Int.reduceNeg, Int.reduceAdd, Int.reduceMul, Int.reduceMod, and_self, and_true, true_and, List.nodup_cons, List.nodup_nil, List.not_mem_nil, not_false_eq_true, gIx, gAdd, vI, gLt, gGe, gCmp, decide_eq_true h0, gMod, gFdiv, gMulA, bm1, bm2, vB, gAbs, gPow, l3]
    exact ⟨_, _, rfl⟩
  · by_cases h1 : 10 ^ 18 ≤ c
    · simp only [kE_ok, kE_err, kV_val, kV_new, s_bindR, s_bindV, s_cC, s_ret, s_cVar, s_varV, s_varO, s_varB, s_peekV, s_peekN, s_peekR, s_pkV, s_pkO, s_pkB, s_toVR, s_tvV, s_tvO, s_toVV, s_toVN, s_toDl, s_toDi, s_done, s_outV, s_outN, s_op2, s_op2F, s_op2K, s_op1, s_op1K, s_evs0, s_evsV, s_evsR, s_cB, s_bK, s_bK2, s_pks0, s_pksV, s_pksO, s_pkC, s_map, s_tup, s_lst, s_tupK, s_lstK, s_vals0, s_valsV, s_onB, s_bF, s_not, s_and, s_or, s_if, s_truth, s_itT, s_itF, sE_ok, sE_err, sV_val, sV_new, s_onE, s_onV, s_nop, s_seq, s_sqN, s_sqR, s_sqE, s_drop, s_retS, s_ifS, s_ifF, s_setV, s_setN, s_set, s_asg, s_asgK, s_tName, s_obK, s_tTup, s_ts0, s_tsC, s_call, s_callE, s_endV, s_endN, s_getS, s_gkO, s_gkB, s_gkV, s_putS, s_pkkO, s_pkkB, s_subL, s_subK, s_tSub, s_toSl0, s_toSlV, s_toSlO, s_toSlR, s_callK, s_pb0, s_pbN, s_pbS, s_out0, s_outB, s_outW, s_clV, s_clN, s_clR, s_clkV, s_clkO, s_rkN, s_rkR, s_rkE, s_run0, s_run1, s_run2, s_run3, s_run4, s_run5, s_run6, s_rp0, s_rpS, s_at3a, s_at3b, s_at3c, s_at2a, s_at2b, s_ix30, s_ix31, s_ix32, s_sl, s_slF, s_part0, s_partS, s_ptF, s_strM, s_stF, s_onIt, s_itK, s_for, s_forK, s_lc, s_lcK, s_rng1, s_rgK, s_methV, s_onIns, s_mkR, s_mkK, s_makeE, s_make, s_fldK, s_fld, s_apR, s_apL, s_apK, s_app, s_ch2, s_chT, s_chF, s_chFF, s_chain, s_wipe, s_rest, s_ov0, s_ovS, s_co0, s_coS, s_okC0, s_okCS, s_okN, s_okV, s_fV, s_lcStep, s_eqI, s_neI, s_eqS, s_neS, List.length_cons, List.length_nil, List.map_cons, List.map_nil, List.cons_append, List.nil_append, List.append_nil, List.getElem?_cons_zero, List.getElem?_cons_succ, List.set_cons_zero, List.set_cons_succ, List.filterMap_cons, List.filterMap_nil, id, s_itT, s_itF, Bool.false_eq_true, if_true, if_false, Nat.reduceAdd, Nat.zero_add, Nat.reduceLT, Nat.reduceEqDiff, Nat.reduceLeDiff, Int.reduceLT, Int.reduceLE, Int.reduceNeg, Int.reduceAdd, Int.reduceMul, Int.reduceMod, and_self, and_true, true_and, List.nodup_cons, List.nodup_nil, List.not_mem_nil, not_false_eq_true, gIx, gAdd, vI, gLt, gGe, gCmp, decide_eq_false h0, gMod, gFdiv, gMulA, bm1, bm2, vB, gAbs, gPow, l3, decide_eq_true h1, show (10 : Int).natAbs < 2 ^ 64 from by decide, show Int.toNat 18 = 18 from rfl]
      exact ⟨_, _, rfl⟩
    · simp only [kE_ok, kE_err, kV_val, kV_new, s_bindR, s_bindV, s_cC, s_ret, s_cVar, s_varV, s_varO, s_varB, s_peekV, s_peekN, s_peekR, s_pkV, s_pkO, s_pkB, s_toVR, s_tvV, s_tvO, s_toVV, s_toVN, s_toDl, s_toDi, s_done, s_outV, s_outN, s_op2, s_op2F, s_op2K, s_op1, s_op1K, s_evs0, s_evsV, s_evsR, s_cB, s_bK, s_bK2, s_pks0, s_pksV, s_pksO, s_pkC, s_map, s_tup, s_lst, s_tupK, s_lstK, s_vals0, s_valsV, s_onB, s_bF, s_not, s_and, s_or, s_if, s_truth, s_itT, s_itF, sE_ok, sE_err, sV_val, sV_new, s_onE, s_onV, s_nop, s_seq, s_sqN, s_sqR, s_sqE, s_drop, s_retS, s_ifS, s_ifF, s_setV, s_setN, s_set, s_asg, s_asgK, s_tName, s_obK, s_tTup, s_ts0, s_tsC, s_call, s_callE, s_endV, s_endN, s_getS, s_gkO, s_gkB, s_gkV, s_putS, s_pkkO, s_pkkB, s_subL, s_subK, s_tSub, s_toSl0, s_toSlV, s_toSlO, s_toSlR, s_callK, s_pb0, s_pbN, s_pbS, s_out0, s_outB, s_outW, s_clV, s_clN, s_clR, s_clkV, s_clkO, s_rkN, s_rkR, s_rkE, s_run0, s_run1, s_run2, s_run3, s_run4, s_run5, s_run6, s_rp0, s_rpS, s_at3a, s_at3b, s_at3c, s_at2a, s_at2b, s_ix30, s_ix31, s_ix32, s_sl, s_slF, s_part0, s_partS, s_ptF, s_strM, s_stF, s_onIt, s_itK, s_for, s_forK, s_lc, s_lcK, s_rng1, s_rgK, s_methV, s_onIns, s_mkR, s_mkK, s_makeE, s_make, s_fldK, s_fld, s_apR, s_apL, s_apK, s_app, s_ch2, s_chT, s_chF, s_chFF, s_chain, s_wipe, s_rest, s_ov0, s_ovS, s_co0, s_coS, s_okC0, s_okCS, s_okN, s_okV, s_fV, s_lcStep, s_eqI, s_neI, s_eqS, s_neS, List.length_cons, List.length_nil, List.map_cons, List.map_nil, List.cons_append, List.nil_append, List.append_nil, List.getElem?_cons_zero, List.getElem?_cons_succ, List.set_cons_zero, List.set_cons_succ, List.filterMap_cons, List.filterMap_nil, id, s_itT, s_itF, Bool.false_eq_true, if_true, if_false, Nat.reduceAdd, Nat.zero_add, Nat.reduceLT, Nat.reduceEqDiff, Nat.reduceLeDiff, Int.reduceLT, Int.reduceLE, Int.reduceNeg, Int.reduceAdd, Int.reduceMul, Int.reduceMod, and_self, and_true, true_and, List.nodup_cons, List.nodup_nil, List.not_mem_nil, not_false_eq_true, gIx, gAdd, vI, gLt, gGe, gCmp, decide_eq_false h0, gMod, gFdiv, gMulA, bm1, bm2, vB, gAbs, gPow, l3, decide_eq_false h1, show (10 : Int).natAbs < 2 ^ 64 from by decide, show Int.toNat 18 = 18 from rfl]
      exact ⟨_, _, rfl⟩
/-! the loop over what has been given -/
theorem loop_inv {t : TGt} {m : DSt} (P : Sv → Prop) (ok : D → Prop) (h : ∀ d env, ok d → P env → ∃ env2, (obK (t d env) fun e => m e) = some (.nx, env2) ∧ P env2) : ∀ (ds : List D) (env : Sv), (∀ d ∈ ds, ok d) → P env → ∃ env', loop t m ds env = some (.nx, env') ∧ P env'
  | [], env, _, p => ⟨env, rfl, p⟩
  | d :: ds, env, hd, p => by
    obtain ⟨e2, h1, p2⟩ := h d env (hd d List.mem_cons_self) p
    obtain ⟨e3, h3, p3⟩ := loop_inv P ok h ds e2 (fun d' h' => hd d' (List.mem_cons_of_mem _ h')) p2
    refine ⟨e3, ?_, p3⟩
    unfold loop
    cases et : t d env with
    | none => rw [et] at h1; cases h1
    | some e1 =>
      rw [et] at h1
      have h1 : m e1 = some (.nx, e2) := h1
      simp only [h1, h3]
theorem cell_ok (ns : List Int) (k : Int) (h0 : 0 ≤ k) (h6 : k < 6) : ∃ c, d__law_cell [.val (.scr ns), .val (.int k)] = some (.ok (.val (.int c)), [none, none]) := by
  unfold d__law_cell b__law_cell
  by_cases hk : k < ns.length
  · obtain ⟨c, hc⟩ : ∃ c, atI ns k = some c := by
      unfold atI ixN
      rw [if_pos h0, if_pos hk]
      have : k.toNat < ns.length := by omega
      exact ⟨ns[k.toNat], List.getElem?_eq_getElem this⟩
    simp only [kE_ok, kE_err, kV_val, kV_new, s_bindR, s_bindV, s_cC, s_ret, s_cVar, s_varV, s_varO, s_varB, s_peekV, s_peekN, s_peekR, s_pkV, s_pkO, s_pkB, s_toVR, s_tvV, s_tvO, s_toVV, s_toVN, s_toDl, s_toDi, s_done, s_outV, s_outN, s_op2, s_op2F, s_op2K, s_op1, s_op1K, s_evs0, s_evsV, s_evsR, s_cB, s_bK, s_bK2, s_pks0, s_pksV, s_pksO, s_pkC, s_map, s_tup, s_lst, s_tupK, s_lstK, s_vals0, s_valsV, s_onB, s_bF, s_not, s_and, s_or, s_if, s_truth, s_itT, s_itF, sE_ok, sE_err, sV_val, sV_new, s_onE, s_onV, s_nop, s_seq, s_sqN, s_sqR, s_sqE, s_drop, s_retS, s_ifS, s_ifF, s_setV, s_setN, s_set, s_asg, s_asgK, s_tName, s_obK, s_tTup, s_ts0, s_tsC, s_call, s_callE, s_endV, s_endN, s_getS, s_gkO, s_gkB, s_gkV, s_putS, s_pkkO, s_pkkB, s_subL, s_subK, s_tSub, s_toSl0, s_toSlV, s_toSlO, s_toSlR, s_callK, s_pb0, s_pbN, s_pbS, s_out0, s_outB, s_outW, s_clV, s_clN, s_clR, s_clkV, s_clkO, s_rkN, s_rkR, s_rkE, s_run0, s_run1, s_run2, s_run3, s_run4, s_run5, s_run6, s_rp0, s_rpS, s_at3a, s_at3b, s_at3c, s_at2a, s_at2b, s_ix30, s_ix31, s_ix32, s_sl, s_slF, s_part0, s_partS, s_ptF, s_strM, s_stF, s_onIt, s_itK, s_for, s_forK, s_lc, s_lcK, s_rng1, s_rgK, s_methV, s_onIns, s_mkR, s_mkK, s_makeE, s_make, s_fldK, s_fld, s_apR, s_apL, s_apK, s_app, s_ch2, s_chT, s_chF, s_chFF, s_chain, s_wipe, s_rest, s_ov0, s_ovS, s_co0, s_coS, s_okC0, s_okCS, s_okN, s_okV, s_fV, s_lcStep, s_eqI, s_neI, s_eqS, s_neS, List.length_cons, List.length_nil, List.map_cons, List.map_nil, List.cons_append, List.nil_append, List.append_nil, List.getElem?_cons_zero, List.getElem?_cons_succ, List.set_cons_zero, List.set_cons_succ, List.filterMap_cons, List.filterMap_nil, id, s_itT, s_itF, Bool.false_eq_true, if_true, if_false, Nat.reduceAdd, Nat.zero_add, Nat.reduceLT, Nat.reduceEqDiff, Nat.reduceLeDiff, Int.reduceLT, Int.reduceLE, Int.reduceNeg, Int.reduceAdd, Int.reduceMul, Int.reduceMod, and_self, and_true, true_and, List.nodup_cons, List.nodup_nil, List.not_mem_nil, not_false_eq_true, gIx, gLt, gCmp, gLen, lenD, decide_eq_true hk, hc, vB]
    exact ⟨_, rfl⟩
  · have bk : bMul k k = true := bm0 k k h0 (by omega)
    obtain ⟨env', hl, m, x, rfl, _, _⟩ := loop_inv (t := tName 3) (m := cSet 2 (cOp2 gMod (cOp2 gAdd (cOp2 gMulA (cVar 2) (cC (.int 41011))) (cVar 3)) (cC (.int 1000000103)))) (fun env => ∃ (m : Int) (x : Option Sl), env = [some (.val (.scr ns)), some (.val (.int k)), some (.val (.int m)), x] ∧ 0 ≤ m ∧ m < 1000000103) (fun d => ∃ i, d = .int i)
      (by
        rintro _ _ ⟨i, rfl⟩ ⟨m, x, rfl, m0, m1⟩
        refine ⟨[some (.val (.scr ns)), some (.val (.int k)), some (.val (.int ((m * 41011 + i) % 1000000103))), some (.val (.int i))], ?_, ?_⟩
        · simp only [kE_ok, kE_err, kV_val, kV_new, s_bindR, s_bindV, s_cC, s_ret, s_cVar, s_varV, s_varO, s_varB, s_peekV, s_peekN, s_peekR, s_pkV, s_pkO, s_pkB, s_toVR, s_tvV, s_tvO, s_toVV, s_toVN, s_toDl, s_toDi, s_done, s_outV, s_outN, s_op2, s_op2F, s_op2K, s_op1, s_op1K, s_evs0, s_evsV, s_evsR, s_cB, s_bK, s_bK2, s_pks0, s_pksV, s_pksO, s_pkC, s_map, s_tup, s_lst, s_tupK, s_lstK, s_vals0, s_valsV, s_onB, s_bF, s_not, s_and, s_or, s_if, s_truth, s_itT, s_itF, sE_ok, sE_err, sV_val, sV_new, s_onE, s_onV, s_nop, s_seq, s_sqN, s_sqR, s_sqE, s_drop, s_retS, s_ifS, s_ifF, s_setV, s_setN, s_set, s_asg, s_asgK, s_tName, s_obK, s_tTup, s_ts0, s_tsC, s_call, s_callE, s_endV, s_endN, s_getS, s_gkO, s_gkB, s_gkV, s_putS, s_pkkO, s_pkkB, s_subL, s_subK, s_tSub, s_toSl0, s_toSlV, s_toSlO, s_toSlR, s_callK, s_pb0, s_pbN, s_pbS, s_out0, s_outB, s_outW, s_clV, s_clN, s_clR, s_clkV, s_clkO, s_rkN, s_rkR, s_rkE, s_run0, s_run1, s_run2, s_run3, s_run4, s_run5, s_run6, s_rp0, s_rpS, s_at3a, s_at3b, s_at3c, s_at2a, s_at2b, s_ix30, s_ix31, s_ix32, s_sl, s_slF, s_part0, s_partS, s_ptF, s_strM, s_stF, s_onIt, s_itK, s_for, s_forK, s_lc, s_lcK, s_rng1, s_rgK, s_methV, s_onIns, s_mkR, s_mkK, s_makeE, s_make, s_fldK, s_fld, s_apR, s_apL, s_apK, s_app, s_ch2, s_chT, s_chF, s_chFF, s_chain, s_wipe, s_rest, s_ov0, s_ovS, s_co0, s_coS, s_okC0, s_okCS, s_okN, s_okV, s_fV, s_lcStep, s_eqI, s_neI, s_eqS, s_neS, List.length_cons, List.length_nil, List.map_cons, List.map_nil, List.cons_append, List.nil_append, List.append_nil, List.getElem?_cons_zero, List.getElem?_cons_succ, List.set_cons_zero, List.set_cons_succ, List.filterMap_cons, List.filterMap_nil, id, s_itT, s_itF, Bool.false_eq_true, if_true, if_false, Nat.reduceAdd, Nat.zero_add, Nat.reduceLT, Nat.reduceEqDiff, Nat.reduceLeDiff, Int.reduceLT, Int.reduceLE, Int.reduceNeg, Int.reduceAdd, Int.reduceMul, Int.reduceMod, and_self, and_true, true_and, List.nodup_cons, List.nodup_nil, List.not_mem_nil, not_false_eq_true, gAdd, gMulA, gMod, vI, bm0 m _ m0 m1]
        · exact ⟨_, _, rfl, Int.emod_nonneg _ (by decide), Int.emod_lt_of_pos _ (by decide)⟩)
      ((cut ns none (some 4)).map .int) [some (.val (.scr ns)), some (.val (.int k)), some (.val (.int (70001 * (k * k + 9 * k + 5) % 1000000103))), none] (by
        intro d hd
        obtain ⟨i, _, rfl⟩ := List.mem_map.mp hd
        exact ⟨i, rfl⟩) ⟨_, _, rfl, Int.emod_nonneg _ (by decide), Int.emod_lt_of_pos _ (by decide)⟩
    simp only [kE_ok, kE_err, kV_val, kV_new, s_bindR, s_bindV, s_cC, s_ret, s_cVar, s_varV, s_varO, s_varB, s_peekV, s_peekN, s_peekR, s_pkV, s_pkO, s_pkB, s_toVR, s_tvV, s_tvO, s_toVV, s_toVN, s_toDl, s_toDi, s_done, s_outV, s_outN, s_op2, s_op2F, s_op2K, s_op1, s_op1K, s_evs0, s_evsV, s_evsR, s_cB, s_bK, s_bK2, s_pks0, s_pksV, s_pksO, s_pkC, s_map, s_tup, s_lst, s_tupK, s_lstK, s_vals0, s_valsV, s_onB, s_bF, s_not, s_and, s_or, s_if, s_truth, s_itT, s_itF, sE_ok, sE_err, sV_val, sV_new, s_onE, s_onV, s_nop, s_seq, s_sqN, s_sqR, s_sqE, s_drop, s_retS, s_ifS, s_ifF, s_setV, s_setN, s_set, s_asg, s_asgK, s_tName, s_obK, s_tTup, s_ts0, s_tsC, s_call, s_callE, s_endV, s_endN, s_getS, s_gkO, s_gkB, s_gkV, s_putS, s_pkkO, s_pkkB, s_subL, s_subK, s_tSub, s_toSl0, s_toSlV, s_toSlO, s_toSlR, s_callK, s_pb0, s_pbN, s_pbS, s_out0, s_outB, s_outW, s_clV, s_clN, s_clR, s_clkV, s_clkO, s_rkN, s_rkR, s_rkE, s_run0, s_run1, s_run2, s_run3, s_run4, s_run5, s_run6, s_rp0, s_rpS, s_at3a, s_at3b, s_at3c, s_at2a, s_at2b, s_ix30, s_ix31, s_ix32, s_sl, s_slF, s_part0, s_partS, s_ptF, s_strM, s_stF, s_onIt, s_itK, s_for, s_forK, s_lc, s_lcK, s_rng1, s_rgK, s_methV, s_onIns, s_mkR, s_mkK, s_makeE, s_make, s_fldK, s_fld, s_apR, s_apL, s_apK, s_app, s_ch2, s_chT, s_chF, s_chFF, s_chain, s_wipe, s_rest, s_ov0, s_ovS, s_co0, s_coS, s_okC0, s_okCS, s_okN, s_okV, s_fV, s_lcStep, s_eqI, s_neI, s_eqS, s_neS, List.length_cons, List.length_nil, List.map_cons, List.map_nil, List.cons_append, List.nil_append, List.append_nil, List.getElem?_cons_zero, List.getElem?_cons_succ, List.set_cons_zero, List.set_cons_succ, List.filterMap_cons, List.filterMap_nil, id, s_itT, s_itF, Bool.false_eq_true, if_true, if_false, Nat.reduceAdd, Nat.zero_add, Nat.reduceLT, Nat.reduceEqDiff, Nat.reduceLeDiff, Int.reduceLT, Int.reduceLE, Int.reduceNeg, Int.reduceAdd, Int.reduceMul, Int.reduceMod, and_self, and_true, true_and, List.nodup_cons, List.nodup_nil, List.not_mem_nil, not_false_eq_true, gIx, gLt, gCmp, gLen, lenD, decide_eq_false hk, vB, gAdd, vI, gMulA, gMod, bm3, bm4, bk, gSl, itAny, hl]
    exact ⟨_, rfl⟩
end Lwk01

namespace Lwk01
open PySem PySem.Spec PyProof.Rows L2 Pd
def good (s : Str) : Prop := 1 ≤ s.length ∧ s.length ≤ 8 ∧ ∀ c ∈ s.cps.toList, 97 ≤ c ∧ c ≤ 122
def asc (l : List Str) : Prop := l.Pairwise fun a b => a.cps.toList < b.cps.toList
theorem str_ext {a b : Str} (h : a.cps.toList = b.cps.toList) : a = b := by
  cases a; cases b
  simp at h
  subst h
  rfl
theorem leS_trans (a b c : Str) (h1 : leS a b = true) (h2 : leS b c = true) : leS a c = true := by
  unfold leS at *
  simp only [Bool.not_eq_true', decide_eq_false_iff_not] at *
  exact List.le_trans (α := Nat) (l₁ := a.cps.toList) (l₂ := b.cps.toList) (l₃ := c.cps.toList) h1 h2
theorem leS_total (a b : Str) : (leS a b || leS b a) = true := by
  unfold leS
  rw [Bool.or_eq_true_iff]
  simp only [Bool.not_eq_true', decide_eq_false_iff_not]
  exact List.le_total (α := Nat) a.cps.toList b.cps.toList
theorem sort_asc {l : List Str} (nd : l.Nodup) : asc (sortS l) := by
  have p := List.pairwise_mergeSort (le := leS) leS_trans leS_total l
  have n : (sortS l).Nodup := (List.mergeSort_perm l leS).nodup_iff.mpr nd
  refine (p.and n).imp ?_
  rintro a b ⟨h, ne⟩
  unfold leS at h
  simp only [Bool.not_eq_true', decide_eq_false_iff_not] at h
  refine Classical.byContradiction fun z => ne (str_ext ?_)
  exact List.le_antisymm (α := Nat) h z
structure Names (ss : List Str) (m : Nat) : Prop where
  len : ss.length = m
  ok : ∀ s ∈ ss, good s
  up : asc ss
theorem names_of {l : List Str} {m : Nat} (h : l.length = m) (g : ∀ s ∈ l, good s) (nd : l.Nodup) : Names (sortS l) m :=
  ⟨by unfold sortS; rw [(List.mergeSort_perm l leS).length_eq]; exact h, fun s hs => g s ((List.mergeSort_perm l leS).mem_iff.mp hs), sort_asc nd⟩
theorem strsD_map : ∀ l : List Str, strsD (l.map .str) = some l
  | [] => rfl
  | s :: l => by
    show (strsD (l.map .str)).map _ = _
    rw [strsD_map l]
    rfl
/-! the words -/
def W12 : List Str := ["worked", "failed", "retract", "deploy", "undo", "verdict", "plan", "current", "evidence", "check", "needs", "none"]
def wordAt (j : Int) : Str := W12.getD j.toNat Str.empty
theorem at_word (j : Int) (h0 : 0 ≤ j) (h1 : j < 12) : atI [D.str "worked", D.str "failed", D.str "retract", D.str "deploy", D.str "undo", D.str "verdict", D.str "plan", D.str "current", D.str "evidence", D.str "check", D.str "needs", D.str "none"] j = some (.str (wordAt j)) := by
  obtain ⟨n, rfl⟩ : ∃ n : Nat, j = n := ⟨j.toNat, by omega⟩
  have : n < 12 := by omega
  match n, this with
  | 0, _ => rfl
  | 1, _ => rfl
  | 2, _ => rfl
  | 3, _ => rfl
  | 4, _ => rfl
  | 5, _ => rfl
  | 6, _ => rfl
  | 7, _ => rfl
  | 8, _ => rfl
  | 9, _ => rfl
  | 10, _ => rfl
  | 11, _ => rfl
theorem good_words : ∀ n, n < 12 → (decide (1 ≤ (wordAt (n : Nat)).length) && decide ((wordAt (n : Nat)).length ≤ 8) && (wordAt (n : Nat)).cps.toList.all fun c => decide (97 ≤ c) && decide (c ≤ 122)) = true := by decide +kernel
theorem good_word (j : Int) (h0 : 0 ≤ j) (h1 : j < 12) : good (wordAt j) := by
  obtain ⟨n, rfl⟩ : ∃ n : Nat, j = n := ⟨j.toNat, by omega⟩
  have := good_words n (by omega)
  rw [Bool.and_eq_true_iff, Bool.and_eq_true_iff, List.all_eq_true] at this
  refine ⟨of_decide_eq_true this.1.1, of_decide_eq_true this.1.2, fun c hc => ?_⟩
  have := this.2 c hc
  rw [Bool.and_eq_true_iff] at this
  exact ⟨of_decide_eq_true this.1, of_decide_eq_true this.2⟩
theorem word_inj : ∀ n, n < 12 → ∀ k, k < 12 → (wordAt (n : Nat)).cps.toList = (wordAt (k : Nat)).cps.toList → n = k := by decide +kernel
theorem word_ne (i j : Int) (h0 : 0 ≤ i) (h1 : i < 12) (g0 : 0 ≤ j) (g1 : j < 12) (h : wordAt i = wordAt j) : i = j := by
  obtain ⟨n, rfl⟩ : ∃ n : Nat, i = n := ⟨i.toNat, by omega⟩
  obtain ⟨k, rfl⟩ : ∃ k : Nat, j = k := ⟨j.toNat, by omega⟩
  have := word_inj n (by omega) k (by omega) (by rw [h])
  omega
/-- a row of texts by the numbers below m, no two alike -/
theorem row_nodup {m : Nat} (g : Int → Str) (h : ∀ i j : Int, 0 ≤ i → i < m → 0 ≤ j → j < m → g i = g j → i = j) : ((List.range m).map fun (i : Nat) => g (0 + (i : Int))).Nodup := by
  rw [List.nodup_iff_pairwise_ne, List.pairwise_map]
  refine List.Pairwise.imp_of_mem ?_ (List.nodup_range (n := m))
  intro a b ha hb hne he
  rw [List.mem_range] at ha hb
  have := h (0 + a) (0 + b) (by omega) (by omega) (by omega) (by omega) he
  omega
theorem sort_row (l : List Str) (h : l.length < 64) : gSortS [.lst (l.map .str)] = some (.new (.lst ((sortS l).map .str))) := by
  show (match strsD (l.map .str) with
    | some ss => if ss.length < 64 then some (Out.new (.lst ((sortS ss).map .str))) else none
    | none => none) = _
  rw [strsD_map]
  exact if_pos h
theorem range_row (m : Int) (g : Int → Str) : (rangeD 0 m).map (fun d => match d with
    | .int k => .str (g k)
    | _ => .non) = (((List.range (m - 0).toNat).map fun (i : Nat) => g (0 + (i : Int))).map D.str) := by
  unfold rangeD
  rw [List.map_map, List.map_map]
  rfl
/-! letters -/
def AZ : Str := "abcdefghijklmnopqrstuvwxyz"
theorem az_at : ∀ n, n < 26 → AZ.cps.toList[(n : Nat)]? = some (97 + n) := by decide +kernel
theorem at_letter (j : Int) (h0 : 0 ≤ j) (h1 : j < 26) : atI (Str.ofString "abcdefghijklmnopqrstuvwxyz").cps.toList j = some (97 + j.toNat) := by
  have hl : (Str.ofString "abcdefghijklmnopqrstuvwxyz").cps.toList.length = 26 := by decide +kernel
  unfold atI ixN
  rw [hl, if_pos h0, if_pos (by omega)]
  exact az_at j.toNat (by omega)
def rowL (b : Nat) (k : Nat) : Str := Txt.mul ⟨#[97 + (b + k / 8) % 26]⟩ ((1 + k % 8 : Nat) : Int)
theorem rowL_good : ∀ b, b < 26 → ∀ k, k < 12 → (decide (1 ≤ (rowL b k).length) && decide ((rowL b k).length ≤ 8) && (rowL b k).cps.toList.all fun c => decide (97 ≤ c) && decide (c ≤ 122)) = true := by decide +kernel
theorem rowL_ne : ∀ b, b < 26 → ∀ k, k < 12 → ∀ j, j < 12 → (rowL b k).cps.toList = (rowL b j).cps.toList → k = j := by decide +kernel
def rowI (b k : Int) : Str := Txt.mul ⟨#[97 + ((b + k / 8) % 26).toNat]⟩ (1 + k % 8)
theorem rowI_eq (b k : Int) (b0 : 0 ≤ b) (k0 : 0 ≤ k) : rowI b k = rowL b.toNat k.toNat := by
  unfold rowI rowL
  have e1 : ((b + k / 8) % 26).toNat = (b.toNat + k.toNat / 8) % 26 := by omega
  have e2 : (1 + k % 8 : Int) = ((1 + k.toNat % 8 : Nat) : Int) := by omega
  rw [e1, e2]
/-! a stem of letters -/
theorem app_cps (a b : Str) : (a ++ b).cps.toList = a.cps.toList ++ b.cps.toList := Array.toList_append
theorem len_cps (a : Str) : a.length = a.cps.toList.length := rfl
theorem join_cps : ∀ l : List Str, (Str.join (Str.ofString "") l).cps.toList = (l.map fun s => s.cps.toList).flatten
  | [] => rfl
  | [x] => by simp [Str.join]
  | x :: y :: r => by
    show (x ++ Str.ofString "" ++ Str.join (Str.ofString "") (y :: r)).cps.toList = _
    rw [app_cps, app_cps, join_cps (y :: r)]
    have : (Str.ofString "").cps.toList = [] := by decide +kernel
    rw [this, List.append_nil]
    rfl
def isL (d : D) : Prop := ∃ n : Nat, n < 26 ∧ d = .str ⟨#[97 + n]⟩
theorem stem_of : ∀ es : List D, (∀ y ∈ es, isL y) → ∃ ss, strsD es = some ss ∧ ss.length = es.length ∧ (Str.join (Str.ofString "") ss).length = es.length ∧ (ss.map (·.length)).sum = es.length ∧ ∀ c ∈ (Str.join (Str.ofString "") ss).cps.toList, 97 ≤ c ∧ c ≤ 122 := fun es h => by
  have key : ∀ es : List D, (∀ y ∈ es, isL y) → ∃ ss : List Str, strsD es = some ss ∧ ss.length = es.length ∧ ((ss.map fun s => s.cps.toList).flatten).length = es.length ∧ (ss.map (·.length)).sum = es.length ∧ ∀ c ∈ (ss.map fun s => s.cps.toList).flatten, 97 ≤ c ∧ c ≤ 122 := by
    intro es
    induction es with
    | nil => exact fun _ => ⟨[], rfl, rfl, rfl, rfl, fun c h => by simp at h⟩
    | cons d es ih =>
      intro h
      obtain ⟨ss, h1, h2, h3, h4, h5⟩ := ih fun y hy => h y (List.mem_cons_of_mem _ hy)
      obtain ⟨n, hn, rfl⟩ := h d List.mem_cons_self
      refine ⟨⟨#[97 + n]⟩ :: ss, ?_, by rw [List.length_cons, List.length_cons, h2], ?_, ?_, ?_⟩
      · show (strsD es).map _ = _
        rw [h1]
        rfl
      · rw [List.map_cons, List.flatten_cons, List.length_append, h3]
        show 1 + es.length = es.length + 1
        omega
      · show ((⟨#[97 + n]⟩ : Str).length :: ss.map (·.length)).sum = es.length + 1
        rw [List.sum_cons, h4]
        show 1 + es.length = es.length + 1
        omega
      · intro c hc
        rw [List.map_cons, List.flatten_cons] at hc
        rcases List.mem_append.mp hc with hc | hc
        · have hc : c ∈ [97 + n] := hc
          rw [List.mem_singleton] at hc
          omega
        · exact h5 c hc
  obtain ⟨ss, h1, h2, h3, h4, h5⟩ := key es h
  exact ⟨ss, h1, h2, by rw [len_cps, join_cps, h3], h4, by rw [join_cps]; exact h5⟩
theorem cut_lo (z : Str) (i : Int) (h0 : 0 ≤ i) (h1 : i ≤ z.length) : (cutS z none (some i)).cps.toList = z.cps.toList.take i.toNat := by
  obtain ⟨n, rfl⟩ : ∃ n : Nat, i = n := ⟨i.toNat, by omega⟩
  have hn : n ≤ z.length := by omega
  unfold cutS
  rw [HT.sIx_none, HT.sIx_nat, Nat.min_eq_left hn, Nat.sub_zero, List.drop_zero]
  rfl
theorem cut_hi (z : Str) (i : Int) (h0 : 0 ≤ i) (h1 : i ≤ z.length) : (cutS z (some i) none).cps.toList = z.cps.toList.drop i.toNat := by
  obtain ⟨n, rfl⟩ : ∃ n : Nat, i = n := ⟨i.toNat, by omega⟩
  have hn : n ≤ z.length := by omega
  unfold cutS
  rw [HT.sIx_none, HT.sIx_nat, Nat.min_eq_left hn]
  show (z.cps.toList.drop n).take (z.length - n) = z.cps.toList.drop n
  exact List.take_of_length_le (by rw [List.length_drop]; exact Nat.le_refl _)
def rowS (z : Str) (cut b st k : Int) : Str := cutS z none (some cut) ++ ⟨#[97 + ((b + st * k) % 26).toNat]⟩ ++ cutS z (some cut) none
theorem rowS_cps {z : Str} {cut b st k : Int} (h0 : 0 ≤ cut) (h1 : cut ≤ z.length) : (rowS z cut b st k).cps.toList = z.cps.toList.take cut.toNat ++ ([97 + ((b + st * k) % 26).toNat] ++ z.cps.toList.drop cut.toNat) := by
  unfold rowS
  rw [app_cps, app_cps, cut_lo z cut h0 h1, cut_hi z cut h0 h1, List.append_assoc]
theorem rowS_good {z : Str} {cut b st k : Int} (h0 : 0 ≤ cut) (h1 : cut ≤ z.length) (hz : z.length ≤ 7) (hl : ∀ c ∈ z.cps.toList, 97 ≤ c ∧ c ≤ 122) : good (rowS z cut b st k) := by
  have e := rowS_cps (b := b) (st := st) (k := k) h0 h1
  have ln : (rowS z cut b st k).length = z.length + 1 := by
    rw [len_cps, e, List.length_append, List.length_append, List.length_take, List.length_drop, len_cps, List.length_singleton]
    have : cut.toNat ≤ z.cps.toList.length := by rw [← len_cps]; omega
    omega
  refine ⟨by omega, by omega, fun c hc => ?_⟩
  rw [e] at hc
  rcases List.mem_append.mp hc with hc | hc
  · exact hl c (List.mem_of_mem_take hc)
  · rcases List.mem_append.mp hc with hc | hc
    · rw [List.mem_singleton] at hc
      have := Int.emod_lt_of_pos (b + st * k) (show (0 : Int) < 26 by decide)
      have := Int.emod_nonneg (b + st * k) (show (26 : Int) ≠ 0 by decide)
      omega
    · exact hl c (List.mem_of_mem_drop hc)
theorem rowS_ne {z : Str} {cut b st i j : Int} (h0 : 0 ≤ cut) (h1 : cut ≤ z.length) (h : rowS z cut b st i = rowS z cut b st j) : (b + st * i) % 26 = (b + st * j) % 26 := by
  have e : (rowS z cut b st i).cps.toList = (rowS z cut b st j).cps.toList := by rw [h]
  rw [rowS_cps h0 h1, rowS_cps h0 h1] at e
  have e := List.append_cancel_left e
  have e : 97 + ((b + st * i) % 26).toNat = 97 + ((b + st * j) % 26).toNat := (List.cons.inj e).1
  have := Int.emod_nonneg (b + st * i) (show (26 : Int) ≠ 0 by decide)
  have := Int.emod_nonneg (b + st * j) (show (26 : Int) ≠ 0 by decide)
  omega
theorem names_ok (a b c m : Int) (h1 : 1 ≤ m) (h2 : m ≤ 12) : ∃ a' b' c' ss, d__law_names [.bor (.lst [.int a, .int b, .int c]), .val (.int m)] = some (.ok (.new (.lst (ss.map .str))), [some (.lst [.int a', .int b', .int c']), none]) ∧ Names ss m.toNat := by
  obtain ⟨a1, b1, c1, e1, r1, p1, q1⟩ := draw_ok a b c 12 (by decide) (by decide)
  obtain ⟨a2, b2, c2, e2, r2, p2, q2⟩ := draw_ok a1 b1 c1 4 (by decide) (by decide)
  obtain ⟨a3, b3, c3, e3, r3, p3, q3⟩ := draw_ok a2 b2 c2 4 (by decide) (by decide)
  obtain ⟨st, hst, hs⟩ : ∃ st, atI [D.int 1, D.int 5, D.int 7, D.int 11] e2 = some (.int st) ∧ (st = 1 ∨ st = 5 ∨ st = 7 ∨ st = 11) := by
    have : e2 = 0 ∨ e2 = 1 ∨ e2 = 2 ∨ e2 = 3 := by omega
    rcases this with rfl | rfl | rfl | rfl <;> exact ⟨_, rfl, by decide⟩
  have k10 : 10 ≤ LIM := by decide
  have k2 : 2 ≤ LIM := by decide
  have k3 : 3 ≤ LIM := by decide
  have k4 : 4 ≤ LIM := by decide
  have k12 : 12 ≤ LIM := by decide
  have rm : -1000000 ≤ m ∧ m ≤ 1000000 := by omega
  have bst : ∀ j, bMul st j = true := fun j => bm0 st j (by omega) (by omega)
  unfold d__law_names b__law_names
  by_cases w1 : e3 = 1
  · subst w1
    have step : ∀ d ∈ rangeD 0 m, lcStep [10] (tName 10) (cOp2 gIx (cVar 2) (cOp2 gMod (cOp2 gAdd (cVar 7) (cOp2 gMulA (cVar 8) (cVar 10))) (cC (D.int 12)))) d
        [some (Sl.bor (O.lst [D.int a3, D.int b3, D.int c3])), some (Sl.val (D.int m)), some (Sl.own (O.lst [D.str "worked", D.str "failed", D.str "retract", D.str "deploy", D.str "undo", D.str "verdict", D.str "plan", D.str "current", D.str "evidence", D.str "check", D.str "needs", D.str "none"])), none, none, none, none, some (Sl.val (D.int e1)), some (Sl.val (D.int st)), some (Sl.val (D.int 1)), none] =
        some ((match d with
          | .int k => .str (wordAt ((e1 + st * k) % 12))
          | _ => .non), [some (Sl.bor (O.lst [D.int a3, D.int b3, D.int c3])), some (Sl.val (D.int m)), some (Sl.own (O.lst [D.str "worked", D.str "failed", D.str "retract", D.str "deploy", D.str "undo", D.str "verdict", D.str "plan", D.str "current", D.str "evidence", D.str "check", D.str "needs", D.str "none"])), none, none, none, none, some (Sl.val (D.int e1)), some (Sl.val (D.int st)), some (Sl.val (D.int 1)), none]) := by
      intro d hd
      obtain ⟨i, hi, rfl⟩ := List.mem_map.mp hd
      have hw := at_word ((e1 + st * (0 + (i : Int))) % 12) (Int.emod_nonneg _ (by decide)) (Int.emod_lt_of_pos _ (by decide))
      simp only [kE_ok, kE_err, kV_val, kV_new, s_bindR, s_bindV, s_cC, s_ret, s_cVar, s_varV, s_varO, s_varB, s_peekV, s_peekN, s_peekR, s_pkV, s_pkO, s_pkB, s_toVR, s_tvV, s_tvO, s_toVV, s_toVN, s_toDl, s_toDi, s_done, s_outV, s_outN, s_op2, s_op2F, s_op2K, s_op1, s_op1K, s_evs0, s_evsV, s_evsR, s_cB, s_bK, s_bK2, s_pks0, s_pksV, s_pksO, s_pkC, s_map, s_tup, s_lst, s_tupK, s_lstK, s_vals0, s_valsV, s_onB, s_bF, s_not, s_and, s_or, s_if, s_truth, s_itT, s_itF, sE_ok, sE_err, sV_val, sV_new, s_onE, s_onV, s_nop, s_seq, s_sqN, s_sqR, s_sqE, s_drop, s_retS, s_ifS, s_ifF, s_setV, s_setN, s_set, s_asg, s_asgK, s_tName, s_obK, s_tTup, s_ts0, s_tsC, s_call, s_callE, s_endV, s_endN, s_getS, s_gkO, s_gkB, s_gkV, s_putS, s_pkkO, s_pkkB, s_subL, s_subK, s_tSub, s_toSl0, s_toSlV, s_toSlO, s_toSlR, s_callK, s_pb0, s_pbN, s_pbS, s_out0, s_outB, s_outW, s_clV, s_clN, s_clR, s_clkV, s_clkO, s_rkN, s_rkR, s_rkE, s_run0, s_run1, s_run2, s_run3, s_run4, s_run5, s_run6, s_rp0, s_rpS, s_at3a, s_at3b, s_at3c, s_at2a, s_at2b, s_ix30, s_ix31, s_ix32, s_sl, s_slF, s_part0, s_partS, s_ptF, s_strM, s_stF, s_onIt, s_itK, s_for, s_forK, s_lc, s_lcK, s_rng1, s_rgK, s_methV, s_onIns, s_mkR, s_mkK, s_makeE, s_make, s_fldK, s_fld, s_apR, s_apL, s_apK, s_app, s_ch2, s_chT, s_chF, s_chFF, s_chain, s_wipe, s_rest, s_ov0, s_ovS, s_co0, s_coS, s_okC0, s_okCS, s_okN, s_okV, s_fV, s_lcStep, s_eqI, s_neI, s_eqS, s_neS, List.length_cons, List.length_nil, List.map_cons, List.map_nil, List.cons_append, List.nil_append, List.append_nil, List.getElem?_cons_zero, List.getElem?_cons_succ, List.set_cons_zero, List.set_cons_succ, List.filterMap_cons, List.filterMap_nil, id, s_itT, s_itF, Bool.false_eq_true, if_true, if_false, Nat.reduceAdd, Nat.zero_add, Nat.reduceLT, Nat.reduceEqDiff, Nat.reduceLeDiff, Int.reduceLT, Int.reduceLE, Int.reduceNeg, Int.reduceAdd, Int.reduceMul, Int.reduceMod, and_self, and_true, true_and, List.nodup_cons, List.nodup_nil, List.not_mem_nil, not_false_eq_true, gAdd, vI, gMulA, bst, gMod, gIx, hw, Nat.reduceBEq, Bool.or_false, Bool.or_true]
    have lc := lcs_map (fun d => match d with
      | .int k => .str (wordAt ((e1 + st * k) % 12))
      | _ => .non) (rangeD 0 m) step
    rw [range_row m fun k => wordAt ((e1 + st * k) % 12)] at lc
    have len : ((List.range (m - 0).toNat).map fun (i : Nat) => wordAt ((e1 + st * (0 + (i : Int))) % 12)).length = m.toNat := by rw [List.length_map, List.length_range]; omega
    have sr := sort_row ((List.range (m - 0).toNat).map fun (i : Nat) => wordAt ((e1 + st * (0 + (i : Int))) % 12)) (by rw [len]; omega)
    simp only [kE_ok, kE_err, kV_val, kV_new, s_bindR, s_bindV, s_cC, s_ret, s_cVar, s_varV, s_varO, s_varB, s_peekV, s_peekN, s_peekR, s_pkV, s_pkO, s_pkB, s_toVR, s_tvV, s_tvO, s_toVV, s_toVN, s_toDl, s_toDi, s_done, s_outV, s_outN, s_op2, s_op2F, s_op2K, s_op1, s_op1K, s_evs0, s_evsV, s_evsR, s_cB, s_bK, s_bK2, s_pks0, s_pksV, s_pksO, s_pkC, s_map, s_tup, s_lst, s_tupK, s_lstK, s_vals0, s_valsV, s_onB, s_bF, s_not, s_and, s_or, s_if, s_truth, s_itT, s_itF, sE_ok, sE_err, sV_val, sV_new, s_onE, s_onV, s_nop, s_seq, s_sqN, s_sqR, s_sqE, s_drop, s_retS, s_ifS, s_ifF, s_setV, s_setN, s_set, s_asg, s_asgK, s_tName, s_obK, s_tTup, s_ts0, s_tsC, s_call, s_callE, s_endV, s_endN, s_getS, s_gkO, s_gkB, s_gkV, s_putS, s_pkkO, s_pkkB, s_subL, s_subK, s_tSub, s_toSl0, s_toSlV, s_toSlO, s_toSlR, s_callK, s_pb0, s_pbN, s_pbS, s_out0, s_outB, s_outW, s_clV, s_clN, s_clR, s_clkV, s_clkO, s_rkN, s_rkR, s_rkE, s_run0, s_run1, s_run2, s_run3, s_run4, s_run5, s_run6, s_rp0, s_rpS, s_at3a, s_at3b, s_at3c, s_at2a, s_at2b, s_ix30, s_ix31, s_ix32, s_sl, s_slF, s_part0, s_partS, s_ptF, s_strM, s_stF, s_onIt, s_itK, s_for, s_forK, s_lc, s_lcK, s_rng1, s_rgK, s_methV, s_onIns, s_mkR, s_mkK, s_makeE, s_make, s_fldK, s_fld, s_apR, s_apL, s_apK, s_app, s_ch2, s_chT, s_chF, s_chFF, s_chain, s_wipe, s_rest, s_ov0, s_ovS, s_co0, s_coS, s_okC0, s_okCS, s_okN, s_okV, s_fV, s_lcStep, s_eqI, s_neI, s_eqS, s_neS, List.length_cons, List.length_nil, List.map_cons, List.map_nil, List.cons_append, List.nil_append, List.append_nil, List.getElem?_cons_zero, List.getElem?_cons_succ, List.set_cons_zero, List.set_cons_succ, List.filterMap_cons, List.filterMap_nil, id, s_itT, s_itF, Bool.false_eq_true, if_true, if_false, Nat.reduceAdd, Nat.zero_add, Nat.reduceLT, Nat.reduceEqDiff, Nat.reduceLeDiff, Int.reduceLT, Int.reduceLE, Int.reduceNeg, Int.reduceAdd, Int.reduceMul, Int.reduceMod, and_self, and_true, true_and, List.nodup_cons, List.nodup_nil, List.not_mem_nil, not_false_eq_true, gAdd, k10, k2, k3, k4, k12, pick, r1, r2, r3, gIx, hst, vI, BEq.rfl, rm, List.getElem?_nil, Nat.reduceBEq, Bool.or_false, Bool.or_true, Bool.and_self, lc, sr]
    refine ⟨_, _, _, _, rfl, names_of len (fun s hs => ?_) (row_nodup (fun k => wordAt ((e1 + st * k) % 12)) fun i j i0 i1 j0 j1 h => ?_)⟩
    · obtain ⟨i, _, rfl⟩ := List.mem_map.mp hs
      exact good_word _ (Int.emod_nonneg _ (by decide)) (Int.emod_lt_of_pos _ (by decide))
    · have := word_ne _ _ (Int.emod_nonneg _ (by decide)) (Int.emod_lt_of_pos _ (by decide)) (Int.emod_nonneg _ (by decide)) (Int.emod_lt_of_pos _ (by decide)) h
      rcases hs with rfl | rfl | rfl | rfl <;> omega
  · obtain ⟨a4, b4, c4, e4, r4, p4, q4⟩ := draw_ok a3 b3 c3 26 (by decide) (by decide)
    have n1 : (e3 == 1) = false := beq_eq_false_iff_ne.mpr w1
    by_cases w2 : e3 = 2
    · subst w2
      have step : ∀ d ∈ rangeD 0 m, lcStep [10] (tName 10) (cOp2 gMulA (cOp2 gIx (cVar 3) (cOp2 gMod (cOp2 gAdd (cVar 4) (cOp2 gFdiv (cVar 10) (cC (.int 8)))) (cC (.int 26)))) (cOp2 gAdd (cC (.int 1)) (cOp2 gMod (cVar 10) (cC (.int 8))))) d
          [some (Sl.bor (O.lst [D.int a4, D.int b4, D.int c4])), some (Sl.val (D.int m)), some (Sl.own (O.lst [D.str "worked", D.str "failed", D.str "retract", D.str "deploy", D.str "undo", D.str "verdict", D.str "plan", D.str "current", D.str "evidence", D.str "check", D.str "needs", D.str "none"])), some (Sl.val (D.str "abcdefghijklmnopqrstuvwxyz")), some (Sl.val (D.int e4)), none, none, some (Sl.val (D.int e1)), some (Sl.val (D.int st)), some (Sl.val (D.int 2)), none] =
          some ((match d with
            | .int k => .str (rowI e4 k)
            | _ => .non), [some (Sl.bor (O.lst [D.int a4, D.int b4, D.int c4])), some (Sl.val (D.int m)), some (Sl.own (O.lst [D.str "worked", D.str "failed", D.str "retract", D.str "deploy", D.str "undo", D.str "verdict", D.str "plan", D.str "current", D.str "evidence", D.str "check", D.str "needs", D.str "none"])), some (Sl.val (D.str "abcdefghijklmnopqrstuvwxyz")), some (Sl.val (D.int e4)), none, none, some (Sl.val (D.int e1)), some (Sl.val (D.int st)), some (Sl.val (D.int 2)), none]) := by
        intro d hd
        obtain ⟨i, hi, rfl⟩ := List.mem_map.mp hd
        have hw := at_letter ((e4 + (0 + (i : Int)) / 8) % 26) (Int.emod_nonneg _ (by decide)) (Int.emod_lt_of_pos _ (by decide))
        have hc : 0 ≤ 1 + (0 + (i : Int)) % 8 ∧ 1 + (0 + (i : Int)) % 8 ≤ 100 ∧ ({ cps := #[97 + ((e4 + (0 + (i : Int)) / 8) % 26).toNat] } : Str).length ≤ 1000 := ⟨by omega, by omega, by show 1 ≤ 1000; decide⟩
        simp only [kE_ok, kE_err, kV_val, kV_new, s_bindR, s_bindV, s_cC, s_ret, s_cVar, s_varV, s_varO, s_varB, s_peekV, s_peekN, s_peekR, s_pkV, s_pkO, s_pkB, s_toVR, s_tvV, s_tvO, s_toVV, s_toVN, s_toDl, s_toDi, s_done, s_outV, s_outN, s_op2, s_op2F, s_op2K, s_op1, s_op1K, s_evs0, s_evsV, s_evsR, s_cB, s_bK, s_bK2, s_pks0, s_pksV, s_pksO, s_pkC, s_map, s_tup, s_lst, s_tupK, s_lstK, s_vals0, s_valsV, s_onB, s_bF, s_not, s_and, s_or, s_if, s_truth, s_itT, s_itF, sE_ok, sE_err, sV_val, sV_new, s_onE, s_onV, s_nop, s_seq, s_sqN, s_sqR, s_sqE, s_drop, s_retS, s_ifS, s_ifF, s_setV, s_setN, s_set, s_asg, s_asgK, s_tName, s_obK, s_tTup, s_ts0, s_tsC, s_call, s_callE, s_endV, s_endN, s_getS, s_gkO, s_gkB, s_gkV, s_putS, s_pkkO, s_pkkB, s_subL, s_subK, s_tSub, s_toSl0, s_toSlV, s_toSlO, s_toSlR, s_callK, s_pb0, s_pbN, s_pbS, s_out0, s_outB, s_outW, s_clV, s_clN, s_clR, s_clkV, s_clkO, s_rkN, s_rkR, s_rkE, s_run0, s_run1, s_run2, s_run3, s_run4, s_run5, s_run6, s_rp0, s_rpS, s_at3a, s_at3b, s_at3c, s_at2a, s_at2b, s_ix30, s_ix31, s_ix32, s_sl, s_slF, s_part0, s_partS, s_ptF, s_strM, s_stF, s_onIt, s_itK, s_for, s_forK, s_lc, s_lcK, s_rng1, s_rgK, s_methV, s_onIns, s_mkR, s_mkK, s_makeE, s_make, s_fldK, s_fld, s_apR, s_apL, s_apK, s_app, s_ch2, s_chT, s_chF, s_chFF, s_chain, s_wipe, s_rest, s_ov0, s_ovS, s_co0, s_coS, s_okC0, s_okCS, s_okN, s_okV, s_fV, s_lcStep, s_eqI, s_neI, s_eqS, s_neS, List.length_cons, List.length_nil, List.map_cons, List.map_nil, List.cons_append, List.nil_append, List.append_nil, List.getElem?_cons_zero, List.getElem?_cons_succ, List.set_cons_zero, List.set_cons_succ, List.filterMap_cons, List.filterMap_nil, id, s_itT, s_itF, Bool.false_eq_true, if_true, if_false, Nat.reduceAdd, Nat.zero_add, Nat.reduceLT, Nat.reduceEqDiff, Nat.reduceLeDiff, Int.reduceLT, Int.reduceLE, Int.reduceNeg, Int.reduceAdd, Int.reduceMul, Int.reduceMod, and_self, and_true, true_and, List.nodup_cons, List.nodup_nil, List.not_mem_nil, not_false_eq_true, gAdd, vI, gMulA, gMod, gFdiv, gIx, hw, hc, Nat.reduceBEq, Bool.or_false, Bool.or_true]
        rfl
      have lc := lcs_map (fun d => match d with
        | .int k => .str (rowI e4 k)
        | _ => .non) (rangeD 0 m) step
      rw [range_row m fun k => rowI e4 k] at lc
      have len : ((List.range (m - 0).toNat).map fun (i : Nat) => rowI e4 (0 + (i : Int))).length = m.toNat := by rw [List.length_map, List.length_range]; omega
      have sr := sort_row ((List.range (m - 0).toNat).map fun (i : Nat) => rowI e4 (0 + (i : Int))) (by rw [len]; omega)
      simp only [kE_ok, kE_err, kV_val, kV_new, s_bindR, s_bindV, s_cC, s_ret, s_cVar, s_varV, s_varO, s_varB, s_peekV, s_peekN, s_peekR, s_pkV, s_pkO, s_pkB, s_toVR, s_tvV, s_tvO, s_toVV, s_toVN, s_toDl, s_toDi, s_done, s_outV, s_outN, s_op2, s_op2F, s_op2K, s_op1, s_op1K, s_evs0, s_evsV, s_evsR, s_cB, s_bK, s_bK2, s_pks0, s_pksV, s_pksO, s_pkC, s_map, s_tup, s_lst, s_tupK, s_lstK, s_vals0, s_valsV, s_onB, s_bF, s_not, s_and, s_or, s_if, s_truth, s_itT, s_itF, sE_ok, sE_err, sV_val, sV_new, s_onE, s_onV, s_nop, s_seq, s_sqN, s_sqR, s_sqE, s_drop, s_retS, s_ifS, s_ifF, s_setV, s_setN, s_set, s_asg, s_asgK, s_tName, s_obK, s_tTup, s_ts0, s_tsC, s_call, s_callE, s_endV, s_endN, s_getS, s_gkO, s_gkB, s_gkV, s_putS, s_pkkO, s_pkkB, s_subL, s_subK, s_tSub, s_toSl0, s_toSlV, s_toSlO, s_toSlR, s_callK, s_pb0, s_pbN, s_pbS, s_out0, s_outB, s_outW, s_clV, s_clN, s_clR, s_clkV, s_clkO, s_rkN, s_rkR, s_rkE, s_run0, s_run1, s_run2, s_run3, s_run4, s_run5, s_run6, s_rp0, s_rpS, s_at3a, s_at3b, s_at3c, s_at2a, s_at2b, s_ix30, s_ix31, s_ix32, s_sl, s_slF, s_part0, s_partS, s_ptF, s_strM, s_stF, s_onIt, s_itK, s_for, s_forK, s_lc, s_lcK, s_rng1, s_rgK, s_methV, s_onIns, s_mkR, s_mkK, s_makeE, s_make, s_fldK, s_fld, s_apR, s_apL, s_apK, s_app, s_ch2, s_chT, s_chF, s_chFF, s_chain, s_wipe, s_rest, s_ov0, s_ovS, s_co0, s_coS, s_okC0, s_okCS, s_okN, s_okV, s_fV, s_lcStep, s_eqI, s_neI, s_eqS, s_neS, List.length_cons, List.length_nil, List.map_cons, List.map_nil, List.cons_append, List.nil_append, List.append_nil, List.getElem?_cons_zero, List.getElem?_cons_succ, List.set_cons_zero, List.set_cons_succ, List.filterMap_cons, List.filterMap_nil, id, s_itT, s_itF, Bool.false_eq_true, if_true, if_false, Nat.reduceAdd, Nat.zero_add, Nat.reduceLT, Nat.reduceEqDiff, Nat.reduceLeDiff, Int.reduceLT, Int.reduceLE, Int.reduceNeg, Int.reduceAdd, Int.reduceMul, Int.reduceMod, and_self, and_true, true_and, List.nodup_cons, List.nodup_nil, List.not_mem_nil, not_false_eq_true, gAdd, k10, k2, k3, k4, k12, pick, r1, r2, r3, r4, gIx, hst, vI, BEq.rfl, n1, rm, List.getElem?_nil, Nat.reduceBEq, Bool.or_false, Bool.or_true, Bool.and_self, lc, sr]
      refine ⟨_, _, _, _, rfl, names_of len (fun s hs => ?_) (row_nodup (fun k => rowI e4 k) fun i j i0 i1 j0 j1 h => ?_)⟩
      · obtain ⟨i, hi, rfl⟩ := List.mem_map.mp hs
        rw [List.mem_range] at hi
        rw [rowI_eq _ _ p4 (by omega)]
        have := rowL_good e4.toNat (by omega) ((0 + (i : Int)).toNat) (by omega)
        rw [Bool.and_eq_true_iff, Bool.and_eq_true_iff, List.all_eq_true] at this
        refine ⟨of_decide_eq_true this.1.1, of_decide_eq_true this.1.2, fun c hc => ?_⟩
        have := this.2 c hc
        rw [Bool.and_eq_true_iff] at this
        exact ⟨of_decide_eq_true this.1, of_decide_eq_true this.2⟩
      · have h : rowI e4 i = rowI e4 j := h
        rw [rowI_eq _ _ p4 i0, rowI_eq _ _ p4 j0] at h
        have := rowL_ne e4.toNat (by omega) i.toNat (by omega) j.toNat (by omega) (by rw [h])
        omega
    · have n2 : (e3 == 2) = false := beq_eq_false_iff_ne.mpr w2
      obtain ⟨a5, b5, c5, e5, r5, p5, q5⟩ := draw_ok a4 b4 c4 8 (by decide) (by decide)
      obtain ⟨es, env', lc1, le, re, a6, b6, c6, rfl⟩ := lcs_inv (vs := [10]) (t := tName 10) (f := cOp2 gIx (cVar 3) (cCall d__law_draw [0, 1] [] [.r (cVar 0), .v (cC (.int 26))]))
        (fun env => ∃ a b c : Int, env = [some (Sl.bor (O.lst [D.int a, D.int b, D.int c])), some (Sl.val (D.int m)), some (Sl.own (O.lst [D.str "worked", D.str "failed", D.str "retract", D.str "deploy", D.str "undo", D.str "verdict", D.str "plan", D.str "current", D.str "evidence", D.str "check", D.str "needs", D.str "none"])), some (Sl.val (D.str "abcdefghijklmnopqrstuvwxyz")), some (Sl.val (D.int e4)), none, none, some (Sl.val (D.int e1)), some (Sl.val (D.int st)), some (Sl.val (D.int e3)), none]) (fun _ y => isL y) (rangeD 0 e5)
        [some (Sl.bor (O.lst [D.int a5, D.int b5, D.int c5])), some (Sl.val (D.int m)), some (Sl.own (O.lst [D.str "worked", D.str "failed", D.str "retract", D.str "deploy", D.str "undo", D.str "verdict", D.str "plan", D.str "current", D.str "evidence", D.str "check", D.str "needs", D.str "none"])), some (Sl.val (D.str "abcdefghijklmnopqrstuvwxyz")), some (Sl.val (D.int e4)), none, none, some (Sl.val (D.int e1)), some (Sl.val (D.int st)), some (Sl.val (D.int e3)), none] (by
          rintro d hd _ ⟨a, b, c, rfl⟩
          obtain ⟨i, hi, rfl⟩ := List.mem_map.mp hd
          obtain ⟨a', b', c', e, r, p, q⟩ := draw_ok a b c 26 (by decide) (by decide)
          have hw := at_letter e p q
          refine ⟨.str ⟨#[97 + e.toNat]⟩, [some (Sl.bor (O.lst [D.int a', D.int b', D.int c'])), some (Sl.val (D.int m)), some (Sl.own (O.lst [D.str "worked", D.str "failed", D.str "retract", D.str "deploy", D.str "undo", D.str "verdict", D.str "plan", D.str "current", D.str "evidence", D.str "check", D.str "needs", D.str "none"])), some (Sl.val (D.str "abcdefghijklmnopqrstuvwxyz")), some (Sl.val (D.int e4)), none, none, some (Sl.val (D.int e1)), some (Sl.val (D.int st)), some (Sl.val (D.int e3)), none], ?_, ⟨e.toNat, by omega, rfl⟩, a', b', c', rfl⟩
          simp only [kE_ok, kE_err, kV_val, kV_new, s_bindR, s_bindV, s_cC, s_ret, s_cVar, s_varV, s_varO, s_varB, s_peekV, s_peekN, s_peekR, s_pkV, s_pkO, s_pkB, s_toVR, s_tvV, s_tvO, s_toVV, s_toVN, s_toDl, s_toDi, s_done, s_outV, s_outN, s_op2, s_op2F, s_op2K, s_op1, s_op1K, s_evs0, s_evsV, s_evsR, s_cB, s_bK, s_bK2, s_pks0, s_pksV, s_pksO, s_pkC, s_map, s_tup, s_lst, s_tupK, s_lstK, s_vals0, s_valsV, s_onB, s_bF, s_not, s_and, s_or, s_if, s_truth, s_itT, s_itF, sE_ok, sE_err, sV_val, sV_new, s_onE, s_onV, s_nop, s_seq, s_sqN, s_sqR, s_sqE, s_drop, s_retS, s_ifS, s_ifF, s_setV, s_setN, s_set, s_asg, s_asgK, s_tName, s_obK, s_tTup, s_ts0, s_tsC, s_call, s_callE, s_endV, s_endN, s_getS, s_gkO, s_gkB, s_gkV, s_putS, s_pkkO, s_pkkB, s_subL, s_subK, s_tSub, s_toSl0, s_toSlV, s_toSlO, s_toSlR, s_callK, s_pb0, s_pbN, s_pbS, s_out0, s_outB, s_outW, s_clV, s_clN, s_clR, s_clkV, s_clkO, s_rkN, s_rkR, s_rkE, s_run0, s_run1, s_run2, s_run3, s_run4, s_run5, s_run6, s_rp0, s_rpS, s_at3a, s_at3b, s_at3c, s_at2a, s_at2b, s_ix30, s_ix31, s_ix32, s_sl, s_slF, s_part0, s_partS, s_ptF, s_strM, s_stF, s_onIt, s_itK, s_for, s_forK, s_lc, s_lcK, s_rng1, s_rgK, s_methV, s_onIns, s_mkR, s_mkK, s_makeE, s_make, s_fldK, s_fld, s_apR, s_apL, s_apK, s_app, s_ch2, s_chT, s_chF, s_chFF, s_chain, s_wipe, s_rest, s_ov0, s_ovS, s_co0, s_coS, s_okC0, s_okCS, s_okN, s_okV, s_fV, s_lcStep, s_eqI, s_neI, s_eqS, s_neS, List.length_cons, List.length_nil, List.map_cons, List.map_nil, List.cons_append, List.nil_append, List.append_nil, List.getElem?_cons_zero, List.getElem?_cons_succ, List.set_cons_zero, List.set_cons_succ, List.filterMap_cons, List.filterMap_nil, id, s_itT, s_itF, Bool.false_eq_true, if_true, if_false, Nat.reduceAdd, Nat.zero_add, Nat.reduceLT, Nat.reduceEqDiff, Nat.reduceLeDiff, Int.reduceLT, Int.reduceLE, Int.reduceNeg, Int.reduceAdd, Int.reduceMul, Int.reduceMod, and_self, and_true, true_and, List.nodup_cons, List.nodup_nil, List.not_mem_nil, not_false_eq_true, pick, r, gIx, hw, Nat.reduceBEq, Bool.or_false, Bool.or_true]) ⟨a5, b5, c5, rfl⟩
      have le5 : es.length = e5.toNat := by rw [le]; unfold rangeD; rw [List.length_map, List.length_range]; omega
      obtain ⟨ss, s1, s2, s3, s4, s5⟩ := stem_of es fun y hy => by
        obtain ⟨i, hi, e⟩ := List.getElem_of_mem hy
        have hd : i < (rangeD 0 e5).length := by rw [← le]; exact hi
        exact re i _ y (List.getElem?_eq_getElem hd) (by rw [List.getElem?_eq_getElem hi, e])
      generalize hz : Str.join (Str.ofString "") ss = z at s3 s5
      have z7 : z.length ≤ 7 := by omega
      obtain ⟨a7, b7, c7, e7, r7, p7, q7⟩ := draw_ok a6 b6 c6 (z.length + 1) (by omega) (by omega)
      have jn : gJoin (Str.ofString "") (.lst es) = some (.val (.str z)) := by
        show (strsD es).bind (joinS (Str.ofString "")) = _
        rw [s1]
        show joinS (Str.ofString "") ss = _
        unfold joinS
        have e0 : (Str.ofString "").length = 0 := by decide +kernel
        rw [s4, e0, Nat.mul_zero, hz, if_pos (by show _ ≤ 15800000; omega)]
      have step : ∀ d ∈ rangeD 0 m, lcStep [10] (tName 10) (cOp2 gAdd (cOp2 gAdd (cSl gSl (cVar 5) none (some (cVar 6))) (cOp2 gIx (cVar 3) (cOp2 gMod (cOp2 gAdd (cVar 4) (cOp2 gMulA (cVar 8) (cVar 10))) (cC (.int 26))))) (cSl gSl (cVar 5) (some (cVar 6)) none)) d
          [some (Sl.bor (O.lst [D.int a7, D.int b7, D.int c7])), some (Sl.val (D.int m)), some (Sl.own (O.lst [D.str "worked", D.str "failed", D.str "retract", D.str "deploy", D.str "undo", D.str "verdict", D.str "plan", D.str "current", D.str "evidence", D.str "check", D.str "needs", D.str "none"])), some (Sl.val (D.str "abcdefghijklmnopqrstuvwxyz")), some (Sl.val (D.int e4)), some (Sl.val (D.str z)), some (Sl.val (D.int e7)), some (Sl.val (D.int e1)), some (Sl.val (D.int st)), some (Sl.val (D.int e3)), none] =
          some ((match d with
            | .int k => .str (rowS z e7 e4 st k)
            | _ => .non), [some (Sl.bor (O.lst [D.int a7, D.int b7, D.int c7])), some (Sl.val (D.int m)), some (Sl.own (O.lst [D.str "worked", D.str "failed", D.str "retract", D.str "deploy", D.str "undo", D.str "verdict", D.str "plan", D.str "current", D.str "evidence", D.str "check", D.str "needs", D.str "none"])), some (Sl.val (D.str "abcdefghijklmnopqrstuvwxyz")), some (Sl.val (D.int e4)), some (Sl.val (D.str z)), some (Sl.val (D.int e7)), some (Sl.val (D.int e1)), some (Sl.val (D.int st)), some (Sl.val (D.int e3)), none]) := by
        intro d hd
        obtain ⟨i, hi, rfl⟩ := List.mem_map.mp hd
        have hw := at_letter ((e4 + st * (0 + (i : Int))) % 26) (Int.emod_nonneg _ (by decide)) (Int.emod_lt_of_pos _ (by decide))
        have g8 := rowS_good (b := e4) (st := st) (k := 0 + (i : Int)) p7 (by omega) z7 s5
        have l1 : (cutS z none (some e7) ++ ({ cps := #[97 + ((e4 + st * (0 + (i : Int))) % 26).toNat] } : Str)).length ≤ LIM := by
          rw [len_cps, app_cps, cut_lo z e7 p7 (by omega), List.length_append, List.length_take]
          show _ + 1 ≤ 15800000
          have : z.cps.toList.length ≤ 7 := z7
          omega
        have l2 : (cutS z none (some e7) ++ ({ cps := #[97 + ((e4 + st * (0 + (i : Int))) % 26).toNat] } : Str) ++ cutS z (some e7) none).length ≤ LIM := Nat.le_trans g8.2.1 (by decide)
        simp only [kE_ok, kE_err, kV_val, kV_new, s_bindR, s_bindV, s_cC, s_ret, s_cVar, s_varV, s_varO, s_varB, s_peekV, s_peekN, s_peekR, s_pkV, s_pkO, s_pkB, s_toVR, s_tvV, s_tvO, s_toVV, s_toVN, s_toDl, s_toDi, s_done, s_outV, s_outN, s_op2, s_op2F, s_op2K, s_op1, s_op1K, s_evs0, s_evsV, s_evsR, s_cB, s_bK, s_bK2, s_pks0, s_pksV, s_pksO, s_pkC, s_map, s_tup, s_lst, s_tupK, s_lstK, s_vals0, s_valsV, s_onB, s_bF, s_not, s_and, s_or, s_if, s_truth, s_itT, s_itF, sE_ok, sE_err, sV_val, sV_new, s_onE, s_onV, s_nop, s_seq, s_sqN, s_sqR, s_sqE, s_drop, s_retS, s_ifS, s_ifF, s_setV, s_setN, s_set, s_asg, s_asgK, s_tName, s_obK, s_tTup, s_ts0, s_tsC, s_call, s_callE, s_endV, s_endN, s_getS, s_gkO, s_gkB, s_gkV, s_putS, s_pkkO, s_pkkB, s_subL, s_subK, s_tSub, s_toSl0, s_toSlV, s_toSlO, s_toSlR, s_callK, s_pb0, s_pbN, s_pbS, s_out0, s_outB, s_outW, s_clV, s_clN, s_clR, s_clkV, s_clkO, s_rkN, s_rkR, s_rkE, s_run0, s_run1, s_run2, s_run3, s_run4, s_run5, s_run6, s_rp0, s_rpS, s_at3a, s_at3b, s_at3c, s_at2a, s_at2b, s_ix30, s_ix31, s_ix32, s_sl, s_slF, s_part0, s_partS, s_ptF, s_strM, s_stF, s_onIt, s_itK, s_for, s_forK, s_lc, s_lcK, s_rng1, s_rgK, s_methV, s_onIns, s_mkR, s_mkK, s_makeE, s_make, s_fldK, s_fld, s_apR, s_apL, s_apK, s_app, s_ch2, s_chT, s_chF, s_chFF, s_chain, s_wipe, s_rest, s_ov0, s_ovS, s_co0, s_coS, s_okC0, s_okCS, s_okN, s_okV, s_fV, s_lcStep, s_eqI, s_neI, s_eqS, s_neS, List.length_cons, List.length_nil, List.map_cons, List.map_nil, List.cons_append, List.nil_append, List.append_nil, List.getElem?_cons_zero, List.getElem?_cons_succ, List.set_cons_zero, List.set_cons_succ, List.filterMap_cons, List.filterMap_nil, id, s_itT, s_itF, Bool.false_eq_true, if_true, if_false, Nat.reduceAdd, Nat.zero_add, Nat.reduceLT, Nat.reduceEqDiff, Nat.reduceLeDiff, Int.reduceLT, Int.reduceLE, Int.reduceNeg, Int.reduceAdd, Int.reduceMul, Int.reduceMod, and_self, and_true, true_and, List.nodup_cons, List.nodup_nil, List.not_mem_nil, not_false_eq_true, gAdd, vI, vS, gMulA, bst, gMod, gIx, hw, gSl, l1, l2, Nat.reduceBEq, Bool.or_false, Bool.or_true]
        rfl
      have lc := lcs_map (fun d => match d with
        | .int k => .str (rowS z e7 e4 st k)
        | _ => .non) (rangeD 0 m) step
      rw [range_row m fun k => rowS z e7 e4 st k] at lc
      have len : ((List.range (m - 0).toNat).map fun (i : Nat) => rowS z e7 e4 st (0 + (i : Int))).length = m.toNat := by rw [List.length_map, List.length_range]; omega
      have sr := sort_row ((List.range (m - 0).toNat).map fun (i : Nat) => rowS z e7 e4 st (0 + (i : Int))) (by rw [len]; omega)
      have re5 : -1000000 ≤ e5 ∧ e5 ≤ 1000000 := by omega
      simp only [kE_ok, kE_err, kV_val, kV_new, s_bindR, s_bindV, s_cC, s_ret, s_cVar, s_varV, s_varO, s_varB, s_peekV, s_peekN, s_peekR, s_pkV, s_pkO, s_pkB, s_toVR, s_tvV, s_tvO, s_toVV, s_toVN, s_toDl, s_toDi, s_done, s_outV, s_outN, s_op2, s_op2F, s_op2K, s_op1, s_op1K, s_evs0, s_evsV, s_evsR, s_cB, s_bK, s_bK2, s_pks0, s_pksV, s_pksO, s_pkC, s_map, s_tup, s_lst, s_tupK, s_lstK, s_vals0, s_valsV, s_onB, s_bF, s_not, s_and, s_or, s_if, s_truth, s_itT, s_itF, sE_ok, sE_err, sV_val, sV_new, s_onE, s_onV, s_nop, s_seq, s_sqN, s_sqR, s_sqE, s_drop, s_retS, s_ifS, s_ifF, s_setV, s_setN, s_set, s_asg, s_asgK, s_tName, s_obK, s_tTup, s_ts0, s_tsC, s_call, s_callE, s_endV, s_endN, s_getS, s_gkO, s_gkB, s_gkV, s_putS, s_pkkO, s_pkkB, s_subL, s_subK, s_tSub, s_toSl0, s_toSlV, s_toSlO, s_toSlR, s_callK, s_pb0, s_pbN, s_pbS, s_out0, s_outB, s_outW, s_clV, s_clN, s_clR, s_clkV, s_clkO, s_rkN, s_rkR, s_rkE, s_run0, s_run1, s_run2, s_run3, s_run4, s_run5, s_run6, s_rp0, s_rpS, s_at3a, s_at3b, s_at3c, s_at2a, s_at2b, s_ix30, s_ix31, s_ix32, s_sl, s_slF, s_part0, s_partS, s_ptF, s_strM, s_stF, s_onIt, s_itK, s_for, s_forK, s_lc, s_lcK, s_rng1, s_rgK, s_methV, s_onIns, s_mkR, s_mkK, s_makeE, s_make, s_fldK, s_fld, s_apR, s_apL, s_apK, s_app, s_ch2, s_chT, s_chF, s_chFF, s_chain, s_wipe, s_rest, s_ov0, s_ovS, s_co0, s_coS, s_okC0, s_okCS, s_okN, s_okV, s_fV, s_lcStep, s_eqI, s_neI, s_eqS, s_neS, List.length_cons, List.length_nil, List.map_cons, List.map_nil, List.cons_append, List.nil_append, List.append_nil, List.getElem?_cons_zero, List.getElem?_cons_succ, List.set_cons_zero, List.set_cons_succ, List.filterMap_cons, List.filterMap_nil, id, s_itT, s_itF, Bool.false_eq_true, if_true, if_false, Nat.reduceAdd, Nat.zero_add, Nat.reduceLT, Nat.reduceEqDiff, Nat.reduceLeDiff, Int.reduceLT, Int.reduceLE, Int.reduceNeg, Int.reduceAdd, Int.reduceMul, Int.reduceMod, and_self, and_true, true_and, List.nodup_cons, List.nodup_nil, List.not_mem_nil, not_false_eq_true, gAdd, k10, k2, k3, k4, k12, pick, r1, r2, r3, r4, r5, r7, gIx, hst, vI, n1, n2, rm, re5, lc1, jn, gLen, lenD, List.getElem?_nil, Option.getD_some, Nat.reduceBEq, Bool.or_false, Bool.or_true, Bool.and_self, lc, sr]
      refine ⟨_, _, _, _, rfl, names_of len (fun s hs => ?_) (row_nodup (fun k => rowS z e7 e4 st k) fun i j i0 i1 j0 j1 h => ?_)⟩
      · obtain ⟨i, hi, rfl⟩ := List.mem_map.mp hs
        exact rowS_good p7 (by omega) z7 s5
      · have := rowS_ne p7 (by omega) h
        rcases hs with rfl | rfl | rfl | rfl <;> omega
end Lwk01

namespace Lwk01
open PySem PySem.Spec PyProof.Rows L2 Pd
def pr (p : Str × Int) : D := .tup [.str p.1, .int p.2]
structure Pairs (ps : List (Str × Int)) : Prop where
  lo : 1 ≤ ps.length
  hi : ps.length ≤ 12
  nm : Names (ps.map (·.1)) ps.length
  tp : ∀ p ∈ ps, 0 ≤ p.2 ∧ p.2 ≤ 9
theorem pairs_of : ∀ (ss : List Str) (es : List D), es.length = ss.length → (∀ (i : Nat) d y, (ss.map D.str)[i]? = some d → es[i]? = some y → ∃ (s : Str) (t : Int), d = .str s ∧ y = pr (s, t) ∧ 0 ≤ t ∧ t ≤ 9) → ∃ ps : List (Str × Int), es = ps.map pr ∧ ps.map (·.1) = ss ∧ ∀ p ∈ ps, 0 ≤ p.2 ∧ p.2 ≤ 9
  | [], es, hl, _ => ⟨[], by rw [List.length_eq_zero_iff.mp hl]; rfl, rfl, fun p h => absurd h List.not_mem_nil⟩
  | s :: ss, [], hl, _ => by cases hl
  | s :: ss, y :: es, hl, h => by
    obtain ⟨s', t, e1, e2, t0, t1⟩ := h 0 (.str s) y rfl rfl
    cases e1
    obtain ⟨ps, p1, p2, p3⟩ := pairs_of ss es (by simpa using hl) fun i d y' hd hy => h (i + 1) d y' (by simpa using hd) (by simpa using hy)
    refine ⟨(s, t) :: ps, by rw [List.map_cons, ← p1, e2], by rw [List.map_cons, p2], fun p hp => ?_⟩
    rcases List.mem_cons.mp hp with rfl | hp
    · exact ⟨t0, t1⟩
    · exact p3 p hp
theorem services_ok (a b c : Int) : ∃ a' b' c' ps, d__law_services [.bor (.lst [.int a, .int b, .int c])] = some (.ok (.val (.tup (ps.map pr))), [some (.lst [.int a', .int b', .int c'])]) ∧ Pairs ps := by
  obtain ⟨a1, b1, c1, e1, r1, p1, q1⟩ := draw_ok a b c 8 (by decide) (by decide)
  obtain ⟨w1, hw1, w10, w11⟩ : ∃ w1, atI [D.int 4, D.int 12] (if (e1 == 3) = true then 1 else 0) = some (.int w1) ∧ 0 < w1 ∧ w1 ≤ 12 := by
    split
    · exact ⟨12, rfl, by decide, by decide⟩
    · exact ⟨4, rfl, by decide, by decide⟩
  obtain ⟨a2, b2, c2, e2, r2, p2, q2⟩ := draw_ok a1 b1 c1 w1 w10 (by omega)
  obtain ⟨a3, b3, c3, e3, r3, p3, q3⟩ := draw_ok a2 b2 c2 8 (by decide) (by decide)
  obtain ⟨w2, hw2, w20, w21⟩ : ∃ w2, atI [D.int 4, D.int 10] (if (e3 == 5) = true then 1 else 0) = some (.int w2) ∧ 0 < w2 ∧ w2 ≤ 10 := by
    split
    · exact ⟨10, rfl, by decide, by decide⟩
    · exact ⟨4, rfl, by decide, by decide⟩
  obtain ⟨a4, b4, c4, ss, r4, nn⟩ := names_ok a3 b3 c3 (1 + e2) (by omega) (by omega)
  have k2 : 2 ≤ LIM := by decide
  obtain ⟨es, env', lc1, le, re, a6, b6, c6, rfl⟩ := lcs_inv (vs := [3]) (t := tName 3) (f := cTup [.v (cVar 3), .v (cCall d__law_draw [0, 1] [] [.r (cVar 0), .v (cVar 2)])])
    (fun env => ∃ a b c : Int, env = [some (Sl.bor (O.lst [D.int a, D.int b, D.int c])), some (Sl.val (D.int (1 + e2))), some (Sl.val (D.int w2)), none])
    (fun d y => ∃ (s : Str) (t : Int), d = .str s ∧ y = pr (s, t) ∧ 0 ≤ t ∧ t ≤ 9) (ss.map D.str)
    [some (Sl.bor (O.lst [D.int a4, D.int b4, D.int c4])), some (Sl.val (D.int (1 + e2))), some (Sl.val (D.int w2)), none] (by
      rintro d hd _ ⟨a, b, c, rfl⟩
      obtain ⟨s, _, rfl⟩ := List.mem_map.mp hd
      obtain ⟨a', b', c', e, r, p, q⟩ := draw_ok a b c w2 w20 (by omega)
      refine ⟨pr (s, e), [some (Sl.bor (O.lst [D.int a', D.int b', D.int c'])), some (Sl.val (D.int (1 + e2))), some (Sl.val (D.int w2)), none], ?_, ⟨s, e, rfl, rfl, p, by omega⟩, a', b', c', rfl⟩
      simp only [kE_ok, kE_err, kV_val, kV_new, s_bindR, s_bindV, s_cC, s_ret, s_cVar, s_varV, s_varO, s_varB, s_peekV, s_peekN, s_peekR, s_pkV, s_pkO, s_pkB, s_toVR, s_tvV, s_tvO, s_toVV, s_toVN, s_toDl, s_toDi, s_done, s_outV, s_outN, s_op2, s_op2F, s_op2K, s_op1, s_op1K, s_evs0, s_evsV, s_evsR, s_cB, s_bK, s_bK2, s_pks0, s_pksV, s_pksO, s_pkC, s_map, s_tup, s_lst, s_tupK, s_lstK, s_vals0, s_valsV, s_onB, s_bF, s_not, s_and, s_or, s_if, s_truth, s_itT, s_itF, sE_ok, sE_err, sV_val, sV_new, s_onE, s_onV, s_nop, s_seq, s_sqN, s_sqR, s_sqE, s_drop, s_retS, s_ifS, s_ifF, s_setV, s_setN, s_set, s_asg, s_asgK, s_tName, s_obK, s_tTup, s_ts0, s_tsC, s_call, s_callE, s_endV, s_endN, s_getS, s_gkO, s_gkB, s_gkV, s_putS, s_pkkO, s_pkkB, s_subL, s_subK, s_tSub, s_toSl0, s_toSlV, s_toSlO, s_toSlR, s_callK, s_pb0, s_pbN, s_pbS, s_out0, s_outB, s_outW, s_clV, s_clN, s_clR, s_clkV, s_clkO, s_rkN, s_rkR, s_rkE, s_run0, s_run1, s_run2, s_run3, s_run4, s_run5, s_run6, s_rp0, s_rpS, s_at3a, s_at3b, s_at3c, s_at2a, s_at2b, s_ix30, s_ix31, s_ix32, s_sl, s_slF, s_part0, s_partS, s_ptF, s_strM, s_stF, s_onIt, s_itK, s_for, s_forK, s_lc, s_lcK, s_rng1, s_rgK, s_methV, s_onIns, s_mkR, s_mkK, s_makeE, s_make, s_fldK, s_fld, s_apR, s_apL, s_apK, s_app, s_ch2, s_chT, s_chF, s_chFF, s_chain, s_wipe, s_rest, s_ov0, s_ovS, s_co0, s_coS, s_okC0, s_okCS, s_okN, s_okV, s_fV, s_lcStep, s_eqI, s_neI, s_eqS, s_neS, List.length_cons, List.length_nil, List.map_cons, List.map_nil, List.cons_append, List.nil_append, List.append_nil, List.getElem?_cons_zero, List.getElem?_cons_succ, List.set_cons_zero, List.set_cons_succ, List.filterMap_cons, List.filterMap_nil, id, s_itT, s_itF, Bool.false_eq_true, if_true, if_false, Nat.reduceAdd, Nat.zero_add, Nat.reduceLT, Nat.reduceEqDiff, Nat.reduceLeDiff, Int.reduceLT, Int.reduceLE, Int.reduceNeg, Int.reduceAdd, Int.reduceMul, Int.reduceMod, and_self, and_true, true_and, List.nodup_cons, List.nodup_nil, List.not_mem_nil, not_false_eq_true, pick, r, k2, Nat.reduceBEq, Bool.or_false, Bool.or_true]
      rfl) ⟨a4, b4, c4, rfl⟩
  obtain ⟨ps, e5, e6, e7⟩ := pairs_of ss es (by rw [le, List.length_map]) re
  have lp : ps.length = ss.length := by rw [← e6, List.length_map]
  have hn := nn.len
  refine ⟨a6, b6, c6, ps, ?_, by omega, by omega, by rw [e6]; exact ⟨by omega, nn.ok, nn.up⟩, e7⟩
  unfold d__law_services b__law_services
  simp only [kE_ok, kE_err, kV_val, kV_new, s_bindR, s_bindV, s_cC, s_ret, s_cVar, s_varV, s_varO, s_varB, s_peekV, s_peekN, s_peekR, s_pkV, s_pkO, s_pkB, s_toVR, s_tvV, s_tvO, s_toVV, s_toVN, s_toDl, s_toDi, s_done, s_outV, s_outN, s_op2, s_op2F, s_op2K, s_op1, s_op1K, s_evs0, s_evsV, s_evsR, s_cB, s_bK, s_bK2, s_pks0, s_pksV, s_pksO, s_pkC, s_map, s_tup, s_lst, s_tupK, s_lstK, s_vals0, s_valsV, s_onB, s_bF, s_not, s_and, s_or, s_if, s_truth, s_itT, s_itF, sE_ok, sE_err, sV_val, sV_new, s_onE, s_onV, s_nop, s_seq, s_sqN, s_sqR, s_sqE, s_drop, s_retS, s_ifS, s_ifF, s_setV, s_setN, s_set, s_asg, s_asgK, s_tName, s_obK, s_tTup, s_ts0, s_tsC, s_call, s_callE, s_endV, s_endN, s_getS, s_gkO, s_gkB, s_gkV, s_putS, s_pkkO, s_pkkB, s_subL, s_subK, s_tSub, s_toSl0, s_toSlV, s_toSlO, s_toSlR, s_callK, s_pb0, s_pbN, s_pbS, s_out0, s_outB, s_outW, s_clV, s_clN, s_clR, s_clkV, s_clkO, s_rkN, s_rkR, s_rkE, s_run0, s_run1, s_run2, s_run3, s_run4, s_run5, s_run6, s_rp0, s_rpS, s_at3a, s_at3b, s_at3c, s_at2a, s_at2b, s_ix30, s_ix31, s_ix32, s_sl, s_slF, s_part0, s_partS, s_ptF, s_strM, s_stF, s_onIt, s_itK, s_for, s_forK, s_lc, s_lcK, s_rng1, s_rgK, s_methV, s_onIns, s_mkR, s_mkK, s_makeE, s_make, s_fldK, s_fld, s_apR, s_apL, s_apK, s_app, s_ch2, s_chT, s_chF, s_chFF, s_chain, s_wipe, s_rest, s_ov0, s_ovS, s_co0, s_coS, s_okC0, s_okCS, s_okN, s_okV, s_fV, s_lcStep, s_eqI, s_neI, s_eqS, s_neS, List.length_cons, List.length_nil, List.map_cons, List.map_nil, List.cons_append, List.nil_append, List.append_nil, List.getElem?_cons_zero, List.getElem?_cons_succ, List.set_cons_zero, List.set_cons_succ, List.filterMap_cons, List.filterMap_nil, id, s_itT, s_itF, Bool.false_eq_true, if_true, if_false, Nat.reduceAdd, Nat.zero_add, Nat.reduceLT, Nat.reduceEqDiff, Nat.reduceLeDiff, Int.reduceLT, Int.reduceLE, Int.reduceNeg, Int.reduceAdd, Int.reduceMul, Int.reduceMod, and_self, and_true, true_and, List.nodup_cons, List.nodup_nil, List.not_mem_nil, not_false_eq_true, gAdd, vI, pick, r1, r2, r3, r4, gIx, hw1, hw2, k2, gInt, itAny, lc1, gTuple, e5, List.getElem?_nil, Option.getD_some, Nat.reduceBEq, Bool.or_false, Bool.or_true, Bool.and_self]
end Lwk01

namespace Lwk01
open PySem PySem.Spec PyProof.Rows L2 Pd
theorem leI {i j : Int} : gLe (.int i) (.int j) = some (.val (.bl (decide (i ≤ j)))) := rfl
theorem isi_ss {s : Str} : gIsi 1 [.str s, .ty "str"] = some (.val (.bl true)) := rfl
theorem isi_it {i : Int} : gIsi 1 [.int i, .ty "int"] = some (.val (.bl true)) := rfl
theorem isi_ib {i : Int} : gIsi 1 [.int i, .ty "bool"] = some (.val (.bl false)) := rfl
theorem isi_tt {ds : List D} : gIsi 1 [.tup ds, .ty "tuple"] = some (.val (.bl true)) := rfl
theorem isi_ic {ds : List D} : gIsi 1 [.ins 0 ds, .cls 0] = some (.val (.bl true)) := rfl
theorem in_az {c : Nat} (h : 97 ≤ c ∧ c ≤ 122) : gIn false (.str ⟨#[c]⟩) (.str "abcdefghijklmnopqrstuvwxyz") = some (.val (.bl true)) := by
  have hm : c ∈ (Str.ofString "abcdefghijklmnopqrstuvwxyz").cps.toList := by
    have := az_at (c - 97) (by omega)
    have e : 97 + (c - 97) = c := by omega
    rw [e] at this
    exact List.mem_of_getElem? this
  show (some (decide (c ∈ (Str.ofString "abcdefghijklmnopqrstuvwxyz").cps.toList))).map _ = _
  rw [decide_eq_true hm]
  rfl
theorem all_true : ∀ l : List Nat, blsD (l.map fun _ => .bl true) = some (l.map fun _ => true)
  | [] => rfl
  | _ :: l => by
    show (blsD (l.map fun _ => .bl true)).map _ = _
    rw [all_true l]
    rfl
theorem all_t : ∀ l : List Nat, (l.map fun _ => true).all id = true
  | [] => rfl
  | _ :: l => all_t l
theorem name_ok (s : Str) (g : good s) : d_is_name [.val (.str s)] = some (.ok (.val (.bl true)), [none]) := by
  unfold d_is_name b_is_name
  have h1 : decide ((1 : Int) ≤ s.length) = true := decide_eq_true (by have := g.1; omega)
  have h2 : decide ((s.length : Int) ≤ 8) = true := decide_eq_true (by have := g.2.1; omega)
  have lc := lcs_map (vs := [1]) (t := tName 1) (f := cOp2 (gIn false) (cVar 1) (cC (.str ("abcdefghijklmnopqrstuvwxyz" : Str)))) (env := [some (.val (.str s)), none]) (fun _ => .bl true) (s.cps.toList.map fun c => .str ⟨#[c]⟩) (by
    intro d hd
    obtain ⟨c, hc, rfl⟩ := List.mem_map.mp hd
    simp only [kE_ok, kE_err, kV_val, kV_new, s_bindR, s_bindV, s_cC, s_ret, s_cVar, s_varV, s_varO, s_varB, s_peekV, s_peekN, s_peekR, s_pkV, s_pkO, s_pkB, s_toVR, s_tvV, s_tvO, s_toVV, s_toVN, s_toDl, s_toDi, s_done, s_outV, s_outN, s_op2, s_op2F, s_op2K, s_op1, s_op1K, s_evs0, s_evsV, s_evsR, s_cB, s_bK, s_bK2, s_pks0, s_pksV, s_pksO, s_pkC, s_map, s_tup, s_lst, s_tupK, s_lstK, s_vals0, s_valsV, s_onB, s_bF, s_not, s_and, s_or, s_if, s_truth, s_itT, s_itF, sE_ok, sE_err, sV_val, sV_new, s_onE, s_onV, s_nop, s_seq, s_sqN, s_sqR, s_sqE, s_drop, s_retS, s_ifS, s_ifF, s_setV, s_setN, s_set, s_asg, s_asgK, s_tName, s_obK, s_tTup, s_ts0, s_tsC, s_call, s_callE, s_endV, s_endN, s_getS, s_gkO, s_gkB, s_gkV, s_putS, s_pkkO, s_pkkB, s_subL, s_subK, s_tSub, s_toSl0, s_toSlV, s_toSlO, s_toSlR, s_callK, s_pb0, s_pbN, s_pbS, s_out0, s_outB, s_outW, s_clV, s_clN, s_clR, s_clkV, s_clkO, s_rkN, s_rkR, s_rkE, s_run0, s_run1, s_run2, s_run3, s_run4, s_run5, s_run6, s_rp0, s_rpS, s_at3a, s_at3b, s_at3c, s_at2a, s_at2b, s_ix30, s_ix31, s_ix32, s_sl, s_slF, s_part0, s_partS, s_ptF, s_strM, s_stF, s_onIt, s_itK, s_for, s_forK, s_lc, s_lcK, s_rng1, s_rgK, s_methV, s_onIns, s_mkR, s_mkK, s_makeE, s_make, s_fldK, s_fld, s_apR, s_apL, s_apK, s_app, s_ch2, s_chT, s_chF, s_chFF, s_chain, s_wipe, s_rest, s_ov0, s_ovS, s_co0, s_coS, s_okC0, s_okCS, s_okN, s_okV, s_fV, s_lcStep, s_eqI, s_neI, s_eqS, s_neS, List.length_cons, List.length_nil, List.map_cons, List.map_nil, List.cons_append, List.nil_append, List.append_nil, List.getElem?_cons_zero, List.getElem?_cons_succ, List.set_cons_zero, List.set_cons_succ, List.filterMap_cons, List.filterMap_nil, id, s_itT, s_itF, Bool.false_eq_true, if_true, if_false, Nat.reduceAdd, Nat.zero_add, Nat.reduceLT, Nat.reduceEqDiff, Nat.reduceLeDiff, Int.reduceLT, Int.reduceLE, Int.reduceNeg, Int.reduceAdd, Int.reduceMul, Int.reduceMod, and_self, and_true, true_and, List.nodup_cons, List.nodup_nil, List.not_mem_nil, not_false_eq_true, in_az (g.2.2 c hc), Nat.reduceBEq, Bool.or_false, Bool.or_true])
  have ga : gAll [.lst ((s.cps.toList.map fun c => D.str ⟨#[c]⟩).map fun _ => .bl true)] = some (.val (.bl true)) := by
    rw [List.map_map]
    show (blsD (s.cps.toList.map fun _ => .bl true)).map _ = _
    rw [all_true]
    show some (Out.val (.bl ((s.cps.toList.map fun _ => true).all id))) = _
    rw [all_t]
  simp only [kE_ok, kE_err, kV_val, kV_new, s_bindR, s_bindV, s_cC, s_ret, s_cVar, s_varV, s_varO, s_varB, s_peekV, s_peekN, s_peekR, s_pkV, s_pkO, s_pkB, s_toVR, s_tvV, s_tvO, s_toVV, s_toVN, s_toDl, s_toDi, s_done, s_outV, s_outN, s_op2, s_op2F, s_op2K, s_op1, s_op1K, s_evs0, s_evsV, s_evsR, s_cB, s_bK, s_bK2, s_pks0, s_pksV, s_pksO, s_pkC, s_map, s_tup, s_lst, s_tupK, s_lstK, s_vals0, s_valsV, s_onB, s_bF, s_not, s_and, s_or, s_if, s_truth, s_itT, s_itF, sE_ok, sE_err, sV_val, sV_new, s_onE, s_onV, s_nop, s_seq, s_sqN, s_sqR, s_sqE, s_drop, s_retS, s_ifS, s_ifF, s_setV, s_setN, s_set, s_asg, s_asgK, s_tName, s_obK, s_tTup, s_ts0, s_tsC, s_call, s_callE, s_endV, s_endN, s_getS, s_gkO, s_gkB, s_gkV, s_putS, s_pkkO, s_pkkB, s_subL, s_subK, s_tSub, s_toSl0, s_toSlV, s_toSlO, s_toSlR, s_callK, s_pb0, s_pbN, s_pbS, s_out0, s_outB, s_outW, s_clV, s_clN, s_clR, s_clkV, s_clkO, s_rkN, s_rkR, s_rkE, s_run0, s_run1, s_run2, s_run3, s_run4, s_run5, s_run6, s_rp0, s_rpS, s_at3a, s_at3b, s_at3c, s_at2a, s_at2b, s_ix30, s_ix31, s_ix32, s_sl, s_slF, s_part0, s_partS, s_ptF, s_strM, s_stF, s_onIt, s_itK, s_for, s_forK, s_lc, s_lcK, s_rng1, s_rgK, s_methV, s_onIns, s_mkR, s_mkK, s_makeE, s_make, s_fldK, s_fld, s_apR, s_apL, s_apK, s_app, s_ch2, s_chT, s_chF, s_chFF, s_chain, s_wipe, s_rest, s_ov0, s_ovS, s_co0, s_coS, s_okC0, s_okCS, s_okN, s_okV, s_fV, s_lcStep, s_eqI, s_neI, s_eqS, s_neS, List.length_cons, List.length_nil, List.map_cons, List.map_nil, List.cons_append, List.nil_append, List.append_nil, List.getElem?_cons_zero, List.getElem?_cons_succ, List.set_cons_zero, List.set_cons_succ, List.filterMap_cons, List.filterMap_nil, id, s_itT, s_itF, Bool.false_eq_true, if_true, if_false, Nat.reduceAdd, Nat.zero_add, Nat.reduceLT, Nat.reduceEqDiff, Nat.reduceLeDiff, Int.reduceLT, Int.reduceLE, Int.reduceNeg, Int.reduceAdd, Int.reduceMul, Int.reduceMod, and_self, and_true, true_and, List.nodup_cons, List.nodup_nil, List.not_mem_nil, not_false_eq_true, isi_ss, truth, Bool.not_true, gLen, lenD, gLe, gCmp, h1, h2, vB, itAny, lc, ga, List.getElem?_nil, Option.getD_some, Nat.reduceBEq, Bool.or_false, Bool.or_true, Bool.and_self]
theorem integer_ok (t : Int) (h0 : 0 ≤ t) (h1 : t ≤ 9) : d_is_integer [.val (.int t), .val (.int 0), .val (.int 9)] = some (.ok (.val (.bl true)), [none, none, none]) := by
  unfold d_is_integer b_is_integer
  have e0 : decide ((0 : Int) ≤ t) = true := decide_eq_true h0
  have e1 : decide (t ≤ 9) = true := decide_eq_true h1
  simp only [kE_ok, kE_err, kV_val, kV_new, s_bindR, s_bindV, s_cC, s_ret, s_cVar, s_varV, s_varO, s_varB, s_peekV, s_peekN, s_peekR, s_pkV, s_pkO, s_pkB, s_toVR, s_tvV, s_tvO, s_toVV, s_toVN, s_toDl, s_toDi, s_done, s_outV, s_outN, s_op2, s_op2F, s_op2K, s_op1, s_op1K, s_evs0, s_evsV, s_evsR, s_cB, s_bK, s_bK2, s_pks0, s_pksV, s_pksO, s_pkC, s_map, s_tup, s_lst, s_tupK, s_lstK, s_vals0, s_valsV, s_onB, s_bF, s_not, s_and, s_or, s_if, s_truth, s_itT, s_itF, sE_ok, sE_err, sV_val, sV_new, s_onE, s_onV, s_nop, s_seq, s_sqN, s_sqR, s_sqE, s_drop, s_retS, s_ifS, s_ifF, s_setV, s_setN, s_set, s_asg, s_asgK, s_tName, s_obK, s_tTup, s_ts0, s_tsC, s_call, s_callE, s_endV, s_endN, s_getS, s_gkO, s_gkB, s_gkV, s_putS, s_pkkO, s_pkkB, s_subL, s_subK, s_tSub, s_toSl0, s_toSlV, s_toSlO, s_toSlR, s_callK, s_pb0, s_pbN, s_pbS, s_out0, s_outB, s_outW, s_clV, s_clN, s_clR, s_clkV, s_clkO, s_rkN, s_rkR, s_rkE, s_run0, s_run1, s_run2, s_run3, s_run4, s_run5, s_run6, s_rp0, s_rpS, s_at3a, s_at3b, s_at3c, s_at2a, s_at2b, s_ix30, s_ix31, s_ix32, s_sl, s_slF, s_part0, s_partS, s_ptF, s_strM, s_stF, s_onIt, s_itK, s_for, s_forK, s_lc, s_lcK, s_rng1, s_rgK, s_methV, s_onIns, s_mkR, s_mkK, s_makeE, s_make, s_fldK, s_fld, s_apR, s_apL, s_apK, s_app, s_ch2, s_chT, s_chF, s_chFF, s_chain, s_wipe, s_rest, s_ov0, s_ovS, s_co0, s_coS, s_okC0, s_okCS, s_okN, s_okV, s_fV, s_lcStep, s_eqI, s_neI, s_eqS, s_neS, List.length_cons, List.length_nil, List.map_cons, List.map_nil, List.cons_append, List.nil_append, List.append_nil, List.getElem?_cons_zero, List.getElem?_cons_succ, List.set_cons_zero, List.set_cons_succ, List.filterMap_cons, List.filterMap_nil, id, s_itT, s_itF, Bool.false_eq_true, if_true, if_false, Nat.reduceAdd, Nat.zero_add, Nat.reduceLT, Nat.reduceEqDiff, Nat.reduceLeDiff, Int.reduceLT, Int.reduceLE, Int.reduceNeg, Int.reduceAdd, Int.reduceMul, Int.reduceMod, and_self, and_true, true_and, List.nodup_cons, List.nodup_nil, List.not_mem_nil, not_false_eq_true, isi_it, isi_ib, Bool.not_false, gLe, gCmp, e0, e1, vB]
theorem service_ok (p : Str × Int) (g : good p.1) (h : 0 ≤ p.2 ∧ p.2 ≤ 9) : d_is_service [.val (pr p)] = some (.ok (.val (.bl true)), [none]) := by
  unfold d_is_service b_is_service pr
  have c2 : (((2 : Nat) : Int) == 2) = true := rfl
  simp only [kE_ok, kE_err, kV_val, kV_new, s_bindR, s_bindV, s_cC, s_ret, s_cVar, s_varV, s_varO, s_varB, s_peekV, s_peekN, s_peekR, s_pkV, s_pkO, s_pkB, s_toVR, s_tvV, s_tvO, s_toVV, s_toVN, s_toDl, s_toDi, s_done, s_outV, s_outN, s_op2, s_op2F, s_op2K, s_op1, s_op1K, s_evs0, s_evsV, s_evsR, s_cB, s_bK, s_bK2, s_pks0, s_pksV, s_pksO, s_pkC, s_map, s_tup, s_lst, s_tupK, s_lstK, s_vals0, s_valsV, s_onB, s_bF, s_not, s_and, s_or, s_if, s_truth, s_itT, s_itF, sE_ok, sE_err, sV_val, sV_new, s_onE, s_onV, s_nop, s_seq, s_sqN, s_sqR, s_sqE, s_drop, s_retS, s_ifS, s_ifF, s_setV, s_setN, s_set, s_asg, s_asgK, s_tName, s_obK, s_tTup, s_ts0, s_tsC, s_call, s_callE, s_endV, s_endN, s_getS, s_gkO, s_gkB, s_gkV, s_putS, s_pkkO, s_pkkB, s_subL, s_subK, s_tSub, s_toSl0, s_toSlV, s_toSlO, s_toSlR, s_callK, s_pb0, s_pbN, s_pbS, s_out0, s_outB, s_outW, s_clV, s_clN, s_clR, s_clkV, s_clkO, s_rkN, s_rkR, s_rkE, s_run0, s_run1, s_run2, s_run3, s_run4, s_run5, s_run6, s_rp0, s_rpS, s_at3a, s_at3b, s_at3c, s_at2a, s_at2b, s_ix30, s_ix31, s_ix32, s_sl, s_slF, s_part0, s_partS, s_ptF, s_strM, s_stF, s_onIt, s_itK, s_for, s_forK, s_lc, s_lcK, s_rng1, s_rgK, s_methV, s_onIns, s_mkR, s_mkK, s_makeE, s_make, s_fldK, s_fld, s_apR, s_apL, s_apK, s_app, s_ch2, s_chT, s_chF, s_chFF, s_chain, s_wipe, s_rest, s_ov0, s_ovS, s_co0, s_coS, s_okC0, s_okCS, s_okN, s_okV, s_fV, s_lcStep, s_eqI, s_neI, s_eqS, s_neS, List.length_cons, List.length_nil, List.map_cons, List.map_nil, List.cons_append, List.nil_append, List.append_nil, List.getElem?_cons_zero, List.getElem?_cons_succ, List.set_cons_zero, List.set_cons_succ, List.filterMap_cons, List.filterMap_nil, id, s_itT, s_itF, Bool.false_eq_true, if_true, if_false, Nat.reduceAdd, Nat.zero_add, Nat.reduceLT, Nat.reduceEqDiff, Nat.reduceLeDiff, Int.reduceLT, Int.reduceLE, Int.reduceNeg, Int.reduceAdd, Int.reduceMul, Int.reduceMod, and_self, and_true, true_and, List.nodup_cons, List.nodup_nil, List.not_mem_nil, not_false_eq_true, isi_tt, truth, Bool.not_true, gLen, lenD, pick, name_ok p.1 g, integer_ok p.2 h.1 h.2, List.map_nil, c2]
/-! Catalog(..) -/
def initM : DSt := cSeq (cIfS (cOr (cNot (cTruth (cCall d_is_service [0] [] [.v (cVar 4)]))) (cOp2 gLe (cOp2 gIx (cVar 4) (cC (.int 0))) (cVar 2))) cNever cNop) (cSet 2 (cOp2 gIx (cVar 4) (cC (.int 0))))
theorem init_loop (A : Sl) (B : Sl) : ∀ (ps : List (Str × Int)) (f : Nat → Int) (last : Str) (x y : Option Sl), (∀ p ∈ ps, good p.1 ∧ 0 ≤ p.2 ∧ p.2 ≤ 9) → asc (ps.map (·.1)) → (∀ p ∈ ps, last.cps.toList < p.1.cps.toList) →
    ∃ l' x' y', loop (Pd.tTup 2 (tsCons (tName 3) (tsCons (tName 4) tsNil))) initM (ps.mapIdx fun i p => .tup [.int (f i), pr p]) [some A, some B, some (.val (.str last)), x, y] = some (.nx, [some A, some B, some (.val (.str l')), x', y'])
  | [], f, last, x, y, _, _, _ => ⟨last, x, y, rfl⟩
  | p :: ps, f, last, x, y, hg, ha, hl => by
    have g := hg p List.mem_cons_self
    obtain ⟨a1, a2⟩ := List.pairwise_cons.mp ha
    obtain ⟨l', x', y', ih⟩ := init_loop A B ps (fun i => f (i + 1)) p.1 (some (.val (.int (f 0)))) (some (.val (pr p))) (fun q hq => hg q (List.mem_cons_of_mem _ hq)) a2 fun q hq => a1 q.1 (List.mem_map.mpr ⟨q, hq, rfl⟩)
    refine ⟨l', x', y', ?_⟩
    have lt := hl p List.mem_cons_self
    have nle : decide (p.1.cps.toList ≤ last.cps.toList) = false := decide_eq_false fun z => z lt
    have step : initM [some A, some B, some (.val (.str last)), some (.val (.int (f 0))), some (.val (pr p))] = some (.nx, [some A, some B, some (.val (.str p.1)), some (.val (.int (f 0))), some (.val (pr p))]) := by
      unfold initM
      have e := service_ok p g.1 g.2
      unfold pr at e ⊢
      simp only [kE_ok, kE_err, kV_val, kV_new, s_bindR, s_bindV, s_cC, s_ret, s_cVar, s_varV, s_varO, s_varB, s_peekV, s_peekN, s_peekR, s_pkV, s_pkO, s_pkB, s_toVR, s_tvV, s_tvO, s_toVV, s_toVN, s_toDl, s_toDi, s_done, s_outV, s_outN, s_op2, s_op2F, s_op2K, s_op1, s_op1K, s_evs0, s_evsV, s_evsR, s_cB, s_bK, s_bK2, s_pks0, s_pksV, s_pksO, s_pkC, s_map, s_tup, s_lst, s_tupK, s_lstK, s_vals0, s_valsV, s_onB, s_bF, s_not, s_and, s_or, s_if, s_truth, s_itT, s_itF, sE_ok, sE_err, sV_val, sV_new, s_onE, s_onV, s_nop, s_seq, s_sqN, s_sqR, s_sqE, s_drop, s_retS, s_ifS, s_ifF, s_setV, s_setN, s_set, s_asg, s_asgK, s_tName, s_obK, s_tTup, s_ts0, s_tsC, s_call, s_callE, s_endV, s_endN, s_getS, s_gkO, s_gkB, s_gkV, s_putS, s_pkkO, s_pkkB, s_subL, s_subK, s_tSub, s_toSl0, s_toSlV, s_toSlO, s_toSlR, s_callK, s_pb0, s_pbN, s_pbS, s_out0, s_outB, s_outW, s_clV, s_clN, s_clR, s_clkV, s_clkO, s_rkN, s_rkR, s_rkE, s_run0, s_run1, s_run2, s_run3, s_run4, s_run5, s_run6, s_rp0, s_rpS, s_at3a, s_at3b, s_at3c, s_at2a, s_at2b, s_ix30, s_ix31, s_ix32, s_sl, s_slF, s_part0, s_partS, s_ptF, s_strM, s_stF, s_onIt, s_itK, s_for, s_forK, s_lc, s_lcK, s_rng1, s_rgK, s_methV, s_onIns, s_mkR, s_mkK, s_makeE, s_make, s_fldK, s_fld, s_apR, s_apL, s_apK, s_app, s_ch2, s_chT, s_chF, s_chFF, s_chain, s_wipe, s_rest, s_ov0, s_ovS, s_co0, s_coS, s_okC0, s_okCS, s_okN, s_okV, s_fV, s_lcStep, s_eqI, s_neI, s_eqS, s_neS, List.length_cons, List.length_nil, List.map_cons, List.map_nil, List.cons_append, List.nil_append, List.append_nil, List.getElem?_cons_zero, List.getElem?_cons_succ, List.set_cons_zero, List.set_cons_succ, List.filterMap_cons, List.filterMap_nil, id, s_itT, s_itF, Bool.false_eq_true, if_true, if_false, Nat.reduceAdd, Nat.zero_add, Nat.reduceLT, Nat.reduceEqDiff, Nat.reduceLeDiff, Int.reduceLT, Int.reduceLE, Int.reduceNeg, Int.reduceAdd, Int.reduceMul, Int.reduceMod, and_self, and_true, true_and, List.nodup_cons, List.nodup_nil, List.not_mem_nil, not_false_eq_true, pick, e, truth, Bool.not_true, gIx, gLe, gCmp, vB, nle, List.map_nil]
    rw [List.mapIdx_cons]
    unfold loop
    have tg : Pd.tTup 2 (tsCons (tName 3) (tsCons (tName 4) tsNil)) (.tup [.int (f 0), pr p]) [some A, some B, some (.val (.str last)), x, y] = some [some A, some B, some (.val (.str last)), some (.val (.int (f 0))), some (.val (pr p))] := by
      simp only [kE_ok, kE_err, kV_val, kV_new, s_bindR, s_bindV, s_cC, s_ret, s_cVar, s_varV, s_varO, s_varB, s_peekV, s_peekN, s_peekR, s_pkV, s_pkO, s_pkB, s_toVR, s_tvV, s_tvO, s_toVV, s_toVN, s_toDl, s_toDi, s_done, s_outV, s_outN, s_op2, s_op2F, s_op2K, s_op1, s_op1K, s_evs0, s_evsV, s_evsR, s_cB, s_bK, s_bK2, s_pks0, s_pksV, s_pksO, s_pkC, s_map, s_tup, s_lst, s_tupK, s_lstK, s_vals0, s_valsV, s_onB, s_bF, s_not, s_and, s_or, s_if, s_truth, s_itT, s_itF, sE_ok, sE_err, sV_val, sV_new, s_onE, s_onV, s_nop, s_seq, s_sqN, s_sqR, s_sqE, s_drop, s_retS, s_ifS, s_ifF, s_setV, s_setN, s_set, s_asg, s_asgK, s_tName, s_obK, s_tTup, s_ts0, s_tsC, s_call, s_callE, s_endV, s_endN, s_getS, s_gkO, s_gkB, s_gkV, s_putS, s_pkkO, s_pkkB, s_subL, s_subK, s_tSub, s_toSl0, s_toSlV, s_toSlO, s_toSlR, s_callK, s_pb0, s_pbN, s_pbS, s_out0, s_outB, s_outW, s_clV, s_clN, s_clR, s_clkV, s_clkO, s_rkN, s_rkR, s_rkE, s_run0, s_run1, s_run2, s_run3, s_run4, s_run5, s_run6, s_rp0, s_rpS, s_at3a, s_at3b, s_at3c, s_at2a, s_at2b, s_ix30, s_ix31, s_ix32, s_sl, s_slF, s_part0, s_partS, s_ptF, s_strM, s_stF, s_onIt, s_itK, s_for, s_forK, s_lc, s_lcK, s_rng1, s_rgK, s_methV, s_onIns, s_mkR, s_mkK, s_makeE, s_make, s_fldK, s_fld, s_apR, s_apL, s_apK, s_app, s_ch2, s_chT, s_chF, s_chFF, s_chain, s_wipe, s_rest, s_ov0, s_ovS, s_co0, s_coS, s_okC0, s_okCS, s_okN, s_okV, s_fV, s_lcStep, s_eqI, s_neI, s_eqS, s_neS, List.length_cons, List.length_nil, List.map_cons, List.map_nil, List.cons_append, List.nil_append, List.append_nil, List.getElem?_cons_zero, List.getElem?_cons_succ, List.set_cons_zero, List.set_cons_succ, List.filterMap_cons, List.filterMap_nil, id, s_itT, s_itF, Bool.false_eq_true, if_true, if_false, Nat.reduceAdd, Nat.zero_add, Nat.reduceLT, Nat.reduceEqDiff, Nat.reduceLeDiff, Int.reduceLT, Int.reduceLE, Int.reduceNeg, Int.reduceAdd, Int.reduceMul, Int.reduceMod, and_self, and_true, true_and, List.nodup_cons, List.nodup_nil, List.not_mem_nil, not_false_eq_true]
    rw [tg]
    dsimp only
    rw [step]
    exact ih
theorem init_ok (ps : List (Str × Int)) (P : Pairs ps) : d_Catalog___init__ [.bor (.ins 0 []), .val (.tup (ps.map pr))] = some (.ok (.val .non), [some (.ins 0 [.tup (ps.map pr)]), none]) := by
  have hi := P.hi
  have lo := P.lo
  have h1 : decide ((1 : Int) ≤ (ps.map pr).length) = true := decide_eq_true (by rw [List.length_map]; omega)
  have h2 : decide (((ps.map pr).length : Int) ≤ 12) = true := decide_eq_true (by rw [List.length_map]; omega)
  have gp : ∀ p ∈ ps, good p.1 ∧ 0 ≤ p.2 ∧ p.2 ≤ 9 := fun p hp => ⟨P.nm.ok _ (List.mem_map.mpr ⟨p, hp, rfl⟩), P.tp p hp⟩
  obtain ⟨l', x', y', hl⟩ := init_loop (.bor (.ins 0 [])) (.val (.tup (ps.map pr))) ps (fun i => (i : Int)) (Str.ofString "") none none gp P.nm.up (fun p hp => by
    have g := (gp p hp).1.1
    have e : (Str.ofString "").cps.toList = [] := by decide +kernel
    rw [e]
    cases q : p.1.cps.toList with
    | nil => rw [len_cps, q] at g; exact absurd g (by decide)
    | cons a l => exact List.nil_lt_cons a l)
  have nb : Pd.numbered (ps.map pr) = ps.mapIdx fun i p => .tup [.int ((i : Nat) : Int), pr p] := by
    unfold Pd.numbered
    apply List.ext_getElem?
    intro i
    rw [List.getElem?_mapIdx, List.getElem?_mapIdx, List.getElem?_map]
    cases ps[i]? <;> rfl
  unfold d_Catalog___init__ b_Catalog___init__
  unfold initM at hl
  simp only [kE_ok, kE_err, kV_val, kV_new, s_bindR, s_bindV, s_cC, s_ret, s_cVar, s_varV, s_varO, s_varB, s_peekV, s_peekN, s_peekR, s_pkV, s_pkO, s_pkB, s_toVR, s_tvV, s_tvO, s_toVV, s_toVN, s_toDl, s_toDi, s_done, s_outV, s_outN, s_op2, s_op2F, s_op2K, s_op1, s_op1K, s_evs0, s_evsV, s_evsR, s_cB, s_bK, s_bK2, s_pks0, s_pksV, s_pksO, s_pkC, s_map, s_tup, s_lst, s_tupK, s_lstK, s_vals0, s_valsV, s_onB, s_bF, s_not, s_and, s_or, s_if, s_truth, s_itT, s_itF, sE_ok, sE_err, sV_val, sV_new, s_onE, s_onV, s_nop, s_seq, s_sqN, s_sqR, s_sqE, s_drop, s_retS, s_ifS, s_ifF, s_setV, s_setN, s_set, s_asg, s_asgK, s_tName, s_obK, s_tTup, s_ts0, s_tsC, s_call, s_callE, s_endV, s_endN, s_getS, s_gkO, s_gkB, s_gkV, s_putS, s_pkkO, s_pkkB, s_subL, s_subK, s_tSub, s_toSl0, s_toSlV, s_toSlO, s_toSlR, s_callK, s_pb0, s_pbN, s_pbS, s_out0, s_outB, s_outW, s_clV, s_clN, s_clR, s_clkV, s_clkO, s_rkN, s_rkR, s_rkE, s_run0, s_run1, s_run2, s_run3, s_run4, s_run5, s_run6, s_rp0, s_rpS, s_at3a, s_at3b, s_at3c, s_at2a, s_at2b, s_ix30, s_ix31, s_ix32, s_sl, s_slF, s_part0, s_partS, s_ptF, s_strM, s_stF, s_onIt, s_itK, s_for, s_forK, s_lc, s_lcK, s_rng1, s_rgK, s_methV, s_onIns, s_mkR, s_mkK, s_makeE, s_make, s_fldK, s_fld, s_apR, s_apL, s_apK, s_app, s_ch2, s_chT, s_chF, s_chFF, s_chain, s_wipe, s_rest, s_ov0, s_ovS, s_co0, s_coS, s_okC0, s_okCS, s_okN, s_okV, s_fV, s_lcStep, s_eqI, s_neI, s_eqS, s_neS, List.length_cons, List.length_nil, List.map_cons, List.map_nil, List.cons_append, List.nil_append, List.append_nil, List.getElem?_cons_zero, List.getElem?_cons_succ, List.set_cons_zero, List.set_cons_succ, List.filterMap_cons, List.filterMap_nil, id, s_itT, s_itF, Bool.false_eq_true, if_true, if_false, Nat.reduceAdd, Nat.zero_add, Nat.reduceLT, Nat.reduceEqDiff, Nat.reduceLeDiff, Int.reduceLT, Int.reduceLE, Int.reduceNeg, Int.reduceAdd, Int.reduceMul, Int.reduceMod, and_self, and_true, true_and, List.nodup_cons, List.nodup_nil, List.not_mem_nil, not_false_eq_true, isi_tt, truth, Bool.not_true, gLen, lenD, leI, h1, h2, itA, nb, hl, setF, List.getElem?_nil]
end Lwk01

namespace Lwk01
open PySem PySem.Spec PyProof.Rows L2 Pd
def cat (ps : List (Str × Int)) : D := .ins 0 [.tup (ps.map pr)]
theorem attr0 {d : D} : gAttr [(0, 0)] (.ins 0 [d]) = some (.val d) := rfl
theorem cnames_ok (ps : List (Str × Int)) : d_Catalog_names [.val (cat ps)] = some (.ok (.val (.tup (ps.map fun p => .str p.1))), [none]) := by
  unfold d_Catalog_names b_Catalog_names cat
  have lc := lcs_map (vs := [1, 2]) (t := Pd.tTup 2 (tsCons (tName 1) (tsCons (tName 2) tsNil))) (f := cVar 1) (env := [some (.val (.ins 0 [.tup (ps.map pr)])), none, none]) (fun d => match d with
    | .tup [a, _] => a
    | _ => .non) (ps.map pr) (by
    intro d hd
    obtain ⟨p, hp, rfl⟩ := List.mem_map.mp hd
    unfold pr
    simp only [kE_ok, kE_err, kV_val, kV_new, s_bindR, s_bindV, s_cC, s_ret, s_cVar, s_varV, s_varO, s_varB, s_peekV, s_peekN, s_peekR, s_pkV, s_pkO, s_pkB, s_toVR, s_tvV, s_tvO, s_toVV, s_toVN, s_toDl, s_toDi, s_done, s_outV, s_outN, s_op2, s_op2F, s_op2K, s_op1, s_op1K, s_evs0, s_evsV, s_evsR, s_cB, s_bK, s_bK2, s_pks0, s_pksV, s_pksO, s_pkC, s_map, s_tup, s_lst, s_tupK, s_lstK, s_vals0, s_valsV, s_onB, s_bF, s_not, s_and, s_or, s_if, s_truth, s_itT, s_itF, sE_ok, sE_err, sV_val, sV_new, s_onE, s_onV, s_nop, s_seq, s_sqN, s_sqR, s_sqE, s_drop, s_retS, s_ifS, s_ifF, s_setV, s_setN, s_set, s_asg, s_asgK, s_tName, s_obK, s_tTup, s_ts0, s_tsC, s_call, s_callE, s_endV, s_endN, s_getS, s_gkO, s_gkB, s_gkV, s_putS, s_pkkO, s_pkkB, s_subL, s_subK, s_tSub, s_toSl0, s_toSlV, s_toSlO, s_toSlR, s_callK, s_pb0, s_pbN, s_pbS, s_out0, s_outB, s_outW, s_clV, s_clN, s_clR, s_clkV, s_clkO, s_rkN, s_rkR, s_rkE, s_run0, s_run1, s_run2, s_run3, s_run4, s_run5, s_run6, s_rp0, s_rpS, s_at3a, s_at3b, s_at3c, s_at2a, s_at2b, s_ix30, s_ix31, s_ix32, s_sl, s_slF, s_part0, s_partS, s_ptF, s_strM, s_stF, s_onIt, s_itK, s_for, s_forK, s_lc, s_lcK, s_rng1, s_rgK, s_methV, s_onIns, s_mkR, s_mkK, s_makeE, s_make, s_fldK, s_fld, s_apR, s_apL, s_apK, s_app, s_ch2, s_chT, s_chF, s_chFF, s_chain, s_wipe, s_rest, s_ov0, s_ovS, s_co0, s_coS, s_okC0, s_okCS, s_okN, s_okV, s_fV, s_lcStep, s_eqI, s_neI, s_eqS, s_neS, List.length_cons, List.length_nil, List.map_cons, List.map_nil, List.cons_append, List.nil_append, List.append_nil, List.getElem?_cons_zero, List.getElem?_cons_succ, List.set_cons_zero, List.set_cons_succ, List.filterMap_cons, List.filterMap_nil, id, s_itT, s_itF, Bool.false_eq_true, if_true, if_false, Nat.reduceAdd, Nat.zero_add, Nat.reduceLT, Nat.reduceEqDiff, Nat.reduceLeDiff, Int.reduceLT, Int.reduceLE, Int.reduceNeg, Int.reduceAdd, Int.reduceMul, Int.reduceMod, and_self, and_true, true_and, List.nodup_cons, List.nodup_nil, List.not_mem_nil, not_false_eq_true, Nat.reduceBEq, Bool.or_false, Bool.or_true])
  rw [List.map_map] at lc
  have e : (ps.map ((fun d => match d with
    | .tup [a, _] => a
    | _ => .non) ∘ pr)) = ps.map fun p => .str p.1 := rfl
  rw [e] at lc
  simp only [kE_ok, kE_err, kV_val, kV_new, s_bindR, s_bindV, s_cC, s_ret, s_cVar, s_varV, s_varO, s_varB, s_peekV, s_peekN, s_peekR, s_pkV, s_pkO, s_pkB, s_toVR, s_tvV, s_tvO, s_toVV, s_toVN, s_toDl, s_toDi, s_done, s_outV, s_outN, s_op2, s_op2F, s_op2K, s_op1, s_op1K, s_evs0, s_evsV, s_evsR, s_cB, s_bK, s_bK2, s_pks0, s_pksV, s_pksO, s_pkC, s_map, s_tup, s_lst, s_tupK, s_lstK, s_vals0, s_valsV, s_onB, s_bF, s_not, s_and, s_or, s_if, s_truth, s_itT, s_itF, sE_ok, sE_err, sV_val, sV_new, s_onE, s_onV, s_nop, s_seq, s_sqN, s_sqR, s_sqE, s_drop, s_retS, s_ifS, s_ifF, s_setV, s_setN, s_set, s_asg, s_asgK, s_tName, s_obK, s_tTup, s_ts0, s_tsC, s_call, s_callE, s_endV, s_endN, s_getS, s_gkO, s_gkB, s_gkV, s_putS, s_pkkO, s_pkkB, s_subL, s_subK, s_tSub, s_toSl0, s_toSlV, s_toSlO, s_toSlR, s_callK, s_pb0, s_pbN, s_pbS, s_out0, s_outB, s_outW, s_clV, s_clN, s_clR, s_clkV, s_clkO, s_rkN, s_rkR, s_rkE, s_run0, s_run1, s_run2, s_run3, s_run4, s_run5, s_run6, s_rp0, s_rpS, s_at3a, s_at3b, s_at3c, s_at2a, s_at2b, s_ix30, s_ix31, s_ix32, s_sl, s_slF, s_part0, s_partS, s_ptF, s_strM, s_stF, s_onIt, s_itK, s_for, s_forK, s_lc, s_lcK, s_rng1, s_rgK, s_methV, s_onIns, s_mkR, s_mkK, s_makeE, s_make, s_fldK, s_fld, s_apR, s_apL, s_apK, s_app, s_ch2, s_chT, s_chF, s_chFF, s_chain, s_wipe, s_rest, s_ov0, s_ovS, s_co0, s_coS, s_okC0, s_okCS, s_okN, s_okV, s_fV, s_lcStep, s_eqI, s_neI, s_eqS, s_neS, List.length_cons, List.length_nil, List.map_cons, List.map_nil, List.cons_append, List.nil_append, List.append_nil, List.getElem?_cons_zero, List.getElem?_cons_succ, List.set_cons_zero, List.set_cons_succ, List.filterMap_cons, List.filterMap_nil, id, s_itT, s_itF, Bool.false_eq_true, if_true, if_false, Nat.reduceAdd, Nat.zero_add, Nat.reduceLT, Nat.reduceEqDiff, Nat.reduceLeDiff, Int.reduceLT, Int.reduceLE, Int.reduceNeg, Int.reduceAdd, Int.reduceMul, Int.reduceMod, and_self, and_true, true_and, List.nodup_cons, List.nodup_nil, List.not_mem_nil, not_false_eq_true, attr0, itAny, lc, gTuple, List.getElem?_nil, Option.getD_some, Nat.reduceBEq, Bool.or_false, Bool.or_true, Bool.and_self]
theorem clen_ok (ps : List (Str × Int)) : d_Catalog___len__ [.val (cat ps)] = some (.ok (.val (.int ps.length)), [none]) := by
  unfold d_Catalog___len__ b_Catalog___len__ cat
  simp only [kE_ok, kE_err, kV_val, kV_new, s_bindR, s_bindV, s_cC, s_ret, s_cVar, s_varV, s_varO, s_varB, s_peekV, s_peekN, s_peekR, s_pkV, s_pkO, s_pkB, s_toVR, s_tvV, s_tvO, s_toVV, s_toVN, s_toDl, s_toDi, s_done, s_outV, s_outN, s_op2, s_op2F, s_op2K, s_op1, s_op1K, s_evs0, s_evsV, s_evsR, s_cB, s_bK, s_bK2, s_pks0, s_pksV, s_pksO, s_pkC, s_map, s_tup, s_lst, s_tupK, s_lstK, s_vals0, s_valsV, s_onB, s_bF, s_not, s_and, s_or, s_if, s_truth, s_itT, s_itF, sE_ok, sE_err, sV_val, sV_new, s_onE, s_onV, s_nop, s_seq, s_sqN, s_sqR, s_sqE, s_drop, s_retS, s_ifS, s_ifF, s_setV, s_setN, s_set, s_asg, s_asgK, s_tName, s_obK, s_tTup, s_ts0, s_tsC, s_call, s_callE, s_endV, s_endN, s_getS, s_gkO, s_gkB, s_gkV, s_putS, s_pkkO, s_pkkB, s_subL, s_subK, s_tSub, s_toSl0, s_toSlV, s_toSlO, s_toSlR, s_callK, s_pb0, s_pbN, s_pbS, s_out0, s_outB, s_outW, s_clV, s_clN, s_clR, s_clkV, s_clkO, s_rkN, s_rkR, s_rkE, s_run0, s_run1, s_run2, s_run3, s_run4, s_run5, s_run6, s_rp0, s_rpS, s_at3a, s_at3b, s_at3c, s_at2a, s_at2b, s_ix30, s_ix31, s_ix32, s_sl, s_slF, s_part0, s_partS, s_ptF, s_strM, s_stF, s_onIt, s_itK, s_for, s_forK, s_lc, s_lcK, s_rng1, s_rgK, s_methV, s_onIns, s_mkR, s_mkK, s_makeE, s_make, s_fldK, s_fld, s_apR, s_apL, s_apK, s_app, s_ch2, s_chT, s_chF, s_chFF, s_chain, s_wipe, s_rest, s_ov0, s_ovS, s_co0, s_coS, s_okC0, s_okCS, s_okN, s_okV, s_fV, s_lcStep, s_eqI, s_neI, s_eqS, s_neS, List.length_cons, List.length_nil, List.map_cons, List.map_nil, List.cons_append, List.nil_append, List.append_nil, List.getElem?_cons_zero, List.getElem?_cons_succ, List.set_cons_zero, List.set_cons_succ, List.filterMap_cons, List.filterMap_nil, id, s_itT, s_itF, Bool.false_eq_true, if_true, if_false, Nat.reduceAdd, Nat.zero_add, Nat.reduceLT, Nat.reduceEqDiff, Nat.reduceLeDiff, Int.reduceLT, Int.reduceLE, Int.reduceNeg, Int.reduceAdd, Int.reduceMul, Int.reduceMod, and_self, and_true, true_and, List.nodup_cons, List.nodup_nil, List.not_mem_nil, not_false_eq_true, attr0, gLen, lenD, List.length_map]
/-! top_of -/
def topM : DSt := cIfS (cAnd (cTruth (cB (gIsi 1) [.r (cVar 1), .r (cC (.ty "str"))])) (cOp2 gEq (cVar 2) (cVar 1))) (cRet (cVar 3)) cNop
theorem top_loop (A : Sl) (s : Str) (t : Int) : ∀ (ps : List (Str × Int)) (x y : Option Sl), (s, t) ∈ ps → (ps.map (·.1)).Nodup →
    ∃ x' y', loop (Pd.tTup 2 (tsCons (tName 2) (tsCons (tName 3) tsNil))) topM (ps.map pr) [some A, some (.val (.str s)), x, y] = some (.ret (.val (.int t)), [some A, some (.val (.str s)), x', y'])
  | [], _, _, h, _ => absurd h List.not_mem_nil
  | p :: ps, x, y, h, nd => by
    obtain ⟨n1, n2⟩ := List.nodup_cons.mp nd
    rw [List.map_cons]
    unfold loop
    have tg : Pd.tTup 2 (tsCons (tName 2) (tsCons (tName 3) tsNil)) (pr p) [some A, some (.val (.str s)), x, y] = some [some A, some (.val (.str s)), some (.val (.str p.1)), some (.val (.int p.2))] := by
      unfold pr
      simp only [kE_ok, kE_err, kV_val, kV_new, s_bindR, s_bindV, s_cC, s_ret, s_cVar, s_varV, s_varO, s_varB, s_peekV, s_peekN, s_peekR, s_pkV, s_pkO, s_pkB, s_toVR, s_tvV, s_tvO, s_toVV, s_toVN, s_toDl, s_toDi, s_done, s_outV, s_outN, s_op2, s_op2F, s_op2K, s_op1, s_op1K, s_evs0, s_evsV, s_evsR, s_cB, s_bK, s_bK2, s_pks0, s_pksV, s_pksO, s_pkC, s_map, s_tup, s_lst, s_tupK, s_lstK, s_vals0, s_valsV, s_onB, s_bF, s_not, s_and, s_or, s_if, s_truth, s_itT, s_itF, sE_ok, sE_err, sV_val, sV_new, s_onE, s_onV, s_nop, s_seq, s_sqN, s_sqR, s_sqE, s_drop, s_retS, s_ifS, s_ifF, s_setV, s_setN, s_set, s_asg, s_asgK, s_tName, s_obK, s_tTup, s_ts0, s_tsC, s_call, s_callE, s_endV, s_endN, s_getS, s_gkO, s_gkB, s_gkV, s_putS, s_pkkO, s_pkkB, s_subL, s_subK, s_tSub, s_toSl0, s_toSlV, s_toSlO, s_toSlR, s_callK, s_pb0, s_pbN, s_pbS, s_out0, s_outB, s_outW, s_clV, s_clN, s_clR, s_clkV, s_clkO, s_rkN, s_rkR, s_rkE, s_run0, s_run1, s_run2, s_run3, s_run4, s_run5, s_run6, s_rp0, s_rpS, s_at3a, s_at3b, s_at3c, s_at2a, s_at2b, s_ix30, s_ix31, s_ix32, s_sl, s_slF, s_part0, s_partS, s_ptF, s_strM, s_stF, s_onIt, s_itK, s_for, s_forK, s_lc, s_lcK, s_rng1, s_rgK, s_methV, s_onIns, s_mkR, s_mkK, s_makeE, s_make, s_fldK, s_fld, s_apR, s_apL, s_apK, s_app, s_ch2, s_chT, s_chF, s_chFF, s_chain, s_wipe, s_rest, s_ov0, s_ovS, s_co0, s_coS, s_okC0, s_okCS, s_okN, s_okV, s_fV, s_lcStep, s_eqI, s_neI, s_eqS, s_neS, List.length_cons, List.length_nil, List.map_cons, List.map_nil, List.cons_append, List.nil_append, List.append_nil, List.getElem?_cons_zero, List.getElem?_cons_succ, List.set_cons_zero, List.set_cons_succ, List.filterMap_cons, List.filterMap_nil, id, s_itT, s_itF, Bool.false_eq_true, if_true, if_false, Nat.reduceAdd, Nat.zero_add, Nat.reduceLT, Nat.reduceEqDiff, Nat.reduceLeDiff, Int.reduceLT, Int.reduceLE, Int.reduceNeg, Int.reduceAdd, Int.reduceMul, Int.reduceMod, and_self, and_true, true_and, List.nodup_cons, List.nodup_nil, List.not_mem_nil, not_false_eq_true]
    rw [tg]
    dsimp only
    by_cases e : p.1 = s
    · have e2 : p.2 = t := by
        rcases List.mem_cons.mp h with h | h
        · rw [← h]
        · exact absurd (List.mem_map.mpr ⟨(s, t), h, e.symm⟩) n1
      have st : topM [some A, some (.val (.str s)), some (.val (.str p.1)), some (.val (.int p.2))] = some (.ret (.val (.int p.2)), [some A, some (.val (.str s)), some (.val (.str p.1)), some (.val (.int p.2))]) := by
        unfold topM
        have eq : (p.1 == s) = true := beq_iff_eq.mpr e
        simp only [kE_ok, kE_err, kV_val, kV_new, s_bindR, s_bindV, s_cC, s_ret, s_cVar, s_varV, s_varO, s_varB, s_peekV, s_peekN, s_peekR, s_pkV, s_pkO, s_pkB, s_toVR, s_tvV, s_tvO, s_toVV, s_toVN, s_toDl, s_toDi, s_done, s_outV, s_outN, s_op2, s_op2F, s_op2K, s_op1, s_op1K, s_evs0, s_evsV, s_evsR, s_cB, s_bK, s_bK2, s_pks0, s_pksV, s_pksO, s_pkC, s_map, s_tup, s_lst, s_tupK, s_lstK, s_vals0, s_valsV, s_onB, s_bF, s_not, s_and, s_or, s_if, s_truth, s_itT, s_itF, sE_ok, sE_err, sV_val, sV_new, s_onE, s_onV, s_nop, s_seq, s_sqN, s_sqR, s_sqE, s_drop, s_retS, s_ifS, s_ifF, s_setV, s_setN, s_set, s_asg, s_asgK, s_tName, s_obK, s_tTup, s_ts0, s_tsC, s_call, s_callE, s_endV, s_endN, s_getS, s_gkO, s_gkB, s_gkV, s_putS, s_pkkO, s_pkkB, s_subL, s_subK, s_tSub, s_toSl0, s_toSlV, s_toSlO, s_toSlR, s_callK, s_pb0, s_pbN, s_pbS, s_out0, s_outB, s_outW, s_clV, s_clN, s_clR, s_clkV, s_clkO, s_rkN, s_rkR, s_rkE, s_run0, s_run1, s_run2, s_run3, s_run4, s_run5, s_run6, s_rp0, s_rpS, s_at3a, s_at3b, s_at3c, s_at2a, s_at2b, s_ix30, s_ix31, s_ix32, s_sl, s_slF, s_part0, s_partS, s_ptF, s_strM, s_stF, s_onIt, s_itK, s_for, s_forK, s_lc, s_lcK, s_rng1, s_rgK, s_methV, s_onIns, s_mkR, s_mkK, s_makeE, s_make, s_fldK, s_fld, s_apR, s_apL, s_apK, s_app, s_ch2, s_chT, s_chF, s_chFF, s_chain, s_wipe, s_rest, s_ov0, s_ovS, s_co0, s_coS, s_okC0, s_okCS, s_okN, s_okV, s_fV, s_lcStep, s_eqI, s_neI, s_eqS, s_neS, List.length_cons, List.length_nil, List.map_cons, List.map_nil, List.cons_append, List.nil_append, List.append_nil, List.getElem?_cons_zero, List.getElem?_cons_succ, List.set_cons_zero, List.set_cons_succ, List.filterMap_cons, List.filterMap_nil, id, s_itT, s_itF, Bool.false_eq_true, if_true, if_false, Nat.reduceAdd, Nat.zero_add, Nat.reduceLT, Nat.reduceEqDiff, Nat.reduceLeDiff, Int.reduceLT, Int.reduceLE, Int.reduceNeg, Int.reduceAdd, Int.reduceMul, Int.reduceMod, and_self, and_true, true_and, List.nodup_cons, List.nodup_nil, List.not_mem_nil, not_false_eq_true, isi_ss, truth, eq]
      rw [st, e2]
      exact ⟨_, _, rfl⟩
    · have h' : (s, t) ∈ ps := (List.mem_cons.mp h).resolve_left fun z => e (by rw [← z])
      have st : topM [some A, some (.val (.str s)), some (.val (.str p.1)), some (.val (.int p.2))] = some (.nx, [some A, some (.val (.str s)), some (.val (.str p.1)), some (.val (.int p.2))]) := by
        unfold topM
        have eq : (p.1 == s) = false := beq_eq_false_iff_ne.mpr e
        simp only [kE_ok, kE_err, kV_val, kV_new, s_bindR, s_bindV, s_cC, s_ret, s_cVar, s_varV, s_varO, s_varB, s_peekV, s_peekN, s_peekR, s_pkV, s_pkO, s_pkB, s_toVR, s_tvV, s_tvO, s_toVV, s_toVN, s_toDl, s_toDi, s_done, s_outV, s_outN, s_op2, s_op2F, s_op2K, s_op1, s_op1K, s_evs0, s_evsV, s_evsR, s_cB, s_bK, s_bK2, s_pks0, s_pksV, s_pksO, s_pkC, s_map, s_tup, s_lst, s_tupK, s_lstK, s_vals0, s_valsV, s_onB, s_bF, s_not, s_and, s_or, s_if, s_truth, s_itT, s_itF, sE_ok, sE_err, sV_val, sV_new, s_onE, s_onV, s_nop, s_seq, s_sqN, s_sqR, s_sqE, s_drop, s_retS, s_ifS, s_ifF, s_setV, s_setN, s_set, s_asg, s_asgK, s_tName, s_obK, s_tTup, s_ts0, s_tsC, s_call, s_callE, s_endV, s_endN, s_getS, s_gkO, s_gkB, s_gkV, s_putS, s_pkkO, s_pkkB, s_subL, s_subK, s_tSub, s_toSl0, s_toSlV, s_toSlO, s_toSlR, s_callK, s_pb0, s_pbN, s_pbS, s_out0, s_outB, s_outW, s_clV, s_clN, s_clR, s_clkV, s_clkO, s_rkN, s_rkR, s_rkE, s_run0, s_run1, s_run2, s_run3, s_run4, s_run5, s_run6, s_rp0, s_rpS, s_at3a, s_at3b, s_at3c, s_at2a, s_at2b, s_ix30, s_ix31, s_ix32, s_sl, s_slF, s_part0, s_partS, s_ptF, s_strM, s_stF, s_onIt, s_itK, s_for, s_forK, s_lc, s_lcK, s_rng1, s_rgK, s_methV, s_onIns, s_mkR, s_mkK, s_makeE, s_make, s_fldK, s_fld, s_apR, s_apL, s_apK, s_app, s_ch2, s_chT, s_chF, s_chFF, s_chain, s_wipe, s_rest, s_ov0, s_ovS, s_co0, s_coS, s_okC0, s_okCS, s_okN, s_okV, s_fV, s_lcStep, s_eqI, s_neI, s_eqS, s_neS, List.length_cons, List.length_nil, List.map_cons, List.map_nil, List.cons_append, List.nil_append, List.append_nil, List.getElem?_cons_zero, List.getElem?_cons_succ, List.set_cons_zero, List.set_cons_succ, List.filterMap_cons, List.filterMap_nil, id, s_itT, s_itF, Bool.false_eq_true, if_true, if_false, Nat.reduceAdd, Nat.zero_add, Nat.reduceLT, Nat.reduceEqDiff, Nat.reduceLeDiff, Int.reduceLT, Int.reduceLE, Int.reduceNeg, Int.reduceAdd, Int.reduceMul, Int.reduceMod, and_self, and_true, true_and, List.nodup_cons, List.nodup_nil, List.not_mem_nil, not_false_eq_true, isi_ss, truth, eq]
      rw [st]
      exact top_loop A s t ps _ _ h' n2
theorem top_ok (ps : List (Str × Int)) (p : Str × Int) (h : p ∈ ps) (nd : (ps.map (·.1)).Nodup) : d_Catalog_top_of [.val (cat ps), .val (.str p.1)] = some (.ok (.val (.int p.2)), [none, none]) := by
  unfold d_Catalog_top_of b_Catalog_top_of cat
  obtain ⟨x', y', hl⟩ := top_loop (.val (.ins 0 [.tup (ps.map pr)])) p.1 p.2 ps none none h nd
  unfold topM at hl
  simp only [kE_ok, kE_err, kV_val, kV_new, s_bindR, s_bindV, s_cC, s_ret, s_cVar, s_varV, s_varO, s_varB, s_peekV, s_peekN, s_peekR, s_pkV, s_pkO, s_pkB, s_toVR, s_tvV, s_tvO, s_toVV, s_toVN, s_toDl, s_toDi, s_done, s_outV, s_outN, s_op2, s_op2F, s_op2K, s_op1, s_op1K, s_evs0, s_evsV, s_evsR, s_cB, s_bK, s_bK2, s_pks0, s_pksV, s_pksO, s_pkC, s_map, s_tup, s_lst, s_tupK, s_lstK, s_vals0, s_valsV, s_onB, s_bF, s_not, s_and, s_or, s_if, s_truth, s_itT, s_itF, sE_ok, sE_err, sV_val, sV_new, s_onE, s_onV, s_nop, s_seq, s_sqN, s_sqR, s_sqE, s_drop, s_retS, s_ifS, s_ifF, s_setV, s_setN, s_set, s_asg, s_asgK, s_tName, s_obK, s_tTup, s_ts0, s_tsC, s_call, s_callE, s_endV, s_endN, s_getS, s_gkO, s_gkB, s_gkV, s_putS, s_pkkO, s_pkkB, s_subL, s_subK, s_tSub, s_toSl0, s_toSlV, s_toSlO, s_toSlR, s_callK, s_pb0, s_pbN, s_pbS, s_out0, s_outB, s_outW, s_clV, s_clN, s_clR, s_clkV, s_clkO, s_rkN, s_rkR, s_rkE, s_run0, s_run1, s_run2, s_run3, s_run4, s_run5, s_run6, s_rp0, s_rpS, s_at3a, s_at3b, s_at3c, s_at2a, s_at2b, s_ix30, s_ix31, s_ix32, s_sl, s_slF, s_part0, s_partS, s_ptF, s_strM, s_stF, s_onIt, s_itK, s_for, s_forK, s_lc, s_lcK, s_rng1, s_rgK, s_methV, s_onIns, s_mkR, s_mkK, s_makeE, s_make, s_fldK, s_fld, s_apR, s_apL, s_apK, s_app, s_ch2, s_chT, s_chF, s_chFF, s_chain, s_wipe, s_rest, s_ov0, s_ovS, s_co0, s_coS, s_okC0, s_okCS, s_okN, s_okV, s_fV, s_lcStep, s_eqI, s_neI, s_eqS, s_neS, List.length_cons, List.length_nil, List.map_cons, List.map_nil, List.cons_append, List.nil_append, List.append_nil, List.getElem?_cons_zero, List.getElem?_cons_succ, List.set_cons_zero, List.set_cons_succ, List.filterMap_cons, List.filterMap_nil, id, s_itT, s_itF, Bool.false_eq_true, if_true, if_false, Nat.reduceAdd, Nat.zero_add, Nat.reduceLT, Nat.reduceEqDiff, Nat.reduceLeDiff, Int.reduceLT, Int.reduceLE, Int.reduceNeg, Int.reduceAdd, Int.reduceMul, Int.reduceMod, and_self, and_true, true_and, List.nodup_cons, List.nodup_nil, List.not_mem_nil, not_false_eq_true, attr0, itAny, hl]
end Lwk01

namespace Lwk01
open PySem PySem.Spec PyProof.Rows L2 Pd
/-! what repr shows -/
theorem repr_ok {d : D} {p : PyData} (h : d.py = some p) (h1 : p.depth ≤ 60) (h2 : p.showable = true) (h3 : fitsR p = true) : gRepr [d] = some (.val (.str p.shown)) := by
  show (shownD d).map _ = _
  unfold shownD
  rw [h]
  show (if p.depth ≤ 60 ∧ p.showable = true ∧ fitsR p = true then some p.shown else none).map _ = _
  rw [if_pos ⟨h1, h2, h3⟩]
  rfl
/-- small data: n numbers and texts, the texts to 8 signs, the numbers to 12 -/
structure Sm (p : PyData) (w k : Nat) : Prop where
  dp : p.depth ≤ k
  sh : p.showable = true
  wt : p.weight ≤ w
  is : p.intsShort 13 = true
structure Sms (ps : List PyData) (w k : Nat) : Prop where
  dp : PyData.depthAll ps ≤ k
  sh : PyData.showableAll ps = true
  wt : PyData.weightAll ps ≤ w
  is : PyData.intsShortAll 13 ps = true
theorem sms_nil {w k : Nat} : Sms [] w k := ⟨Nat.zero_le _, rfl, Nat.zero_le _, rfl⟩
theorem sms_cons {p : PyData} {ps : List PyData} {w v k : Nat} (h : Sm p w k) (r : Sms ps v k) : Sms (p :: ps) (w + 1 + v) k :=
  ⟨Nat.max_le.mpr ⟨h.dp, r.dp⟩, by show (_ && _) = true; rw [h.sh, r.sh]; rfl, by show _ + 1 + _ ≤ _; have := h.wt; have := r.wt; omega, by show (_ && _) = true; rw [h.is, r.is]; rfl⟩
theorem sm_tup {ps : List PyData} {w k : Nat} (r : Sms ps w k) : Sm (.tuple ps) w (k + 1) := ⟨Nat.succ_le_succ r.dp, r.sh, r.wt, r.is⟩
theorem sm_lst {ps : List PyData} {w k : Nat} (r : Sms ps w k) : Sm (.list ps) w (k + 1) := ⟨Nat.succ_le_succ r.dp, r.sh, r.wt, r.is⟩
theorem sm_str {s : Str} (h : s.length ≤ 8) {k : Nat} : Sm (.str s) 8 k := ⟨Nat.zero_le _, rfl, h, rfl⟩
theorem sm_bool {b : Bool} {k : Nat} : Sm (.bool b) 8 k := ⟨Nat.zero_le _, rfl, by show 0 ≤ 8; decide, rfl⟩
theorem nums : ∀ n, n < 13 → ((decide (((n : Nat) : Int).natAbs.log2 < 1920)) && decide ((PyData.int ((n : Nat) : Int)).weight ≤ 8) && (PyData.int ((n : Nat) : Int)).intsShort 13) = true := by decide +kernel
theorem sm_int {i : Int} (h0 : 0 ≤ i) (h1 : i ≤ 12) {k : Nat} : Sm (.int i) 8 k := by
  obtain ⟨n, rfl⟩ : ∃ n : Nat, i = n := ⟨i.toNat, by omega⟩
  have := nums n (by omega)
  rw [Bool.and_eq_true_iff, Bool.and_eq_true_iff] at this
  exact ⟨Nat.zero_le _, this.1.1, of_decide_eq_true this.1.2, this.2⟩
theorem sm_fit {p : PyData} {w k : Nat} (h : Sm p w k) (hw : w ≤ 10000) : fitsR p = true := by
  unfold fitsR
  rw [decide_eq_true (Nat.le_trans h.wt (Nat.le_trans hw (by decide))), h.is]
  rfl
theorem sm_repr {d : D} {p : PyData} {w k : Nat} (h : d.py = some p) (s : Sm p w k) (hw : w ≤ 10000) (hk : k ≤ 60) : ∃ s, gRepr [d] = some (.val (.str s)) := ⟨_, repr_ok h (Nat.le_trans s.dp hk) s.sh (sm_fit s hw)⟩
theorem ps_py : ∀ (ps : List (Str × Int)), (∀ p ∈ ps, good p.1 ∧ 0 ≤ p.2 ∧ p.2 ≤ 9) → ∃ qs, D.pys (ps.map pr) = some qs ∧ Sms qs (ps.length * 19) 1
  | [], _ => ⟨[], rfl, sms_nil⟩
  | p :: ps, h => by
    obtain ⟨qs, h1, h2⟩ := ps_py ps fun q hq => h q (List.mem_cons_of_mem _ hq)
    have g := h p List.mem_cons_self
    have s1 : Sm (.tuple [.str p.1, .int p.2]) 18 1 := sm_tup (sms_cons (sm_str g.1.2.1) (sms_cons (sm_int g.2.1 (by omega)) (sms_nil (w := 0))))
    refine ⟨.tuple [.str p.1, .int p.2] :: qs, ?_, ?_⟩
    · rw [List.map_cons]
      show (match D.py (pr p), D.pys (ps.map pr) with
        | some p, some ps => some (p :: ps)
        | _, _ => none) = _
      rw [h1]
      rfl
    · have := sms_cons s1 h2
      rw [List.length_cons]
      exact ⟨this.dp, this.sh, by have := this.wt; omega, this.is⟩
theorem ss_py : ∀ (ps : List (Str × Int)), (∀ p ∈ ps, good p.1) → ∃ qs, D.pys (ps.map fun p => .str p.1) = some qs ∧ Sms qs (ps.length * 9) 1
  | [], _ => ⟨[], rfl, sms_nil⟩
  | p :: ps, h => by
    obtain ⟨qs, h1, h2⟩ := ss_py ps fun q hq => h q (List.mem_cons_of_mem _ hq)
    refine ⟨.str p.1 :: qs, ?_, ?_⟩
    · rw [List.map_cons]
      show (match some (PyData.str p.1), D.pys (ps.map fun p => .str p.1) with
        | some p, some ps => some (p :: ps)
        | _, _ => none) = _
      rw [h1]
    · have := sms_cons (sm_str (h p List.mem_cons_self).2.1 (k := 1)) h2
      rw [List.length_cons]
      exact ⟨this.dp, this.sh, by have := this.wt; omega, this.is⟩
theorem py_tup {ds : List D} {qs : List PyData} (h : D.pys ds = some qs) : (D.tup ds).py = some (.tuple qs) := by
  show (D.pys ds).map _ = _
  rw [h]
  rfl
theorem py_two {d e : D} {p q : PyData} (h1 : d.py = some p) (h2 : e.py = some q) : (D.lst [d, e]).py = some (.list [p, q]) := by
  show (match d.py, D.pys [e] with
    | some p, some ps => some (p :: ps)
    | _, _ => none).map _ = _
  have : D.pys [e] = some [q] := by
    show (match e.py, some [] with
      | some p, some ps => some (p :: ps)
      | _, _ => none) = _
    rw [h2]
  rw [h1, this]
  rfl
end Lwk01

namespace Lwk01
open PySem PySem.Spec PyProof.Rows L2 Pd
def jF (fs : List DEn) (acc : Str) (r : Out) : DEn := match r with
  | .val (.str s) => if (acc ++ s).length ≤ LIM then joins fs (acc ++ s) else fun _ => none
  | _ => fun _ => none
theorem s_jn {f : DEn} {fs : List DEn} {acc : Str} {env : Sv} : joins (f :: fs) acc env = kE (f env) (jF fs acc) := by
  show bindR f _ env = _
  rw [s_bindR]
  congr 1
theorem s_j0 {acc : Str} {env : Sv} : joins [] acc env = some (.ok (.val (.str acc)), env) := rfl
theorem s_jF {fs : List DEn} {acc s : Str} : jF fs acc (.val (.str s)) = if (acc ++ s).length ≤ LIM then joins fs (acc ++ s) else fun _ => none := rfl
def shownCat (n : Nat) : Str := ("Catalog(" : Str) ++ natS (n : Int) ++ (")" : Str)
theorem cat_facts : ∀ n, n < 13 → (decide (((n : Nat) : Int).natAbs.log2 < 1920) && decide ((natS (n : Int)).length ≤ 100) && decide ((Str.empty ++ Str.ofString "Catalog(").length ≤ 100) && decide ((Str.empty ++ Str.ofString "Catalog(" ++ natS (n : Int)).length ≤ 100) && decide ((Str.empty ++ Str.ofString "Catalog(" ++ natS (n : Int) ++ Str.ofString ")").length ≤ 100)
    && decide ((Str.empty ++ Str.ofString "Catalog(" ++ natS (n : Int) ++ Str.ofString ")").cps.toList = (shownCat n).cps.toList) && decide ((Str.ofString "Catalog(" ++ natS (n : Int)).length ≤ 100) && decide ((shownCat n).length ≤ 100)) = true := by decide +kernel
theorem crepr_ok (ps : List (Str × Int)) (hn : ps.length ≤ 12) : d_Catalog___repr__ [.val (cat ps)] = some (.ok (.val (.str (shownCat ps.length))), [none]) := by
  have F := cat_facts ps.length (by omega)
  simp only [Bool.and_eq_true, decide_eq_true_eq] at F
  obtain ⟨⟨⟨⟨⟨⟨⟨f1, f2⟩, f3⟩, f4⟩, f5⟩, f6⟩, f7⟩, f8⟩ := F
  have big : ∀ {k : Nat}, k ≤ 100 → k ≤ LIM := fun h => Nat.le_trans h (by decide)
  have hf : gFmt (.int (ps.length : Int)) = some (.val (.str (natS (ps.length : Int)))) := if_pos ⟨f1, big f2⟩
  unfold d_Catalog___repr__ b_Catalog___repr__ cat
  simp only [kE_ok, kE_err, kV_val, kV_new, s_bindR, s_bindV, s_cC, s_ret, s_cVar, s_varV, s_varO, s_varB, s_peekV, s_peekN, s_peekR, s_pkV, s_pkO, s_pkB, s_toVR, s_tvV, s_tvO, s_toVV, s_toVN, s_toDl, s_toDi, s_done, s_outV, s_outN, s_op2, s_op2F, s_op2K, s_op1, s_op1K, s_evs0, s_evsV, s_evsR, s_cB, s_bK, s_bK2, s_pks0, s_pksV, s_pksO, s_pkC, s_map, s_tup, s_lst, s_tupK, s_lstK, s_vals0, s_valsV, s_onB, s_bF, s_not, s_and, s_or, s_if, s_truth, s_itT, s_itF, sE_ok, sE_err, sV_val, sV_new, s_onE, s_onV, s_nop, s_seq, s_sqN, s_sqR, s_sqE, s_drop, s_retS, s_ifS, s_ifF, s_setV, s_setN, s_set, s_asg, s_asgK, s_tName, s_obK, s_tTup, s_ts0, s_tsC, s_call, s_callE, s_endV, s_endN, s_getS, s_gkO, s_gkB, s_gkV, s_putS, s_pkkO, s_pkkB, s_subL, s_subK, s_tSub, s_toSl0, s_toSlV, s_toSlO, s_toSlR, s_callK, s_pb0, s_pbN, s_pbS, s_out0, s_outB, s_outW, s_clV, s_clN, s_clR, s_clkV, s_clkO, s_rkN, s_rkR, s_rkE, s_run0, s_run1, s_run2, s_run3, s_run4, s_run5, s_run6, s_rp0, s_rpS, s_at3a, s_at3b, s_at3c, s_at2a, s_at2b, s_ix30, s_ix31, s_ix32, s_sl, s_slF, s_part0, s_partS, s_ptF, s_strM, s_stF, s_onIt, s_itK, s_for, s_forK, s_lc, s_lcK, s_rng1, s_rgK, s_methV, s_onIns, s_mkR, s_mkK, s_makeE, s_make, s_fldK, s_fld, s_apR, s_apL, s_apK, s_app, s_ch2, s_chT, s_chF, s_chFF, s_chain, s_wipe, s_rest, s_ov0, s_ovS, s_co0, s_coS, s_okC0, s_okCS, s_okN, s_okV, s_fV, s_lcStep, s_eqI, s_neI, s_eqS, s_neS, List.length_cons, List.length_nil, List.map_cons, List.map_nil, List.cons_append, List.nil_append, List.append_nil, List.getElem?_cons_zero, List.getElem?_cons_succ, List.set_cons_zero, List.set_cons_succ, List.filterMap_cons, List.filterMap_nil, id, s_itT, s_itF, Bool.false_eq_true, if_true, if_false, Nat.reduceAdd, Nat.zero_add, Nat.reduceLT, Nat.reduceEqDiff, Nat.reduceLeDiff, Int.reduceLT, Int.reduceLE, Int.reduceNeg, Int.reduceAdd, Int.reduceMul, Int.reduceMod, and_self, and_true, true_and, List.nodup_cons, List.nodup_nil, List.not_mem_nil, not_false_eq_true, s_jn, s_jF, s_j0, attr0, gLen, lenD, List.length_map, hf, big f3, big f4, big f5]
  rw [str_ext f6]
theorem lt63 {i : Int} (h : i ≤ 12) : i < 2 ^ 63 := Int.lt_of_le_of_lt h (by decide)
theorem oLen_ok (i : Int) (h0 : 0 ≤ i) (h1 : i ≤ 12) : oLen (.int i) = some (.val (.int i)) := by
  have h := lt63 h1
  unfold oLen
  simp only [h0, h, and_self, if_true]
theorem oBool_ok (i : Int) (h0 : 1 ≤ i) (h1 : i ≤ 12) : oBool (.int i) = some (.val (.bl true)) := by
  have h := lt63 h1
  have h' : 0 ≤ i := Int.le_trans (by decide) h0
  have e : (i != 0) = true := bne_iff_ne.mpr fun z => by rw [z] at h0; exact absurd h0 (by decide)
  unfold oBool
  simp only [h', h, e, and_self, if_true]
theorem own_one {m : FD} {B : D → Option Out} {c : Nat} {ds : List D} {r : D} {o : Out} {os : List (Option O)} (h : m [.val (.ins c ds)] = some (.ok (.val r), os)) (hB : B r = some o) : ownD [(c, m)] B [.ins c ds] = some o := by
  have e : ownE m (.ins c ds) = some r := by unfold ownE; rw [h]
  unfold ownD
  simp only [List.lookup_cons, BEq.rfl, Option.bind_some, e, hB]
theorem org_r {g g' : List D → Option Out} {ds : List D} (h : g ds = none) : orG g g' ds = g' ds := by
  unfold orG
  rw [h]
theorem own_len (ps : List (Str × Int)) (hn : ps.length ≤ 12) : orG gLen (ownD [(0, d_Catalog___len__)] oLen) [cat ps] = some (.val (.int ps.length)) := by
  rw [org_r rfl]
  exact own_one (clen_ok ps) (oLen_ok _ (by omega) (by omega))
theorem own_bool (ps : List (Str × Int)) (h1 : 1 ≤ ps.length) (hn : ps.length ≤ 12) : orG gBool (ownD [(0, d_Catalog___len__)] oBool) [cat ps] = some (.val (.bl true)) := by
  rw [org_r rfl]
  exact own_one (clen_ok ps) (oBool_ok _ (by omega) (by omega))
theorem own_repr (ps : List (Str × Int)) (hn : ps.length ≤ 12) : orG gRepr (ownD [(0, d_Catalog___repr__)] oStr) [cat ps] = some (.val (.str (shownCat ps.length))) := by
  rw [org_r rfl]
  exact own_one (crepr_ok ps hn) rfl
end Lwk01

namespace Lwk01
open PySem PySem.Spec PyProof.Rows L2 Pd
theorem str_of (ps : List (Str × Int)) (hn : ps.length ≤ 12) : gStr [.int (ps.length : Int)] = some (.val (.str (natS (ps.length : Int)))) := by
  have F := cat_facts ps.length (by omega)
  simp only [Bool.and_eq_true, decide_eq_true_eq] at F
  exact if_pos ⟨F.1.1.1.1.1.1.1, Nat.le_trans F.1.1.1.1.1.1.2 (by decide)⟩
def rtM : DSt := cIfS (cOp2 gNe (cB gRepr [.r (cLst [.v (cMethV 0 d_Catalog_top_of [0, 1] [] (cVar 0) [.v (cVar 3)]), .v (cMethV 0 d_Catalog_top_of [0, 1] [] (cVar 0) [.v (cVar 3)])])]) (cB gRepr [.r (cLst [.v (cVar 4), .v (cVar 4)])])) (cRet (cC (.bl false))) cNop
theorem attrC (ps : List (Str × Int)) : gAttr [(0, 0)] (cat ps) = some (.val (.tup (ps.map pr))) := rfl
theorem isiC (ps : List (Str × Int)) : gIsi 1 [cat ps, .cls 0] = some (.val (.bl true)) := rfl
theorem onInsC {f : DEn} (ps : List (Str × Int)) : onIns 0 (cat ps) f = f := by unfold cat; exact s_onIns

def eR (ps : List (Str × Int)) (z x y : Option Sl) : Sv := [some (.val (cat ps)), some (.val (.tup (ps.map pr))), z, x, y]
def lbD (ps : List (Str × Int)) : D := .tup (ps.map fun p => .str p.1)
def sm1 : DSt := cSet 2 (cB gTuple [.r (cLc (onIt (cVar 1) itAny) [3, 4] (tTup 2 (tsCons (tName 3) (tsCons (tName 4) tsNil))) cYes (cVar 3))])
theorem gp_of {ps : List (Str × Int)} (P : Pairs ps) : ∀ p ∈ ps, good p.1 ∧ 0 ≤ p.2 ∧ p.2 ≤ 9 := fun p hp => ⟨P.nm.ok _ (List.mem_map.mpr ⟨p, hp, rfl⟩), P.tp p hp⟩
theorem nd_of {ps : List (Str × Int)} (P : Pairs ps) : (ps.map (·.1)).Nodup := by
  rw [List.nodup_iff_pairwise_ne]
  exact P.nm.up.imp fun {a b} h e => by rw [e] at h; exact List.lt_irrefl _ h
theorem sm1_ok (ps : List (Str × Int)) : sm1 (eR ps none none none) = some (.nx, eR ps (some (.val (lbD ps))) none none) := by
  have lc : lcs [3, 4] (Pd.tTup 2 (tsCons (tName 3) (tsCons (tName 4) tsNil))) cYes (cVar 3) (ps.map pr) (eR ps none none none) = some (ps.map fun p => .str p.1, eR ps none none none) := lcsM_pure _ fun p hp => by
    unfold pr eR
    simp only [kE_ok, kE_err, kV_val, kV_new, s_bindR, s_bindV, s_cC, s_ret, s_cVar, s_varV, s_varO, s_varB, s_peekV, s_peekN, s_peekR, s_pkV, s_pkO, s_pkB, s_toVR, s_tvV, s_tvO, s_toVV, s_toVN, s_toDl, s_toDi, s_done, s_outV, s_outN, s_op2, s_op2F, s_op2K, s_op1, s_op1K, s_evs0, s_evsV, s_evsR, s_cB, s_bK, s_bK2, s_pks0, s_pksV, s_pksO, s_pkC, s_map, s_tup, s_lst, s_tupK, s_lstK, s_vals0, s_valsV, s_onB, s_bF, s_not, s_and, s_or, s_if, s_truth, s_itT, s_itF, sE_ok, sE_err, sV_val, sV_new, s_onE, s_onV, s_nop, s_seq, s_sqN, s_sqR, s_sqE, s_drop, s_retS, s_ifS, s_ifF, s_setV, s_setN, s_set, s_asg, s_asgK, s_tName, s_obK, s_tTup, s_ts0, s_tsC, s_call, s_callE, s_endV, s_endN, s_getS, s_gkO, s_gkB, s_gkV, s_putS, s_pkkO, s_pkkB, s_subL, s_subK, s_tSub, s_toSl0, s_toSlV, s_toSlO, s_toSlR, s_callK, s_pb0, s_pbN, s_pbS, s_out0, s_outB, s_outW, s_clV, s_clN, s_clR, s_clkV, s_clkO, s_rkN, s_rkR, s_rkE, s_run0, s_run1, s_run2, s_run3, s_run4, s_run5, s_run6, s_rp0, s_rpS, s_at3a, s_at3b, s_at3c, s_at2a, s_at2b, s_ix30, s_ix31, s_ix32, s_sl, s_slF, s_part0, s_partS, s_ptF, s_strM, s_stF, s_onIt, s_itK, s_for, s_forK, s_lc, s_lcK, s_rng1, s_rgK, s_methV, s_onIns, s_mkR, s_mkK, s_makeE, s_make, s_fldK, s_fld, s_apR, s_apL, s_apK, s_app, s_ch2, s_chT, s_chF, s_chFF, s_chain, s_wipe, s_rest, s_ov0, s_ovS, s_co0, s_coS, s_okC0, s_okCS, s_okN, s_okV, s_fV, s_lcStep, s_eqI, s_neI, s_eqS, s_neS, List.length_cons, List.length_nil, List.map_cons, List.map_nil, List.cons_append, List.nil_append, List.append_nil, List.getElem?_cons_zero, List.getElem?_cons_succ, List.set_cons_zero, List.set_cons_succ, List.filterMap_cons, List.filterMap_nil, id, s_itT, s_itF, Bool.false_eq_true, if_true, if_false, Nat.reduceAdd, Nat.zero_add, Nat.reduceLT, Nat.reduceEqDiff, Nat.reduceLeDiff, Int.reduceLT, Int.reduceLE, Int.reduceNeg, Int.reduceAdd, Int.reduceMul, Int.reduceMod, and_self, and_true, true_and, List.nodup_cons, List.nodup_nil, List.not_mem_nil, not_false_eq_true, wp_some, Nat.reduceBEq, Bool.or_false, Bool.or_true]
  unfold sm1 eR at *
  simp only [kE_ok, kE_err, kV_val, kV_new, s_bindR, s_bindV, s_cC, s_ret, s_cVar, s_varV, s_varO, s_varB, s_peekV, s_peekN, s_peekR, s_pkV, s_pkO, s_pkB, s_toVR, s_tvV, s_tvO, s_toVV, s_toVN, s_toDl, s_toDi, s_done, s_outV, s_outN, s_op2, s_op2F, s_op2K, s_op1, s_op1K, s_evs0, s_evsV, s_evsR, s_cB, s_bK, s_bK2, s_pks0, s_pksV, s_pksO, s_pkC, s_map, s_tup, s_lst, s_tupK, s_lstK, s_vals0, s_valsV, s_onB, s_bF, s_not, s_and, s_or, s_if, s_truth, s_itT, s_itF, sE_ok, sE_err, sV_val, sV_new, s_onE, s_onV, s_nop, s_seq, s_sqN, s_sqR, s_sqE, s_drop, s_retS, s_ifS, s_ifF, s_setV, s_setN, s_set, s_asg, s_asgK, s_tName, s_obK, s_tTup, s_ts0, s_tsC, s_call, s_callE, s_endV, s_endN, s_getS, s_gkO, s_gkB, s_gkV, s_putS, s_pkkO, s_pkkB, s_subL, s_subK, s_tSub, s_toSl0, s_toSlV, s_toSlO, s_toSlR, s_callK, s_pb0, s_pbN, s_pbS, s_out0, s_outB, s_outW, s_clV, s_clN, s_clR, s_clkV, s_clkO, s_rkN, s_rkR, s_rkE, s_run0, s_run1, s_run2, s_run3, s_run4, s_run5, s_run6, s_rp0, s_rpS, s_at3a, s_at3b, s_at3c, s_at2a, s_at2b, s_ix30, s_ix31, s_ix32, s_sl, s_slF, s_part0, s_partS, s_ptF, s_strM, s_stF, s_onIt, s_itK, s_for, s_forK, s_lc, s_lcK, s_rng1, s_rgK, s_methV, s_onIns, s_mkR, s_mkK, s_makeE, s_make, s_fldK, s_fld, s_apR, s_apL, s_apK, s_app, s_ch2, s_chT, s_chF, s_chFF, s_chain, s_wipe, s_rest, s_ov0, s_ovS, s_co0, s_coS, s_okC0, s_okCS, s_okN, s_okV, s_fV, s_lcStep, s_eqI, s_neI, s_eqS, s_neS, List.length_cons, List.length_nil, List.map_cons, List.map_nil, List.cons_append, List.nil_append, List.append_nil, List.getElem?_cons_zero, List.getElem?_cons_succ, List.set_cons_zero, List.set_cons_succ, List.filterMap_cons, List.filterMap_nil, id, s_itT, s_itF, Bool.false_eq_true, if_true, if_false, Nat.reduceAdd, Nat.zero_add, Nat.reduceLT, Nat.reduceEqDiff, Nat.reduceLeDiff, Int.reduceLT, Int.reduceLE, Int.reduceNeg, Int.reduceAdd, Int.reduceMul, Int.reduceMod, and_self, and_true, true_and, List.nodup_cons, List.nodup_nil, List.not_mem_nil, not_false_eq_true, itAny, lc, gTuple, Nat.reduceBEq, Bool.or_false, Bool.or_true, Bool.and_self]
  rfl
theorem rt_step (ps : List (Str × Int)) (p : Str × Int) (hp : p ∈ ps) (g : good p.1 ∧ 0 ≤ p.2 ∧ p.2 ≤ 9) (nd : (ps.map (·.1)).Nodup) (z : D) : rtM [some (.val (cat ps)), some (.val (.tup (ps.map pr))), some (.val z), some (.val (.str p.1)), some (.val (.int p.2))] = some (.nx, [some (.val (cat ps)), some (.val (.tup (ps.map pr))), some (.val z), some (.val (.str p.1)), some (.val (.int p.2))]) := by
  have k2 : 2 ≤ LIM := by decide
  obtain ⟨z, hz⟩ := sm_repr (py_two (d := .int p.2) (e := .int p.2) rfl rfl) (sm_lst (sms_cons (sm_int (k := 1) g.2.1 (by have := g.2.2; omega)) (sms_cons (sm_int g.2.1 (by have := g.2.2; omega)) (sms_nil (w := 0))))) (by omega) (by decide)
  have tp := top_ok ps p hp nd
  unfold rtM
  simp only [kE_ok, kE_err, kV_val, kV_new, s_bindR, s_bindV, s_cC, s_ret, s_cVar, s_varV, s_varO, s_varB, s_peekV, s_peekN, s_peekR, s_pkV, s_pkO, s_pkB, s_toVR, s_tvV, s_tvO, s_toVV, s_toVN, s_toDl, s_toDi, s_done, s_outV, s_outN, s_op2, s_op2F, s_op2K, s_op1, s_op1K, s_evs0, s_evsV, s_evsR, s_cB, s_bK, s_bK2, s_pks0, s_pksV, s_pksO, s_pkC, s_map, s_tup, s_lst, s_tupK, s_lstK, s_vals0, s_valsV, s_onB, s_bF, s_not, s_and, s_or, s_if, s_truth, s_itT, s_itF, sE_ok, sE_err, sV_val, sV_new, s_onE, s_onV, s_nop, s_seq, s_sqN, s_sqR, s_sqE, s_drop, s_retS, s_ifS, s_ifF, s_setV, s_setN, s_set, s_asg, s_asgK, s_tName, s_obK, s_tTup, s_ts0, s_tsC, s_call, s_callE, s_endV, s_endN, s_getS, s_gkO, s_gkB, s_gkV, s_putS, s_pkkO, s_pkkB, s_subL, s_subK, s_tSub, s_toSl0, s_toSlV, s_toSlO, s_toSlR, s_callK, s_pb0, s_pbN, s_pbS, s_out0, s_outB, s_outW, s_clV, s_clN, s_clR, s_clkV, s_clkO, s_rkN, s_rkR, s_rkE, s_run0, s_run1, s_run2, s_run3, s_run4, s_run5, s_run6, s_rp0, s_rpS, s_at3a, s_at3b, s_at3c, s_at2a, s_at2b, s_ix30, s_ix31, s_ix32, s_sl, s_slF, s_part0, s_partS, s_ptF, s_strM, s_stF, s_onIt, s_itK, s_for, s_forK, s_lc, s_lcK, s_rng1, s_rgK, s_methV, s_onIns, s_mkR, s_mkK, s_makeE, s_make, s_fldK, s_fld, s_apR, s_apL, s_apK, s_app, s_ch2, s_chT, s_chF, s_chFF, s_chain, s_wipe, s_rest, s_ov0, s_ovS, s_co0, s_coS, s_okC0, s_okCS, s_okN, s_okV, s_fV, s_lcStep, s_eqI, s_neI, s_eqS, s_neS, List.length_cons, List.length_nil, List.map_cons, List.map_nil, List.cons_append, List.nil_append, List.append_nil, List.getElem?_cons_zero, List.getElem?_cons_succ, List.set_cons_zero, List.set_cons_succ, List.filterMap_cons, List.filterMap_nil, id, s_itT, s_itF, Bool.false_eq_true, if_true, if_false, Nat.reduceAdd, Nat.zero_add, Nat.reduceLT, Nat.reduceEqDiff, Nat.reduceLeDiff, Int.reduceLT, Int.reduceLE, Int.reduceNeg, Int.reduceAdd, Int.reduceMul, Int.reduceMod, and_self, and_true, true_and, List.nodup_cons, List.nodup_nil, List.not_mem_nil, not_false_eq_true, pick, onInsC, tp, hz, k2, BEq.rfl, Bool.not_true]
end Lwk01

namespace Lwk01
open PySem PySem.Spec PyProof.Rows L2 Pd
def sm2 : DSt := cIfS (cOr (cNot (cTruth (cB (gIsi 1) [.r (cVar 0), .r (cC (.cls 0))]))) (cOp2 gNe (cB gRepr [.r (cOp1 (gAttr [(0, 0)]) (cVar 0))]) (cB gRepr [.r (cVar 1)]))) (cRet (cC (.bl false))) cNop
theorem sm2_ok (ps : List (Str × Int)) (P : Pairs ps) (z : Option Sl) : sm2 (eR ps z none none) = some (.nx, eR ps z none none) := by
  have hi := P.hi
  obtain ⟨qs, q1, q2⟩ := ps_py ps (gp_of P)
  obtain ⟨x1, hx1⟩ := sm_repr (py_tup q1) (sm_tup q2) (by omega) (by decide)
  unfold sm2 eR
  simp only [kE_ok, kE_err, kV_val, kV_new, s_bindR, s_bindV, s_cC, s_ret, s_cVar, s_varV, s_varO, s_varB, s_peekV, s_peekN, s_peekR, s_pkV, s_pkO, s_pkB, s_toVR, s_tvV, s_tvO, s_toVV, s_toVN, s_toDl, s_toDi, s_done, s_outV, s_outN, s_op2, s_op2F, s_op2K, s_op1, s_op1K, s_evs0, s_evsV, s_evsR, s_cB, s_bK, s_bK2, s_pks0, s_pksV, s_pksO, s_pkC, s_map, s_tup, s_lst, s_tupK, s_lstK, s_vals0, s_valsV, s_onB, s_bF, s_not, s_and, s_or, s_if, s_truth, s_itT, s_itF, sE_ok, sE_err, sV_val, sV_new, s_onE, s_onV, s_nop, s_seq, s_sqN, s_sqR, s_sqE, s_drop, s_retS, s_ifS, s_ifF, s_setV, s_setN, s_set, s_asg, s_asgK, s_tName, s_obK, s_tTup, s_ts0, s_tsC, s_call, s_callE, s_endV, s_endN, s_getS, s_gkO, s_gkB, s_gkV, s_putS, s_pkkO, s_pkkB, s_subL, s_subK, s_tSub, s_toSl0, s_toSlV, s_toSlO, s_toSlR, s_callK, s_pb0, s_pbN, s_pbS, s_out0, s_outB, s_outW, s_clV, s_clN, s_clR, s_clkV, s_clkO, s_rkN, s_rkR, s_rkE, s_run0, s_run1, s_run2, s_run3, s_run4, s_run5, s_run6, s_rp0, s_rpS, s_at3a, s_at3b, s_at3c, s_at2a, s_at2b, s_ix30, s_ix31, s_ix32, s_sl, s_slF, s_part0, s_partS, s_ptF, s_strM, s_stF, s_onIt, s_itK, s_for, s_forK, s_lc, s_lcK, s_rng1, s_rgK, s_methV, s_onIns, s_mkR, s_mkK, s_makeE, s_make, s_fldK, s_fld, s_apR, s_apL, s_apK, s_app, s_ch2, s_chT, s_chF, s_chFF, s_chain, s_wipe, s_rest, s_ov0, s_ovS, s_co0, s_coS, s_okC0, s_okCS, s_okN, s_okV, s_fV, s_lcStep, s_eqI, s_neI, s_eqS, s_neS, List.length_cons, List.length_nil, List.map_cons, List.map_nil, List.cons_append, List.nil_append, List.append_nil, List.getElem?_cons_zero, List.getElem?_cons_succ, List.set_cons_zero, List.set_cons_succ, List.filterMap_cons, List.filterMap_nil, id, s_itT, s_itF, Bool.false_eq_true, if_true, if_false, Nat.reduceAdd, Nat.zero_add, Nat.reduceLT, Nat.reduceEqDiff, Nat.reduceLeDiff, Int.reduceLT, Int.reduceLE, Int.reduceNeg, Int.reduceAdd, Int.reduceMul, Int.reduceMod, and_self, and_true, true_and, List.nodup_cons, List.nodup_nil, List.not_mem_nil, not_false_eq_true, isiC, truth, Bool.not_true, attrC, hx1, BEq.rfl]
def sm3 : DSt := cIfS (cOp2 gNe (cB gRepr [.r (cLst [.v (cMethV 0 d_Catalog_names [0] [] (cVar 0) []), .v (cMethV 0 d_Catalog_names [0] [] (cVar 0) [])])]) (cB gRepr [.r (cLst [.v (cVar 2), .v (cVar 2)])])) (cRet (cC (.bl false))) cNop
theorem sm3_ok (ps : List (Str × Int)) (P : Pairs ps) : sm3 (eR ps (some (.val (lbD ps))) none none) = some (.nx, eR ps (some (.val (lbD ps))) none none) := by
  have hi := P.hi
  have k2 : 2 ≤ LIM := by decide
  obtain ⟨rs, r1, r2⟩ := ss_py ps fun p hp => (gp_of P p hp).1
  obtain ⟨x2, hx2⟩ := sm_repr (py_two (py_tup r1) (py_tup r1)) (sm_lst (sms_cons (sm_tup r2) (sms_cons (sm_tup r2) (sms_nil (w := 0))))) (by omega) (by decide)
  have cn := cnames_ok ps
  unfold sm3 eR lbD
  generalize d_Catalog_names = dn at cn ⊢
  simp only [kE_ok, kE_err, kV_val, kV_new, s_bindR, s_bindV, s_cC, s_ret, s_cVar, s_varV, s_varO, s_varB, s_peekV, s_peekN, s_peekR, s_pkV, s_pkO, s_pkB, s_toVR, s_tvV, s_tvO, s_toVV, s_toVN, s_toDl, s_toDi, s_done, s_outV, s_outN, s_op2, s_op2F, s_op2K, s_op1, s_op1K, s_evs0, s_evsV, s_evsR, s_cB, s_bK, s_bK2, s_pks0, s_pksV, s_pksO, s_pkC, s_map, s_tup, s_lst, s_tupK, s_lstK, s_vals0, s_valsV, s_onB, s_bF, s_not, s_and, s_or, s_if, s_truth, s_itT, s_itF, sE_ok, sE_err, sV_val, sV_new, s_onE, s_onV, s_nop, s_seq, s_sqN, s_sqR, s_sqE, s_drop, s_retS, s_ifS, s_ifF, s_setV, s_setN, s_set, s_asg, s_asgK, s_tName, s_obK, s_tTup, s_ts0, s_tsC, s_call, s_callE, s_endV, s_endN, s_getS, s_gkO, s_gkB, s_gkV, s_putS, s_pkkO, s_pkkB, s_subL, s_subK, s_tSub, s_toSl0, s_toSlV, s_toSlO, s_toSlR, s_callK, s_pb0, s_pbN, s_pbS, s_out0, s_outB, s_outW, s_clV, s_clN, s_clR, s_clkV, s_clkO, s_rkN, s_rkR, s_rkE, s_run0, s_run1, s_run2, s_run3, s_run4, s_run5, s_run6, s_rp0, s_rpS, s_at3a, s_at3b, s_at3c, s_at2a, s_at2b, s_ix30, s_ix31, s_ix32, s_sl, s_slF, s_part0, s_partS, s_ptF, s_strM, s_stF, s_onIt, s_itK, s_for, s_forK, s_lc, s_lcK, s_rng1, s_rgK, s_methV, s_onIns, s_mkR, s_mkK, s_makeE, s_make, s_fldK, s_fld, s_apR, s_apL, s_apK, s_app, s_ch2, s_chT, s_chF, s_chFF, s_chain, s_wipe, s_rest, s_ov0, s_ovS, s_co0, s_coS, s_okC0, s_okCS, s_okN, s_okV, s_fV, s_lcStep, s_eqI, s_neI, s_eqS, s_neS, List.length_cons, List.length_nil, List.map_cons, List.map_nil, List.cons_append, List.nil_append, List.append_nil, List.getElem?_cons_zero, List.getElem?_cons_succ, List.set_cons_zero, List.set_cons_succ, List.filterMap_cons, List.filterMap_nil, id, s_itT, s_itF, Bool.false_eq_true, if_true, if_false, Nat.reduceAdd, Nat.zero_add, Nat.reduceLT, Nat.reduceEqDiff, Nat.reduceLeDiff, Int.reduceLT, Int.reduceLE, Int.reduceNeg, Int.reduceAdd, Int.reduceMul, Int.reduceMod, and_self, and_true, true_and, List.nodup_cons, List.nodup_nil, List.not_mem_nil, not_false_eq_true, onInsC, pick, cn, k2, hx2, BEq.rfl, Bool.not_true]
def sm4 : DSt := cFor (onIt (cVar 1) itAny) (Pd.tTup 2 (tsCons (tName 3) (tsCons (tName 4) tsNil))) rtM
theorem sm4_ok (ps : List (Str × Int)) (P : Pairs ps) : Wp (sm4 (eR ps (some (.val (lbD ps))) none none)) fun p => p.1 = .nx ∧ ∃ x y, p.2 = eR ps (some (.val (lbD ps))) x y := by
  unfold sm4 eR
  simp only [s_for, s_onIt, s_cVar, List.getElem?_cons_succ, List.getElem?_cons_zero, s_varV, s_itK, s_toVV, s_obK, itAny, s_map, s_forK]
  refine Wp.loopM (fun _ env => ∃ x y, env = eR ps (some (.val (lbD ps))) x y) ⟨_, _, rfl⟩ ?_ ?_
  · rintro pre p post _ e ⟨x, y, rfl⟩
    have hp : p ∈ ps := by rw [e]; exact List.mem_append_right _ List.mem_cons_self
    have st := rt_step ps p hp (gp_of P p hp) (nd_of P) (lbD ps)
    refine Wp.of (a := eR ps (some (.val (lbD ps))) (some (.val (.str p.1))) (some (.val (.int p.2)))) ?_ (Wp.of st ⟨_, _, rfl⟩)
    unfold eR pr
    simp only [kE_ok, kE_err, kV_val, kV_new, s_bindR, s_bindV, s_cC, s_ret, s_cVar, s_varV, s_varO, s_varB, s_peekV, s_peekN, s_peekR, s_pkV, s_pkO, s_pkB, s_toVR, s_tvV, s_tvO, s_toVV, s_toVN, s_toDl, s_toDi, s_done, s_outV, s_outN, s_op2, s_op2F, s_op2K, s_op1, s_op1K, s_evs0, s_evsV, s_evsR, s_cB, s_bK, s_bK2, s_pks0, s_pksV, s_pksO, s_pkC, s_map, s_tup, s_lst, s_tupK, s_lstK, s_vals0, s_valsV, s_onB, s_bF, s_not, s_and, s_or, s_if, s_truth, s_itT, s_itF, sE_ok, sE_err, sV_val, sV_new, s_onE, s_onV, s_nop, s_seq, s_sqN, s_sqR, s_sqE, s_drop, s_retS, s_ifS, s_ifF, s_setV, s_setN, s_set, s_asg, s_asgK, s_tName, s_obK, s_tTup, s_ts0, s_tsC, s_call, s_callE, s_endV, s_endN, s_getS, s_gkO, s_gkB, s_gkV, s_putS, s_pkkO, s_pkkB, s_subL, s_subK, s_tSub, s_toSl0, s_toSlV, s_toSlO, s_toSlR, s_callK, s_pb0, s_pbN, s_pbS, s_out0, s_outB, s_outW, s_clV, s_clN, s_clR, s_clkV, s_clkO, s_rkN, s_rkR, s_rkE, s_run0, s_run1, s_run2, s_run3, s_run4, s_run5, s_run6, s_rp0, s_rpS, s_at3a, s_at3b, s_at3c, s_at2a, s_at2b, s_ix30, s_ix31, s_ix32, s_sl, s_slF, s_part0, s_partS, s_ptF, s_strM, s_stF, s_onIt, s_itK, s_for, s_forK, s_lc, s_lcK, s_rng1, s_rgK, s_methV, s_onIns, s_mkR, s_mkK, s_makeE, s_make, s_fldK, s_fld, s_apR, s_apL, s_apK, s_app, s_ch2, s_chT, s_chF, s_chFF, s_chain, s_wipe, s_rest, s_ov0, s_ovS, s_co0, s_coS, s_okC0, s_okCS, s_okN, s_okV, s_fV, s_lcStep, s_eqI, s_neI, s_eqS, s_neS, List.length_cons, List.length_nil, List.map_cons, List.map_nil, List.cons_append, List.nil_append, List.append_nil, List.getElem?_cons_zero, List.getElem?_cons_succ, List.set_cons_zero, List.set_cons_succ, List.filterMap_cons, List.filterMap_nil, id, s_itT, s_itF, Bool.false_eq_true, if_true, if_false, Nat.reduceAdd, Nat.zero_add, Nat.reduceLT, Nat.reduceEqDiff, Nat.reduceLeDiff, Int.reduceLT, Int.reduceLE, Int.reduceNeg, Int.reduceAdd, Int.reduceMul, Int.reduceMod, and_self, and_true, true_and, List.nodup_cons, List.nodup_nil, List.not_mem_nil, not_false_eq_true]
  · rintro _ ⟨x, y, rfl⟩
    exact ⟨rfl, x, y, rfl⟩
def sm5 : DSt := cIfS (cOp2 gNe (cB gRepr [.r (cLst [.v (cB (orG gLen (ownD [(0, d_Catalog___len__)] oLen)) [.r (cVar 0)]), .v (cB (orG gBool (ownD [(0, d_Catalog___len__)] oBool)) [.r (cVar 0)])])]) (cB gRepr [.r (cLst [.v (cB gLen [.r (cVar 1)]), .v (cC (.bl true))])])) (cRet (cC (.bl false))) cNop
theorem sm5_ok (ps : List (Str × Int)) (P : Pairs ps) (x y : Option Sl) : sm5 (eR ps (some (.val (lbD ps))) x y) = some (.nx, eR ps (some (.val (lbD ps))) x y) := by
  have hi := P.hi
  have lo := P.lo
  have k2 : 2 ≤ LIM := by decide
  obtain ⟨x3, hx3⟩ := sm_repr (py_two (d := .int (ps.length : Int)) (e := .bl true) rfl rfl) (sm_lst (sms_cons (sm_int (by omega) (by omega)) (sms_cons (sm_bool (k := 1)) (sms_nil (w := 0))))) (by omega) (by decide)
  have ol := own_len ps hi
  have ob := own_bool ps lo hi
  unfold sm5 eR
  generalize orG gLen (ownD [(0, d_Catalog___len__)] oLen) = g1 at ol ⊢
  generalize orG gBool (ownD [(0, d_Catalog___len__)] oBool) = g2 at ob ⊢
  simp only [kE_ok, kE_err, kV_val, kV_new, s_bindR, s_bindV, s_cC, s_ret, s_cVar, s_varV, s_varO, s_varB, s_peekV, s_peekN, s_peekR, s_pkV, s_pkO, s_pkB, s_toVR, s_tvV, s_tvO, s_toVV, s_toVN, s_toDl, s_toDi, s_done, s_outV, s_outN, s_op2, s_op2F, s_op2K, s_op1, s_op1K, s_evs0, s_evsV, s_evsR, s_cB, s_bK, s_bK2, s_pks0, s_pksV, s_pksO, s_pkC, s_map, s_tup, s_lst, s_tupK, s_lstK, s_vals0, s_valsV, s_onB, s_bF, s_not, s_and, s_or, s_if, s_truth, s_itT, s_itF, sE_ok, sE_err, sV_val, sV_new, s_onE, s_onV, s_nop, s_seq, s_sqN, s_sqR, s_sqE, s_drop, s_retS, s_ifS, s_ifF, s_setV, s_setN, s_set, s_asg, s_asgK, s_tName, s_obK, s_tTup, s_ts0, s_tsC, s_call, s_callE, s_endV, s_endN, s_getS, s_gkO, s_gkB, s_gkV, s_putS, s_pkkO, s_pkkB, s_subL, s_subK, s_tSub, s_toSl0, s_toSlV, s_toSlO, s_toSlR, s_callK, s_pb0, s_pbN, s_pbS, s_out0, s_outB, s_outW, s_clV, s_clN, s_clR, s_clkV, s_clkO, s_rkN, s_rkR, s_rkE, s_run0, s_run1, s_run2, s_run3, s_run4, s_run5, s_run6, s_rp0, s_rpS, s_at3a, s_at3b, s_at3c, s_at2a, s_at2b, s_ix30, s_ix31, s_ix32, s_sl, s_slF, s_part0, s_partS, s_ptF, s_strM, s_stF, s_onIt, s_itK, s_for, s_forK, s_lc, s_lcK, s_rng1, s_rgK, s_methV, s_onIns, s_mkR, s_mkK, s_makeE, s_make, s_fldK, s_fld, s_apR, s_apL, s_apK, s_app, s_ch2, s_chT, s_chF, s_chFF, s_chain, s_wipe, s_rest, s_ov0, s_ovS, s_co0, s_coS, s_okC0, s_okCS, s_okN, s_okV, s_fV, s_lcStep, s_eqI, s_neI, s_eqS, s_neS, List.length_cons, List.length_nil, List.map_cons, List.map_nil, List.cons_append, List.nil_append, List.append_nil, List.getElem?_cons_zero, List.getElem?_cons_succ, List.set_cons_zero, List.set_cons_succ, List.filterMap_cons, List.filterMap_nil, id, s_itT, s_itF, Bool.false_eq_true, if_true, if_false, Nat.reduceAdd, Nat.zero_add, Nat.reduceLT, Nat.reduceEqDiff, Nat.reduceLeDiff, Int.reduceLT, Int.reduceLE, Int.reduceNeg, Int.reduceAdd, Int.reduceMul, Int.reduceMod, and_self, and_true, true_and, List.nodup_cons, List.nodup_nil, List.not_mem_nil, not_false_eq_true, ol, ob, gLen, lenD, List.length_map, hx3, k2, BEq.rfl, Bool.not_true]
def sm6 : DSt := cRet (cOp2 gEq (cB (orG gRepr (ownD [(0, d_Catalog___repr__)] oStr)) [.r (cVar 0)]) (cOp2 gAdd (cOp2 gAdd (cC (.str ("Catalog(" : Str))) (cB gStr [.r (cB gLen [.r (cVar 1)])])) (cC (.str (")" : Str)))))
theorem sm6_ok (ps : List (Str × Int)) (P : Pairs ps) (x y : Option Sl) : sm6 (eR ps (some (.val (lbD ps))) x y) = some (.ret (.val (.bl true)), eR ps (some (.val (lbD ps))) x y) := by
  have hi := P.hi
  have orp := own_repr ps hi
  have F := cat_facts ps.length (by omega)
  simp only [Bool.and_eq_true, decide_eq_true_eq] at F
  have l1 : (Str.ofString "Catalog(" ++ natS (ps.length : Int)).length ≤ LIM := Nat.le_trans F.1.2 (by decide)
  have l2 : (Str.ofString "Catalog(" ++ natS (ps.length : Int) ++ Str.ofString ")").length ≤ LIM := Nat.le_trans F.2 (by decide)
  have eqc : (shownCat ps.length == (Str.ofString "Catalog(" ++ natS (ps.length : Int) ++ Str.ofString ")")) = true := by unfold shownCat; exact BEq.rfl
  have so := str_of ps hi
  unfold sm6 eR
  generalize orG gRepr (ownD [(0, d_Catalog___repr__)] oStr) = g1 at orp ⊢
  simp only [kE_ok, kE_err, kV_val, kV_new, s_bindR, s_bindV, s_cC, s_ret, s_cVar, s_varV, s_varO, s_varB, s_peekV, s_peekN, s_peekR, s_pkV, s_pkO, s_pkB, s_toVR, s_tvV, s_tvO, s_toVV, s_toVN, s_toDl, s_toDi, s_done, s_outV, s_outN, s_op2, s_op2F, s_op2K, s_op1, s_op1K, s_evs0, s_evsV, s_evsR, s_cB, s_bK, s_bK2, s_pks0, s_pksV, s_pksO, s_pkC, s_map, s_tup, s_lst, s_tupK, s_lstK, s_vals0, s_valsV, s_onB, s_bF, s_not, s_and, s_or, s_if, s_truth, s_itT, s_itF, sE_ok, sE_err, sV_val, sV_new, s_onE, s_onV, s_nop, s_seq, s_sqN, s_sqR, s_sqE, s_drop, s_retS, s_ifS, s_ifF, s_setV, s_setN, s_set, s_asg, s_asgK, s_tName, s_obK, s_tTup, s_ts0, s_tsC, s_call, s_callE, s_endV, s_endN, s_getS, s_gkO, s_gkB, s_gkV, s_putS, s_pkkO, s_pkkB, s_subL, s_subK, s_tSub, s_toSl0, s_toSlV, s_toSlO, s_toSlR, s_callK, s_pb0, s_pbN, s_pbS, s_out0, s_outB, s_outW, s_clV, s_clN, s_clR, s_clkV, s_clkO, s_rkN, s_rkR, s_rkE, s_run0, s_run1, s_run2, s_run3, s_run4, s_run5, s_run6, s_rp0, s_rpS, s_at3a, s_at3b, s_at3c, s_at2a, s_at2b, s_ix30, s_ix31, s_ix32, s_sl, s_slF, s_part0, s_partS, s_ptF, s_strM, s_stF, s_onIt, s_itK, s_for, s_forK, s_lc, s_lcK, s_rng1, s_rgK, s_methV, s_onIns, s_mkR, s_mkK, s_makeE, s_make, s_fldK, s_fld, s_apR, s_apL, s_apK, s_app, s_ch2, s_chT, s_chF, s_chFF, s_chain, s_wipe, s_rest, s_ov0, s_ovS, s_co0, s_coS, s_okC0, s_okCS, s_okN, s_okV, s_fV, s_lcStep, s_eqI, s_neI, s_eqS, s_neS, List.length_cons, List.length_nil, List.map_cons, List.map_nil, List.cons_append, List.nil_append, List.append_nil, List.getElem?_cons_zero, List.getElem?_cons_succ, List.set_cons_zero, List.set_cons_succ, List.filterMap_cons, List.filterMap_nil, id, s_itT, s_itF, Bool.false_eq_true, if_true, if_false, Nat.reduceAdd, Nat.zero_add, Nat.reduceLT, Nat.reduceEqDiff, Nat.reduceLeDiff, Int.reduceLT, Int.reduceLE, Int.reduceNeg, Int.reduceAdd, Int.reduceMul, Int.reduceMod, and_self, and_true, true_and, List.nodup_cons, List.nodup_nil, List.not_mem_nil, not_false_eq_true, orp, gLen, lenD, List.length_map, so, gAdd, vS, l1, l2, eqc]
theorem right_ok (ps : List (Str × Int)) (P : Pairs ps) : d__law_right [.val (cat ps), .val (.tup (ps.map pr))] = some (.ok (.val (.bl true)), [none, none]) := by
  obtain ⟨⟨fl, e4⟩, h4, rfl, x, y, rfl⟩ := sm4_ok ps P
  have h1 := sm1_ok ps
  have h2 := sm2_ok ps P (some (.val (lbD ps)))
  have h3 := sm3_ok ps P
  have h5 := sm5_ok ps P x y
  have h6 := sm6_ok ps P x y
  have e : b__law_right = cSeq sm1 (cSeq sm2 (cSeq sm3 (cSeq sm4 (cSeq sm5 sm6)))) := rfl
  unfold d__law_right
  rw [e, s_run2]
  show runK (cSeq sm1 (cSeq sm2 (cSeq sm3 (cSeq sm4 (cSeq sm5 sm6)))) (eR ps none none none)) _ = _
  simp only [s_seq, h1, s_sqN, h2, h3, h4, h5, h6]
  unfold eR
  simp only [kE_ok, kE_err, kV_val, kV_new, s_bindR, s_bindV, s_cC, s_ret, s_cVar, s_varV, s_varO, s_varB, s_peekV, s_peekN, s_peekR, s_pkV, s_pkO, s_pkB, s_toVR, s_tvV, s_tvO, s_toVV, s_toVN, s_toDl, s_toDi, s_done, s_outV, s_outN, s_op2, s_op2F, s_op2K, s_op1, s_op1K, s_evs0, s_evsV, s_evsR, s_cB, s_bK, s_bK2, s_pks0, s_pksV, s_pksO, s_pkC, s_map, s_tup, s_lst, s_tupK, s_lstK, s_vals0, s_valsV, s_onB, s_bF, s_not, s_and, s_or, s_if, s_truth, s_itT, s_itF, sE_ok, sE_err, sV_val, sV_new, s_onE, s_onV, s_nop, s_seq, s_sqN, s_sqR, s_sqE, s_drop, s_retS, s_ifS, s_ifF, s_setV, s_setN, s_set, s_asg, s_asgK, s_tName, s_obK, s_tTup, s_ts0, s_tsC, s_call, s_callE, s_endV, s_endN, s_getS, s_gkO, s_gkB, s_gkV, s_putS, s_pkkO, s_pkkB, s_subL, s_subK, s_tSub, s_toSl0, s_toSlV, s_toSlO, s_toSlR, s_callK, s_pb0, s_pbN, s_pbS, s_out0, s_outB, s_outW, s_clV, s_clN, s_clR, s_clkV, s_clkO, s_rkN, s_rkR, s_rkE, s_run0, s_run1, s_run2, s_run3, s_run4, s_run5, s_run6, s_rp0, s_rpS, s_at3a, s_at3b, s_at3c, s_at2a, s_at2b, s_ix30, s_ix31, s_ix32, s_sl, s_slF, s_part0, s_partS, s_ptF, s_strM, s_stF, s_onIt, s_itK, s_for, s_forK, s_lc, s_lcK, s_rng1, s_rgK, s_methV, s_onIns, s_mkR, s_mkK, s_makeE, s_make, s_fldK, s_fld, s_apR, s_apL, s_apK, s_app, s_ch2, s_chT, s_chF, s_chFF, s_chain, s_wipe, s_rest, s_ov0, s_ovS, s_co0, s_coS, s_okC0, s_okCS, s_okN, s_okV, s_fV, s_lcStep, s_eqI, s_neI, s_eqS, s_neS, List.length_cons, List.length_nil, List.map_cons, List.map_nil, List.cons_append, List.nil_append, List.append_nil, List.getElem?_cons_zero, List.getElem?_cons_succ, List.set_cons_zero, List.set_cons_succ, List.filterMap_cons, List.filterMap_nil, id, s_itT, s_itF, Bool.false_eq_true, if_true, if_false, Nat.reduceAdd, Nat.zero_add, Nat.reduceLT, Nat.reduceEqDiff, Nat.reduceLeDiff, Int.reduceLT, Int.reduceLE, Int.reduceNeg, Int.reduceAdd, Int.reduceMul, Int.reduceMod, and_self, and_true, true_and, List.nodup_cons, List.nodup_nil, List.not_mem_nil, not_false_eq_true]
end Lwk01

namespace Lwk01
open PySem PySem.Spec PyProof.Rows L2 Pd
def lw1 : DSt := cSet 3 (cCall d__law_source [0] [] [.v (cCall d__law_cell [0, 1] [] [.v (cVar 0), .v (cVar 2)])])
def lw2 : DSt := cSet 4 (cCall d__law_services [0] [] [.r (cVar 3)])
def lw3 : DSt := cSet 5 (cIf (cOp2 gEq (cCall d__law_draw [0, 1] [] [.r (cVar 3), .v (cC (.int 2))]) (cC (.int 0))) (cMake 0 d_Catalog___init__ [0] [] [.v (cVar 4)]) (cMake 0 d_Catalog___init__ [0] [] [.v (cVar 4)]))
def lw4 : DSt := cIfS (cNot (cTruth (cCall d__law_right [0, 1] [] [.v (cVar 5), .v (cVar 4)]))) (cRet (cC (.bl false))) cNop
def lw5 : DSt := cDrop (cApp 1 (cTup [.v (cVar 5), .v (cVar 4)]))
theorem lw1_ok (ns : List Int) (k : Int) (h0 : 0 ≤ k) (h6 : k < 6) (L x3 x4 x5 : Option Sl) : Wp (lw1 [some (.val (.scr ns)), L, some (.val (.int k)), x3, x4, x5]) fun p => ∃ a b, p = (.nx, [some (.val (.scr ns)), L, some (.val (.int k)), some (.own (.lst [.int a, .int b, .int 0])), x4, x5]) := by
  obtain ⟨c, hc⟩ := cell_ok ns k h0 h6
  obtain ⟨a, b, hs⟩ := source_ok c
  unfold lw1
  simp only [kE_ok, kE_err, kV_val, kV_new, s_bindR, s_bindV, s_cC, s_ret, s_cVar, s_varV, s_varO, s_varB, s_peekV, s_peekN, s_peekR, s_pkV, s_pkO, s_pkB, s_toVR, s_tvV, s_tvO, s_toVV, s_toVN, s_toDl, s_toDi, s_done, s_outV, s_outN, s_op2, s_op2F, s_op2K, s_op1, s_op1K, s_evs0, s_evsV, s_evsR, s_cB, s_bK, s_bK2, s_pks0, s_pksV, s_pksO, s_pkC, s_map, s_tup, s_lst, s_tupK, s_lstK, s_vals0, s_valsV, s_onB, s_bF, s_not, s_and, s_or, s_if, s_truth, s_itT, s_itF, sE_ok, sE_err, sV_val, sV_new, s_onE, s_onV, s_nop, s_seq, s_sqN, s_sqR, s_sqE, s_drop, s_retS, s_ifS, s_ifF, s_setV, s_setN, s_set, s_asg, s_asgK, s_tName, s_obK, s_tTup, s_ts0, s_tsC, s_call, s_callE, s_endV, s_endN, s_getS, s_gkO, s_gkB, s_gkV, s_putS, s_pkkO, s_pkkB, s_subL, s_subK, s_tSub, s_toSl0, s_toSlV, s_toSlO, s_toSlR, s_callK, s_pb0, s_pbN, s_pbS, s_out0, s_outB, s_outW, s_clV, s_clN, s_clR, s_clkV, s_clkO, s_rkN, s_rkR, s_rkE, s_run0, s_run1, s_run2, s_run3, s_run4, s_run5, s_run6, s_rp0, s_rpS, s_at3a, s_at3b, s_at3c, s_at2a, s_at2b, s_ix30, s_ix31, s_ix32, s_sl, s_slF, s_part0, s_partS, s_ptF, s_strM, s_stF, s_onIt, s_itK, s_for, s_forK, s_lc, s_lcK, s_rng1, s_rgK, s_methV, s_onIns, s_mkR, s_mkK, s_makeE, s_make, s_fldK, s_fld, s_apR, s_apL, s_apK, s_app, s_ch2, s_chT, s_chF, s_chFF, s_chain, s_wipe, s_rest, s_ov0, s_ovS, s_co0, s_coS, s_okC0, s_okCS, s_okN, s_okV, s_fV, s_lcStep, s_eqI, s_neI, s_eqS, s_neS, List.length_cons, List.length_nil, List.map_cons, List.map_nil, List.cons_append, List.nil_append, List.append_nil, List.getElem?_cons_zero, List.getElem?_cons_succ, List.set_cons_zero, List.set_cons_succ, List.filterMap_cons, List.filterMap_nil, id, s_itT, s_itF, Bool.false_eq_true, if_true, if_false, Nat.reduceAdd, Nat.zero_add, Nat.reduceLT, Nat.reduceEqDiff, Nat.reduceLeDiff, Int.reduceLT, Int.reduceLE, Int.reduceNeg, Int.reduceAdd, Int.reduceMul, Int.reduceMod, and_self, and_true, true_and, List.nodup_cons, List.nodup_nil, List.not_mem_nil, not_false_eq_true, pick, hc, hs, wp_some]
  exact ⟨_, _, rfl⟩
theorem lw2_ok (S L x2 x4 x5 : Option Sl) (a b c : Int) : Wp (lw2 [S, L, x2, some (.own (.lst [.int a, .int b, .int c])), x4, x5]) fun p => ∃ a' b' c' ps, Pairs ps ∧ p = (.nx, [S, L, x2, some (.own (.lst [.int a', .int b', .int c'])), some (.val (.tup (ps.map pr))), x5]) := by
  obtain ⟨a', b', c', ps, hs, P⟩ := services_ok a b c
  unfold lw2
  simp only [kE_ok, kE_err, kV_val, kV_new, s_bindR, s_bindV, s_cC, s_ret, s_cVar, s_varV, s_varO, s_varB, s_peekV, s_peekN, s_peekR, s_pkV, s_pkO, s_pkB, s_toVR, s_tvV, s_tvO, s_toVV, s_toVN, s_toDl, s_toDi, s_done, s_outV, s_outN, s_op2, s_op2F, s_op2K, s_op1, s_op1K, s_evs0, s_evsV, s_evsR, s_cB, s_bK, s_bK2, s_pks0, s_pksV, s_pksO, s_pkC, s_map, s_tup, s_lst, s_tupK, s_lstK, s_vals0, s_valsV, s_onB, s_bF, s_not, s_and, s_or, s_if, s_truth, s_itT, s_itF, sE_ok, sE_err, sV_val, sV_new, s_onE, s_onV, s_nop, s_seq, s_sqN, s_sqR, s_sqE, s_drop, s_retS, s_ifS, s_ifF, s_setV, s_setN, s_set, s_asg, s_asgK, s_tName, s_obK, s_tTup, s_ts0, s_tsC, s_call, s_callE, s_endV, s_endN, s_getS, s_gkO, s_gkB, s_gkV, s_putS, s_pkkO, s_pkkB, s_subL, s_subK, s_tSub, s_toSl0, s_toSlV, s_toSlO, s_toSlR, s_callK, s_pb0, s_pbN, s_pbS, s_out0, s_outB, s_outW, s_clV, s_clN, s_clR, s_clkV, s_clkO, s_rkN, s_rkR, s_rkE, s_run0, s_run1, s_run2, s_run3, s_run4, s_run5, s_run6, s_rp0, s_rpS, s_at3a, s_at3b, s_at3c, s_at2a, s_at2b, s_ix30, s_ix31, s_ix32, s_sl, s_slF, s_part0, s_partS, s_ptF, s_strM, s_stF, s_onIt, s_itK, s_for, s_forK, s_lc, s_lcK, s_rng1, s_rgK, s_methV, s_onIns, s_mkR, s_mkK, s_makeE, s_make, s_fldK, s_fld, s_apR, s_apL, s_apK, s_app, s_ch2, s_chT, s_chF, s_chFF, s_chain, s_wipe, s_rest, s_ov0, s_ovS, s_co0, s_coS, s_okC0, s_okCS, s_okN, s_okV, s_fV, s_lcStep, s_eqI, s_neI, s_eqS, s_neS, List.length_cons, List.length_nil, List.map_cons, List.map_nil, List.cons_append, List.nil_append, List.append_nil, List.getElem?_cons_zero, List.getElem?_cons_succ, List.set_cons_zero, List.set_cons_succ, List.filterMap_cons, List.filterMap_nil, id, s_itT, s_itF, Bool.false_eq_true, if_true, if_false, Nat.reduceAdd, Nat.zero_add, Nat.reduceLT, Nat.reduceEqDiff, Nat.reduceLeDiff, Int.reduceLT, Int.reduceLE, Int.reduceNeg, Int.reduceAdd, Int.reduceMul, Int.reduceMod, and_self, and_true, true_and, List.nodup_cons, List.nodup_nil, List.not_mem_nil, not_false_eq_true, pick, hs, wp_some]
  exact ⟨_, _, _, ps, P, rfl⟩
theorem lw3_ok (S L x2 x5 : Option Sl) (a b c : Int) (ps : List (Str × Int)) (P : Pairs ps) : Wp (lw3 [S, L, x2, some (.own (.lst [.int a, .int b, .int c])), some (.val (.tup (ps.map pr))), x5]) fun p => ∃ a' b' c', p = (.nx, [S, L, x2, some (.own (.lst [.int a', .int b', .int c'])), some (.val (.tup (ps.map pr))), some (.own (.ins 0 [.tup (ps.map pr)]))]) := by
  obtain ⟨a', b', c', d, hs, _⟩ := draw_ok a b c 2 (by decide) (by decide)
  have hi := init_ok ps P
  unfold lw3
  by_cases e : d = 0
  · have e : (d == 0) = true := beq_iff_eq.mpr e
    simp only [kE_ok, kE_err, kV_val, kV_new, s_bindR, s_bindV, s_cC, s_ret, s_cVar, s_varV, s_varO, s_varB, s_peekV, s_peekN, s_peekR, s_pkV, s_pkO, s_pkB, s_toVR, s_tvV, s_tvO, s_toVV, s_toVN, s_toDl, s_toDi, s_done, s_outV, s_outN, s_op2, s_op2F, s_op2K, s_op1, s_op1K, s_evs0, s_evsV, s_evsR, s_cB, s_bK, s_bK2, s_pks0, s_pksV, s_pksO, s_pkC, s_map, s_tup, s_lst, s_tupK, s_lstK, s_vals0, s_valsV, s_onB, s_bF, s_not, s_and, s_or, s_if, s_truth, s_itT, s_itF, sE_ok, sE_err, sV_val, sV_new, s_onE, s_onV, s_nop, s_seq, s_sqN, s_sqR, s_sqE, s_drop, s_retS, s_ifS, s_ifF, s_setV, s_setN, s_set, s_asg, s_asgK, s_tName, s_obK, s_tTup, s_ts0, s_tsC, s_call, s_callE, s_endV, s_endN, s_getS, s_gkO, s_gkB, s_gkV, s_putS, s_pkkO, s_pkkB, s_subL, s_subK, s_tSub, s_toSl0, s_toSlV, s_toSlO, s_toSlR, s_callK, s_pb0, s_pbN, s_pbS, s_out0, s_outB, s_outW, s_clV, s_clN, s_clR, s_clkV, s_clkO, s_rkN, s_rkR, s_rkE, s_run0, s_run1, s_run2, s_run3, s_run4, s_run5, s_run6, s_rp0, s_rpS, s_at3a, s_at3b, s_at3c, s_at2a, s_at2b, s_ix30, s_ix31, s_ix32, s_sl, s_slF, s_part0, s_partS, s_ptF, s_strM, s_stF, s_onIt, s_itK, s_for, s_forK, s_lc, s_lcK, s_rng1, s_rgK, s_methV, s_onIns, s_mkR, s_mkK, s_makeE, s_make, s_fldK, s_fld, s_apR, s_apL, s_apK, s_app, s_ch2, s_chT, s_chF, s_chFF, s_chain, s_wipe, s_rest, s_ov0, s_ovS, s_co0, s_coS, s_okC0, s_okCS, s_okN, s_okV, s_fV, s_lcStep, s_eqI, s_neI, s_eqS, s_neS, List.length_cons, List.length_nil, List.map_cons, List.map_nil, List.cons_append, List.nil_append, List.append_nil, List.getElem?_cons_zero, List.getElem?_cons_succ, List.set_cons_zero, List.set_cons_succ, List.filterMap_cons, List.filterMap_nil, id, s_itT, s_itF, Bool.false_eq_true, if_true, if_false, Nat.reduceAdd, Nat.zero_add, Nat.reduceLT, Nat.reduceEqDiff, Nat.reduceLeDiff, Int.reduceLT, Int.reduceLE, Int.reduceNeg, Int.reduceAdd, Int.reduceMul, Int.reduceMod, and_self, and_true, true_and, List.nodup_cons, List.nodup_nil, List.not_mem_nil, not_false_eq_true, pick, hs, hi, e, wp_some]
    exact ⟨_, _, _, rfl⟩
  · have e : (d == 0) = false := beq_eq_false_iff_ne.mpr e
    simp only [kE_ok, kE_err, kV_val, kV_new, s_bindR, s_bindV, s_cC, s_ret, s_cVar, s_varV, s_varO, s_varB, s_peekV, s_peekN, s_peekR, s_pkV, s_pkO, s_pkB, s_toVR, s_tvV, s_tvO, s_toVV, s_toVN, s_toDl, s_toDi, s_done, s_outV, s_outN, s_op2, s_op2F, s_op2K, s_op1, s_op1K, s_evs0, s_evsV, s_evsR, s_cB, s_bK, s_bK2, s_pks0, s_pksV, s_pksO, s_pkC, s_map, s_tup, s_lst, s_tupK, s_lstK, s_vals0, s_valsV, s_onB, s_bF, s_not, s_and, s_or, s_if, s_truth, s_itT, s_itF, sE_ok, sE_err, sV_val, sV_new, s_onE, s_onV, s_nop, s_seq, s_sqN, s_sqR, s_sqE, s_drop, s_retS, s_ifS, s_ifF, s_setV, s_setN, s_set, s_asg, s_asgK, s_tName, s_obK, s_tTup, s_ts0, s_tsC, s_call, s_callE, s_endV, s_endN, s_getS, s_gkO, s_gkB, s_gkV, s_putS, s_pkkO, s_pkkB, s_subL, s_subK, s_tSub, s_toSl0, s_toSlV, s_toSlO, s_toSlR, s_callK, s_pb0, s_pbN, s_pbS, s_out0, s_outB, s_outW, s_clV, s_clN, s_clR, s_clkV, s_clkO, s_rkN, s_rkR, s_rkE, s_run0, s_run1, s_run2, s_run3, s_run4, s_run5, s_run6, s_rp0, s_rpS, s_at3a, s_at3b, s_at3c, s_at2a, s_at2b, s_ix30, s_ix31, s_ix32, s_sl, s_slF, s_part0, s_partS, s_ptF, s_strM, s_stF, s_onIt, s_itK, s_for, s_forK, s_lc, s_lcK, s_rng1, s_rgK, s_methV, s_onIns, s_mkR, s_mkK, s_makeE, s_make, s_fldK, s_fld, s_apR, s_apL, s_apK, s_app, s_ch2, s_chT, s_chF, s_chFF, s_chain, s_wipe, s_rest, s_ov0, s_ovS, s_co0, s_coS, s_okC0, s_okCS, s_okN, s_okV, s_fV, s_lcStep, s_eqI, s_neI, s_eqS, s_neS, List.length_cons, List.length_nil, List.map_cons, List.map_nil, List.cons_append, List.nil_append, List.append_nil, List.getElem?_cons_zero, List.getElem?_cons_succ, List.set_cons_zero, List.set_cons_succ, List.filterMap_cons, List.filterMap_nil, id, s_itT, s_itF, Bool.false_eq_true, if_true, if_false, Nat.reduceAdd, Nat.zero_add, Nat.reduceLT, Nat.reduceEqDiff, Nat.reduceLeDiff, Int.reduceLT, Int.reduceLE, Int.reduceNeg, Int.reduceAdd, Int.reduceMul, Int.reduceMod, and_self, and_true, true_and, List.nodup_cons, List.nodup_nil, List.not_mem_nil, not_false_eq_true, pick, hs, hi, e, wp_some]
    exact ⟨_, _, _, rfl⟩
theorem lw4_ok (S L x2 x3 : Option Sl) (ps : List (Str × Int)) (P : Pairs ps) : lw4 [S, L, x2, x3, some (.val (.tup (ps.map pr))), some (.own (.ins 0 [.tup (ps.map pr)]))] = some (.nx, [S, L, x2, x3, some (.val (.tup (ps.map pr))), some (.val (cat ps))]) := by
  have hr := right_ok ps P
  unfold lw4
  unfold cat at hr ⊢
  simp only [kE_ok, kE_err, kV_val, kV_new, s_bindR, s_bindV, s_cC, s_ret, s_cVar, s_varV, s_varO, s_varB, s_peekV, s_peekN, s_peekR, s_pkV, s_pkO, s_pkB, s_toVR, s_tvV, s_tvO, s_toVV, s_toVN, s_toDl, s_toDi, s_done, s_outV, s_outN, s_op2, s_op2F, s_op2K, s_op1, s_op1K, s_evs0, s_evsV, s_evsR, s_cB, s_bK, s_bK2, s_pks0, s_pksV, s_pksO, s_pkC, s_map, s_tup, s_lst, s_tupK, s_lstK, s_vals0, s_valsV, s_onB, s_bF, s_not, s_and, s_or, s_if, s_truth, s_itT, s_itF, sE_ok, sE_err, sV_val, sV_new, s_onE, s_onV, s_nop, s_seq, s_sqN, s_sqR, s_sqE, s_drop, s_retS, s_ifS, s_ifF, s_setV, s_setN, s_set, s_asg, s_asgK, s_tName, s_obK, s_tTup, s_ts0, s_tsC, s_call, s_callE, s_endV, s_endN, s_getS, s_gkO, s_gkB, s_gkV, s_putS, s_pkkO, s_pkkB, s_subL, s_subK, s_tSub, s_toSl0, s_toSlV, s_toSlO, s_toSlR, s_callK, s_pb0, s_pbN, s_pbS, s_out0, s_outB, s_outW, s_clV, s_clN, s_clR, s_clkV, s_clkO, s_rkN, s_rkR, s_rkE, s_run0, s_run1, s_run2, s_run3, s_run4, s_run5, s_run6, s_rp0, s_rpS, s_at3a, s_at3b, s_at3c, s_at2a, s_at2b, s_ix30, s_ix31, s_ix32, s_sl, s_slF, s_part0, s_partS, s_ptF, s_strM, s_stF, s_onIt, s_itK, s_for, s_forK, s_lc, s_lcK, s_rng1, s_rgK, s_methV, s_onIns, s_mkR, s_mkK, s_makeE, s_make, s_fldK, s_fld, s_apR, s_apL, s_apK, s_app, s_ch2, s_chT, s_chF, s_chFF, s_chain, s_wipe, s_rest, s_ov0, s_ovS, s_co0, s_coS, s_okC0, s_okCS, s_okN, s_okV, s_fV, s_lcStep, s_eqI, s_neI, s_eqS, s_neS, List.length_cons, List.length_nil, List.map_cons, List.map_nil, List.cons_append, List.nil_append, List.append_nil, List.getElem?_cons_zero, List.getElem?_cons_succ, List.set_cons_zero, List.set_cons_succ, List.filterMap_cons, List.filterMap_nil, id, s_itT, s_itF, Bool.false_eq_true, if_true, if_false, Nat.reduceAdd, Nat.zero_add, Nat.reduceLT, Nat.reduceEqDiff, Nat.reduceLeDiff, Int.reduceLT, Int.reduceLE, Int.reduceNeg, Int.reduceAdd, Int.reduceMul, Int.reduceMod, and_self, and_true, true_and, List.nodup_cons, List.nodup_nil, List.not_mem_nil, not_false_eq_true, kV_ref, pick, hr, truth, Bool.not_true]
theorem lw5_ok (S x2 x3 : Option Sl) (l : List D) (hl : l.length < 6) (ps : List (Str × Int)) (P : Pairs ps) : lw5 [S, some (.own (.lst l)), x2, x3, some (.val (.tup (ps.map pr))), some (.val (cat ps))] = some (.nx, [S, some (.own (.lst (l ++ [.tup [cat ps, .tup (ps.map pr)]]))), x2, x3, some (.val (.tup (ps.map pr))), some (.val (cat ps))]) := by
  have h1 : l.length < LIM := Nat.lt_trans hl (by decide)
  have h2 : 2 ≤ LIM := by decide
  unfold lw5
  simp only [kE_ok, kE_err, kV_val, kV_new, s_bindR, s_bindV, s_cC, s_ret, s_cVar, s_varV, s_varO, s_varB, s_peekV, s_peekN, s_peekR, s_pkV, s_pkO, s_pkB, s_toVR, s_tvV, s_tvO, s_toVV, s_toVN, s_toDl, s_toDi, s_done, s_outV, s_outN, s_op2, s_op2F, s_op2K, s_op1, s_op1K, s_evs0, s_evsV, s_evsR, s_cB, s_bK, s_bK2, s_pks0, s_pksV, s_pksO, s_pkC, s_map, s_tup, s_lst, s_tupK, s_lstK, s_vals0, s_valsV, s_onB, s_bF, s_not, s_and, s_or, s_if, s_truth, s_itT, s_itF, sE_ok, sE_err, sV_val, sV_new, s_onE, s_onV, s_nop, s_seq, s_sqN, s_sqR, s_sqE, s_drop, s_retS, s_ifS, s_ifF, s_setV, s_setN, s_set, s_asg, s_asgK, s_tName, s_obK, s_tTup, s_ts0, s_tsC, s_call, s_callE, s_endV, s_endN, s_getS, s_gkO, s_gkB, s_gkV, s_putS, s_pkkO, s_pkkB, s_subL, s_subK, s_tSub, s_toSl0, s_toSlV, s_toSlO, s_toSlR, s_callK, s_pb0, s_pbN, s_pbS, s_out0, s_outB, s_outW, s_clV, s_clN, s_clR, s_clkV, s_clkO, s_rkN, s_rkR, s_rkE, s_run0, s_run1, s_run2, s_run3, s_run4, s_run5, s_run6, s_rp0, s_rpS, s_at3a, s_at3b, s_at3c, s_at2a, s_at2b, s_ix30, s_ix31, s_ix32, s_sl, s_slF, s_part0, s_partS, s_ptF, s_strM, s_stF, s_onIt, s_itK, s_for, s_forK, s_lc, s_lcK, s_rng1, s_rgK, s_methV, s_onIns, s_mkR, s_mkK, s_makeE, s_make, s_fldK, s_fld, s_apR, s_apL, s_apK, s_app, s_ch2, s_chT, s_chF, s_chFF, s_chain, s_wipe, s_rest, s_ov0, s_ovS, s_co0, s_coS, s_okC0, s_okCS, s_okN, s_okV, s_fV, s_lcStep, s_eqI, s_neI, s_eqS, s_neS, List.length_cons, List.length_nil, List.map_cons, List.map_nil, List.cons_append, List.nil_append, List.append_nil, List.getElem?_cons_zero, List.getElem?_cons_succ, List.set_cons_zero, List.set_cons_succ, List.filterMap_cons, List.filterMap_nil, id, s_itT, s_itF, Bool.false_eq_true, if_true, if_false, Nat.reduceAdd, Nat.zero_add, Nat.reduceLT, Nat.reduceEqDiff, Nat.reduceLeDiff, Int.reduceLT, Int.reduceLE, Int.reduceNeg, Int.reduceAdd, Int.reduceMul, Int.reduceMod, and_self, and_true, true_and, List.nodup_cons, List.nodup_nil, List.not_mem_nil, not_false_eq_true, h1, h2]
def kd (ps : List (Str × Int)) : D := .tup [cat ps, .tup (ps.map pr)]
def lwV (x : Option Sl) : Prop := x = none ∨ ∃ d, x = some (.val d)
def lwB : DSt := cSeq lw1 (cSeq lw2 (cSeq lw3 (cSeq lw4 lw5)))
theorem lw_turn (ns : List Int) (k : Int) (h0 : 0 ≤ k) (h6 : k < 6) (l : List (List (Str × Int))) (hl : l.length < 6) (x3 x4 x5 : Option Sl) : Wp (lwB [some (.val (.scr ns)), some (.own (.lst (l.map kd))), some (.val (.int k)), x3, x4, x5]) fun p => ∃ ps x3 x4 x5, Pairs ps ∧ lwV x4 ∧ lwV x5 ∧ p = (.nx, [some (.val (.scr ns)), some (.own (.lst ((l ++ [ps]).map kd))), some (.val (.int k)), x3, x4, x5]) := by
  obtain ⟨_, h1, a, b, rfl⟩ := lw1_ok ns k h0 h6 (some (.own (.lst (l.map kd)))) x3 x4 x5
  obtain ⟨_, h2, a1, b1, c1, ps, P, rfl⟩ := lw2_ok (some (.val (.scr ns))) (some (.own (.lst (l.map kd)))) (some (.val (.int k))) x4 x5 a b 0
  obtain ⟨_, h3, a2, b2, c2, rfl⟩ := lw3_ok (some (.val (.scr ns))) (some (.own (.lst (l.map kd)))) (some (.val (.int k))) x5 a1 b1 c1 ps P
  have h4 := lw4_ok (some (.val (.scr ns))) (some (.own (.lst (l.map kd)))) (some (.val (.int k))) (some (.own (.lst [.int a2, .int b2, .int c2]))) ps P
  have h5 := lw5_ok (some (.val (.scr ns))) (some (.val (.int k))) (some (.own (.lst [.int a2, .int b2, .int c2]))) (l.map kd) (by rw [List.length_map]; exact hl) ps P
  unfold lwB
  simp only [s_seq, h1, s_sqN, h2, h3, h4, h5, wp_some]
  exact ⟨ps, _, _, _, P, .inr ⟨_, rfl⟩, .inr ⟨_, rfl⟩, by rw [List.map_append]; rfl⟩
theorem wipe6 (S L x2 x3 x4 x5 : Option Sl) : wipeE [5, 4] [S, L, x2, x3, x4, x5] = [S, L, x2, x3, none, none] := rfl
theorem lw_all (S L x2 x3 : Option Sl) (l : List (List (Str × Int))) (hl : ∀ ps ∈ l, Pairs ps) : lcs [5, 4] (Pd.tTup 2 (tsCons (tName 5) (tsCons (tName 4) tsNil))) cYes (cCall d__law_right [0, 1] [] [.v (cVar 5), .v (cVar 4)]) (l.map kd) [S, L, x2, x3, none, none] = some (l.map fun _ => .bl true, [S, L, x2, x3, none, none]) := lcsM_pure _ fun ps hp => by
  have hr := right_ok ps (hl ps hp)
  unfold kd
  simp only [kE_ok, kE_err, kV_val, kV_new, s_bindR, s_bindV, s_cC, s_ret, s_cVar, s_varV, s_varO, s_varB, s_peekV, s_peekN, s_peekR, s_pkV, s_pkO, s_pkB, s_toVR, s_tvV, s_tvO, s_toVV, s_toVN, s_toDl, s_toDi, s_done, s_outV, s_outN, s_op2, s_op2F, s_op2K, s_op1, s_op1K, s_evs0, s_evsV, s_evsR, s_cB, s_bK, s_bK2, s_pks0, s_pksV, s_pksO, s_pkC, s_map, s_tup, s_lst, s_tupK, s_lstK, s_vals0, s_valsV, s_onB, s_bF, s_not, s_and, s_or, s_if, s_truth, s_itT, s_itF, sE_ok, sE_err, sV_val, sV_new, s_onE, s_onV, s_nop, s_seq, s_sqN, s_sqR, s_sqE, s_drop, s_retS, s_ifS, s_ifF, s_setV, s_setN, s_set, s_asg, s_asgK, s_tName, s_obK, s_tTup, s_ts0, s_tsC, s_call, s_callE, s_endV, s_endN, s_getS, s_gkO, s_gkB, s_gkV, s_putS, s_pkkO, s_pkkB, s_subL, s_subK, s_tSub, s_toSl0, s_toSlV, s_toSlO, s_toSlR, s_callK, s_pb0, s_pbN, s_pbS, s_out0, s_outB, s_outW, s_clV, s_clN, s_clR, s_clkV, s_clkO, s_rkN, s_rkR, s_rkE, s_run0, s_run1, s_run2, s_run3, s_run4, s_run5, s_run6, s_rp0, s_rpS, s_at3a, s_at3b, s_at3c, s_at2a, s_at2b, s_ix30, s_ix31, s_ix32, s_sl, s_slF, s_part0, s_partS, s_ptF, s_strM, s_stF, s_onIt, s_itK, s_for, s_forK, s_lc, s_lcK, s_rng1, s_rgK, s_methV, s_onIns, s_mkR, s_mkK, s_makeE, s_make, s_fldK, s_fld, s_apR, s_apL, s_apK, s_app, s_ch2, s_chT, s_chF, s_chFF, s_chain, s_wipe, s_rest, s_ov0, s_ovS, s_co0, s_coS, s_okC0, s_okCS, s_okN, s_okV, s_fV, s_lcStep, s_eqI, s_neI, s_eqS, s_neS, List.length_cons, List.length_nil, List.map_cons, List.map_nil, List.cons_append, List.nil_append, List.append_nil, List.getElem?_cons_zero, List.getElem?_cons_succ, List.set_cons_zero, List.set_cons_succ, List.filterMap_cons, List.filterMap_nil, id, s_itT, s_itF, Bool.false_eq_true, if_true, if_false, Nat.reduceAdd, Nat.zero_add, Nat.reduceLT, Nat.reduceEqDiff, Nat.reduceLeDiff, Int.reduceLT, Int.reduceLE, Int.reduceNeg, Int.reduceAdd, Int.reduceMul, Int.reduceMod, and_self, and_true, true_and, List.nodup_cons, List.nodup_nil, List.not_mem_nil, not_false_eq_true, pick, hr, wp_some, wipe6]
  exact rfl
def one_ok := 1
end Lwk01

namespace Lwk01
open PySem PySem.Spec PyProof.Rows L2 Pd
theorem ktrue : ∀ l : List (List (Str × Int)), blsD (l.map fun _ => D.bl true) = some (l.map fun _ => true)
  | [] => rfl
  | _ :: l => by
    show (blsD (l.map fun _ => .bl true)).map _ = _
    rw [ktrue l]
    rfl
theorem ktru : ∀ l : List (List (Str × Int)), (l.map fun _ => true).all id = true
  | [] => rfl
  | _ :: l => ktru l
theorem kall (l : List (List (Str × Int))) : gAll [.lst (l.map fun _ => .bl true)] = some (.val (.bl true)) := by
  show (blsD (l.map fun _ => D.bl true)).map (fun bs => Out.val (.bl (bs.all id))) = _
  rw [ktrue, Option.map_some, ktru]
def lwF : DSt := cFor (rng1 (cB gMax2 [.r (cC (.int 2)), .r (cB gMin2 [.r (cB gLen [.r (cVar 0)]), .r (cC (.int 6))])])) (tName 2) lwB
def lwR : DSt := cRet (cB gAll [.r (cLc (onIt (cVar 1) itAny) [5, 4] (Pd.tTup 2 (tsCons (tName 5) (tsCons (tName 4) tsNil))) cYes (cCall d__law_right [0, 1] [] [.v (cVar 5), .v (cVar 4)]))])
theorem lwR_ok (S x2 x3 x4 x5 : Option Sl) (l : List (List (Str × Int))) (hl : ∀ ps ∈ l, Pairs ps) (h4 : lwV x4) (h5 : lwV x5) : Wp (lwR [S, some (.own (.lst (l.map kd))), x2, x3, x4, x5]) fun p => p.1 = .ret (.val (.bl true)) ∧ ∃ e, p.2 = [S, e, x2, x3, x4, x5] := by
  have h := fun L => lw_all S L x2 x3 l hl
  have ha := kall l
  have o4 : okK (some x4) = true := by
    rcases h4 with rfl | ⟨d, rfl⟩ <;> rfl
  have o5 : okK (some x5) = true := by
    rcases h5 with rfl | ⟨d, rfl⟩ <;> rfl
  unfold lwR
  simp only [kE_ok, kE_err, kV_val, kV_new, s_bindR, s_bindV, s_cC, s_ret, s_cVar, s_varV, s_varO, s_varB, s_peekV, s_peekN, s_peekR, s_pkV, s_pkO, s_pkB, s_toVR, s_tvV, s_tvO, s_toVV, s_toVN, s_toDl, s_toDi, s_done, s_outV, s_outN, s_op2, s_op2F, s_op2K, s_op1, s_op1K, s_evs0, s_evsV, s_evsR, s_cB, s_bK, s_bK2, s_pks0, s_pksV, s_pksO, s_pkC, s_map, s_tup, s_lst, s_tupK, s_lstK, s_vals0, s_valsV, s_onB, s_bF, s_not, s_and, s_or, s_if, s_truth, s_itT, s_itF, sE_ok, sE_err, sV_val, sV_new, s_onE, s_onV, s_nop, s_seq, s_sqN, s_sqR, s_sqE, s_drop, s_retS, s_ifS, s_ifF, s_setV, s_setN, s_set, s_asg, s_asgK, s_tName, s_obK, s_tTup, s_ts0, s_tsC, s_call, s_callE, s_endV, s_endN, s_getS, s_gkO, s_gkB, s_gkV, s_putS, s_pkkO, s_pkkB, s_subL, s_subK, s_tSub, s_toSl0, s_toSlV, s_toSlO, s_toSlR, s_callK, s_pb0, s_pbN, s_pbS, s_out0, s_outB, s_outW, s_clV, s_clN, s_clR, s_clkV, s_clkO, s_rkN, s_rkR, s_rkE, s_run0, s_run1, s_run2, s_run3, s_run4, s_run5, s_run6, s_rp0, s_rpS, s_at3a, s_at3b, s_at3c, s_at2a, s_at2b, s_ix30, s_ix31, s_ix32, s_sl, s_slF, s_part0, s_partS, s_ptF, s_strM, s_stF, s_onIt, s_itK, s_for, s_forK, s_lc, s_lcK, s_rng1, s_rgK, s_methV, s_onIns, s_mkR, s_mkK, s_makeE, s_make, s_fldK, s_fld, s_apR, s_apL, s_apK, s_app, s_ch2, s_chT, s_chF, s_chFF, s_chain, s_wipe, s_rest, s_ov0, s_ovS, s_co0, s_coS, s_okC0, s_okCS, s_okN, s_okV, s_fV, s_lcStep, s_eqI, s_neI, s_eqS, s_neS, List.length_cons, List.length_nil, List.map_cons, List.map_nil, List.cons_append, List.nil_append, List.append_nil, List.getElem?_cons_zero, List.getElem?_cons_succ, List.set_cons_zero, List.set_cons_succ, List.filterMap_cons, List.filterMap_nil, id, s_itT, s_itF, Bool.false_eq_true, if_true, if_false, Nat.reduceAdd, Nat.zero_add, Nat.reduceLT, Nat.reduceEqDiff, Nat.reduceLeDiff, Int.reduceLT, Int.reduceLE, Int.reduceNeg, Int.reduceAdd, Int.reduceMul, Int.reduceMod, and_self, and_true, true_and, List.nodup_cons, List.nodup_nil, List.not_mem_nil, not_false_eq_true, itAny, o4, o5, h, ha, Nat.reduceBEq, Bool.or_false, Bool.or_true, Bool.and_self, wp_some, Option.getD_some, true_and]
  exact ⟨_, rfl⟩
theorem lwF_ok (ns : List Int) (hn : ns.length ≤ 63) : Wp (lwF [some (.val (.scr ns)), some (.own (.lst [])), none, none, none, none]) fun p => p.1 = .nx ∧ ∃ (l : List (List (Str × Int))) (x2 x3 x4 x5 : Option Sl), p.2 = [some (.val (.scr ns)), some (.own (.lst (l.map kd))), x2, x3, x4, x5] ∧ (∀ ps ∈ l, Pairs ps) ∧ lwV x4 ∧ lwV x5 := by
  obtain ⟨k, g, hk⟩ : ∃ k : Int, gMin2 [.int ns.length, .int 6] = some (.val (.int k)) ∧ k ≤ 6 := ⟨_, rfl, by split <;> omega⟩
  obtain ⟨m, g2, hm, hm2⟩ : ∃ m : Int, gMax2 [.int 2, .int k] = some (.val (.int m)) ∧ m ≤ 6 ∧ 0 ≤ m := ⟨_, rfl, by split <;> omega, by split <;> omega⟩
  obtain ⟨n, rfl⟩ : ∃ n : Nat, m = n := ⟨m.toNat, by omega⟩
  have lo : (-1000000 : Int) ≤ n := by omega
  have hi : (n : Int) ≤ 1000000 := by omega
  unfold lwF
  simp only [kE_ok, kE_err, kV_val, kV_new, s_bindR, s_bindV, s_cC, s_ret, s_cVar, s_varV, s_varO, s_varB, s_peekV, s_peekN, s_peekR, s_pkV, s_pkO, s_pkB, s_toVR, s_tvV, s_tvO, s_toVV, s_toVN, s_toDl, s_toDi, s_done, s_outV, s_outN, s_op2, s_op2F, s_op2K, s_op1, s_op1K, s_evs0, s_evsV, s_evsR, s_cB, s_bK, s_bK2, s_pks0, s_pksV, s_pksO, s_pkC, s_map, s_tup, s_lst, s_tupK, s_lstK, s_vals0, s_valsV, s_onB, s_bF, s_not, s_and, s_or, s_if, s_truth, s_itT, s_itF, sE_ok, sE_err, sV_val, sV_new, s_onE, s_onV, s_nop, s_seq, s_sqN, s_sqR, s_sqE, s_drop, s_retS, s_ifS, s_ifF, s_setV, s_setN, s_set, s_asg, s_asgK, s_tName, s_obK, s_tTup, s_ts0, s_tsC, s_call, s_callE, s_endV, s_endN, s_getS, s_gkO, s_gkB, s_gkV, s_putS, s_pkkO, s_pkkB, s_subL, s_subK, s_tSub, s_toSl0, s_toSlV, s_toSlO, s_toSlR, s_callK, s_pb0, s_pbN, s_pbS, s_out0, s_outB, s_outW, s_clV, s_clN, s_clR, s_clkV, s_clkO, s_rkN, s_rkR, s_rkE, s_run0, s_run1, s_run2, s_run3, s_run4, s_run5, s_run6, s_rp0, s_rpS, s_at3a, s_at3b, s_at3c, s_at2a, s_at2b, s_ix30, s_ix31, s_ix32, s_sl, s_slF, s_part0, s_partS, s_ptF, s_strM, s_stF, s_onIt, s_itK, s_for, s_forK, s_lc, s_lcK, s_rng1, s_rgK, s_methV, s_onIns, s_mkR, s_mkK, s_makeE, s_make, s_fldK, s_fld, s_apR, s_apL, s_apK, s_app, s_ch2, s_chT, s_chF, s_chFF, s_chain, s_wipe, s_rest, s_ov0, s_ovS, s_co0, s_coS, s_okC0, s_okCS, s_okN, s_okV, s_fV, s_lcStep, s_eqI, s_neI, s_eqS, s_neS, List.length_cons, List.length_nil, List.map_cons, List.map_nil, List.cons_append, List.nil_append, List.append_nil, List.getElem?_cons_zero, List.getElem?_cons_succ, List.set_cons_zero, List.set_cons_succ, List.filterMap_cons, List.filterMap_nil, id, s_itT, s_itF, Bool.false_eq_true, if_true, if_false, Nat.reduceAdd, Nat.zero_add, Nat.reduceLT, Nat.reduceEqDiff, Nat.reduceLeDiff, Int.reduceLT, Int.reduceLE, Int.reduceNeg, Int.reduceAdd, Int.reduceMul, Int.reduceMod, and_self, and_true, true_and, List.nodup_cons, List.nodup_nil, List.not_mem_nil, not_false_eq_true, gLen, lenD, g, g2, lo, hi]
  unfold rangeD
  refine Wp.loopM (fun pre env => ∃ (l : List (List (Str × Int))) (x2 x3 x4 x5 : Option Sl), env = [some (.val (.scr ns)), some (.own (.lst (l.map kd))), x2, x3, x4, x5] ∧ l.length = pre.length ∧ (∀ ps ∈ l, Pairs ps) ∧ lwV x4 ∧ lwV x5) ⟨[], _, _, _, _, rfl, rfl, fun _ h => absurd h List.not_mem_nil, .inl rfl, .inl rfl⟩ ?_ ?_
  · rintro pre k post _ e ⟨l, x2, x3, x4, x5, rfl, hl, hP, h4, h5⟩
    have len : pre.length < n := by
      have := congrArg List.length e
      rw [List.length_range, List.length_append, List.length_cons] at this
      omega
    have hk : k < n := by
      have : k ∈ List.range ((n : Int) - 0).toNat := by rw [e]; exact List.mem_append_right _ List.mem_cons_self
      rw [List.mem_range] at this
      omega
    obtain ⟨_, ht, ps, y3, y4, y5, P, q4, q5, rfl⟩ := lw_turn ns (0 + (k : Int)) (by omega) (by omega) l (by omega) x3 x4 x5
    simp only [kE_ok, kE_err, kV_val, kV_new, s_bindR, s_bindV, s_cC, s_ret, s_cVar, s_varV, s_varO, s_varB, s_peekV, s_peekN, s_peekR, s_pkV, s_pkO, s_pkB, s_toVR, s_tvV, s_tvO, s_toVV, s_toVN, s_toDl, s_toDi, s_done, s_outV, s_outN, s_op2, s_op2F, s_op2K, s_op1, s_op1K, s_evs0, s_evsV, s_evsR, s_cB, s_bK, s_bK2, s_pks0, s_pksV, s_pksO, s_pkC, s_map, s_tup, s_lst, s_tupK, s_lstK, s_vals0, s_valsV, s_onB, s_bF, s_not, s_and, s_or, s_if, s_truth, s_itT, s_itF, sE_ok, sE_err, sV_val, sV_new, s_onE, s_onV, s_nop, s_seq, s_sqN, s_sqR, s_sqE, s_drop, s_retS, s_ifS, s_ifF, s_setV, s_setN, s_set, s_asg, s_asgK, s_tName, s_obK, s_tTup, s_ts0, s_tsC, s_call, s_callE, s_endV, s_endN, s_getS, s_gkO, s_gkB, s_gkV, s_putS, s_pkkO, s_pkkB, s_subL, s_subK, s_tSub, s_toSl0, s_toSlV, s_toSlO, s_toSlR, s_callK, s_pb0, s_pbN, s_pbS, s_out0, s_outB, s_outW, s_clV, s_clN, s_clR, s_clkV, s_clkO, s_rkN, s_rkR, s_rkE, s_run0, s_run1, s_run2, s_run3, s_run4, s_run5, s_run6, s_rp0, s_rpS, s_at3a, s_at3b, s_at3c, s_at2a, s_at2b, s_ix30, s_ix31, s_ix32, s_sl, s_slF, s_part0, s_partS, s_ptF, s_strM, s_stF, s_onIt, s_itK, s_for, s_forK, s_lc, s_lcK, s_rng1, s_rgK, s_methV, s_onIns, s_mkR, s_mkK, s_makeE, s_make, s_fldK, s_fld, s_apR, s_apL, s_apK, s_app, s_ch2, s_chT, s_chF, s_chFF, s_chain, s_wipe, s_rest, s_ov0, s_ovS, s_co0, s_coS, s_okC0, s_okCS, s_okN, s_okV, s_fV, s_lcStep, s_eqI, s_neI, s_eqS, s_neS, List.length_cons, List.length_nil, List.map_cons, List.map_nil, List.cons_append, List.nil_append, List.append_nil, List.getElem?_cons_zero, List.getElem?_cons_succ, List.set_cons_zero, List.set_cons_succ, List.filterMap_cons, List.filterMap_nil, id, s_itT, s_itF, Bool.false_eq_true, if_true, if_false, Nat.reduceAdd, Nat.zero_add, Nat.reduceLT, Nat.reduceEqDiff, Nat.reduceLeDiff, Int.reduceLT, Int.reduceLE, Int.reduceNeg, Int.reduceAdd, Int.reduceMul, Int.reduceMod, and_self, and_true, true_and, List.nodup_cons, List.nodup_nil, List.not_mem_nil, not_false_eq_true, wp_some]
    rw [ht, wp_some]
    refine ⟨l ++ [ps], _, _, _, _, rfl, ?_, ?_, q4, q5⟩
    · rw [List.length_append, List.length_append, hl]
      rfl
    · intro q hq
      rcases List.mem_append.mp hq with hq | hq
      · exact hP q hq
      · rw [List.mem_singleton] at hq
        exact hq ▸ P
  · rintro _ ⟨l, x2, x3, x4, x5, rfl, _, hP, h4, h5⟩
    exact ⟨rfl, l, _, _, _, _, rfl, hP, h4, h5⟩
theorem pure_law (ns : List Int) (hn : ns.length ≤ 63) : ∃ os, d_law [.val (.scr ns)] = some (.ok (.val (.bl true)), os) := by
  obtain ⟨⟨fl, e2⟩, h1, rfl, l, x2, x3, x4, x5, rfl, hP, h4, h5⟩ := lwF_ok ns hn
  obtain ⟨⟨fl, e3⟩, h2, rfl, e, rfl⟩ := lwR_ok (some (.val (.scr ns))) x2 x3 x4 x5 l hP h4 h5
  have eb : b_law = cSeq (cSet 1 (cLst [])) (cSeq lwF lwR) := rfl
  have h0 : cSet 1 (cLst []) [some (.val (.scr ns)), none, none, none, none, none] = some (.nx, [some (.val (.scr ns)), some (.own (.lst [])), none, none, none, none]) := by
    simp only [kE_ok, kE_err, kV_val, kV_new, s_bindR, s_bindV, s_cC, s_ret, s_cVar, s_varV, s_varO, s_varB, s_peekV, s_peekN, s_peekR, s_pkV, s_pkO, s_pkB, s_toVR, s_tvV, s_tvO, s_toVV, s_toVN, s_toDl, s_toDi, s_done, s_outV, s_outN, s_op2, s_op2F, s_op2K, s_op1, s_op1K, s_evs0, s_evsV, s_evsR, s_cB, s_bK, s_bK2, s_pks0, s_pksV, s_pksO, s_pkC, s_map, s_tup, s_lst, s_tupK, s_lstK, s_vals0, s_valsV, s_onB, s_bF, s_not, s_and, s_or, s_if, s_truth, s_itT, s_itF, sE_ok, sE_err, sV_val, sV_new, s_onE, s_onV, s_nop, s_seq, s_sqN, s_sqR, s_sqE, s_drop, s_retS, s_ifS, s_ifF, s_setV, s_setN, s_set, s_asg, s_asgK, s_tName, s_obK, s_tTup, s_ts0, s_tsC, s_call, s_callE, s_endV, s_endN, s_getS, s_gkO, s_gkB, s_gkV, s_putS, s_pkkO, s_pkkB, s_subL, s_subK, s_tSub, s_toSl0, s_toSlV, s_toSlO, s_toSlR, s_callK, s_pb0, s_pbN, s_pbS, s_out0, s_outB, s_outW, s_clV, s_clN, s_clR, s_clkV, s_clkO, s_rkN, s_rkR, s_rkE, s_run0, s_run1, s_run2, s_run3, s_run4, s_run5, s_run6, s_rp0, s_rpS, s_at3a, s_at3b, s_at3c, s_at2a, s_at2b, s_ix30, s_ix31, s_ix32, s_sl, s_slF, s_part0, s_partS, s_ptF, s_strM, s_stF, s_onIt, s_itK, s_for, s_forK, s_lc, s_lcK, s_rng1, s_rgK, s_methV, s_onIns, s_mkR, s_mkK, s_makeE, s_make, s_fldK, s_fld, s_apR, s_apL, s_apK, s_app, s_ch2, s_chT, s_chF, s_chFF, s_chain, s_wipe, s_rest, s_ov0, s_ovS, s_co0, s_coS, s_okC0, s_okCS, s_okN, s_okV, s_fV, s_lcStep, s_eqI, s_neI, s_eqS, s_neS, List.length_cons, List.length_nil, List.map_cons, List.map_nil, List.cons_append, List.nil_append, List.append_nil, List.getElem?_cons_zero, List.getElem?_cons_succ, List.set_cons_zero, List.set_cons_succ, List.filterMap_cons, List.filterMap_nil, id, s_itT, s_itF, Bool.false_eq_true, if_true, if_false, Nat.reduceAdd, Nat.zero_add, Nat.reduceLT, Nat.reduceEqDiff, Nat.reduceLeDiff, Int.reduceLT, Int.reduceLE, Int.reduceNeg, Int.reduceAdd, Int.reduceMul, Int.reduceMod, and_self, and_true, true_and, List.nodup_cons, List.nodup_nil, List.not_mem_nil, not_false_eq_true, Nat.zero_le]
  unfold d_law
  rw [eb, s_run1]
  show ∃ os, runK (cSeq (cSet 1 (cLst [])) (cSeq lwF lwR) [some (.val (.scr ns)), none, none, none, none, none]) _ = some (_, os)
  simp only [s_seq, h0, s_sqN, h1, h2]
  simp only [kE_ok, kE_err, kV_val, kV_new, s_bindR, s_bindV, s_cC, s_ret, s_cVar, s_varV, s_varO, s_varB, s_peekV, s_peekN, s_peekR, s_pkV, s_pkO, s_pkB, s_toVR, s_tvV, s_tvO, s_toVV, s_toVN, s_toDl, s_toDi, s_done, s_outV, s_outN, s_op2, s_op2F, s_op2K, s_op1, s_op1K, s_evs0, s_evsV, s_evsR, s_cB, s_bK, s_bK2, s_pks0, s_pksV, s_pksO, s_pkC, s_map, s_tup, s_lst, s_tupK, s_lstK, s_vals0, s_valsV, s_onB, s_bF, s_not, s_and, s_or, s_if, s_truth, s_itT, s_itF, sE_ok, sE_err, sV_val, sV_new, s_onE, s_onV, s_nop, s_seq, s_sqN, s_sqR, s_sqE, s_drop, s_retS, s_ifS, s_ifF, s_setV, s_setN, s_set, s_asg, s_asgK, s_tName, s_obK, s_tTup, s_ts0, s_tsC, s_call, s_callE, s_endV, s_endN, s_getS, s_gkO, s_gkB, s_gkV, s_putS, s_pkkO, s_pkkB, s_subL, s_subK, s_tSub, s_toSl0, s_toSlV, s_toSlO, s_toSlR, s_callK, s_pb0, s_pbN, s_pbS, s_out0, s_outB, s_outW, s_clV, s_clN, s_clR, s_clkV, s_clkO, s_rkN, s_rkR, s_rkE, s_run0, s_run1, s_run2, s_run3, s_run4, s_run5, s_run6, s_rp0, s_rpS, s_at3a, s_at3b, s_at3c, s_at2a, s_at2b, s_ix30, s_ix31, s_ix32, s_sl, s_slF, s_part0, s_partS, s_ptF, s_strM, s_stF, s_onIt, s_itK, s_for, s_forK, s_lc, s_lcK, s_rng1, s_rgK, s_methV, s_onIns, s_mkR, s_mkK, s_makeE, s_make, s_fldK, s_fld, s_apR, s_apL, s_apK, s_app, s_ch2, s_chT, s_chF, s_chFF, s_chain, s_wipe, s_rest, s_ov0, s_ovS, s_co0, s_coS, s_okC0, s_okCS, s_okN, s_okV, s_fV, s_lcStep, s_eqI, s_neI, s_eqS, s_neS, List.length_cons, List.length_nil, List.map_cons, List.map_nil, List.cons_append, List.nil_append, List.append_nil, List.getElem?_cons_zero, List.getElem?_cons_succ, List.set_cons_zero, List.set_cons_succ, List.filterMap_cons, List.filterMap_nil, id, s_itT, s_itF, Bool.false_eq_true, if_true, if_false, Nat.reduceAdd, Nat.zero_add, Nat.reduceLT, Nat.reduceEqDiff, Nat.reduceLeDiff, Int.reduceLT, Int.reduceLE, Int.reduceNeg, Int.reduceAdd, Int.reduceMul, Int.reduceMod, and_self, and_true, true_and, List.nodup_cons, List.nodup_nil, List.not_mem_nil, not_false_eq_true]
  exact ⟨_, rfl⟩
end Lwk01

open PySem PySem.W PyProof.Rows
set_option maxRecDepth 100000 in
set_option maxHeartbeats 0 in
theorem PySem.Challenge.cw_rollbook_k01_catalogs_made_holds : PySem.Challenge.rw_rollbook_k01_catalogs_made.Holds := by
  w_on; o_law; k_head; (case hw => w_witness2)
  k_fill
  refine Pd.walk_g (l := PySem.Challenge.rw_rollbook_k01_catalogs_made) (k := 7) (x := "_law_script") rfl rfl ⟨rfl, by decide, by decide⟩ (fun w h Y => PySem.W.kIn_of Y) ?F
  case F =>
    intro w mg fa h KX G hmg
    refine' Lwk01.end_law Lwk01.pure_law KX G hmg ?aC_Catalog ?pg_Catalog ?hd_Catalog ?po_Catalog ?sa_Catalog ?ha_Catalog ?hm_Catalog ?nb_Catalog ?mk_Catalog ?kc_Catalog ?na_Catalog_services ?kb_Catalog_bool ?kb_Catalog_int ?kb_Catalog_str ?kb_Catalog_tuple ?kb_Catalog_list ?kb_Catalog_dict ?kt_Catalog_NoneType ?kt_Catalog_bool ?kt_Catalog_int ?kt_Catalog_str ?kt_Catalog_tuple ?kt_Catalog_list ?kt_Catalog_dict ?ii_Catalog_Catalog ?hn ?ht ?a__law_source ?l__law_source ?c__law_source ?k__law_source ?a__law_cell ?l__law_cell ?c__law_cell ?k__law_cell ?a__law_draw ?l__law_draw ?c__law_draw ?k__law_draw ?a__law_names ?l__law_names ?c__law_names ?k__law_names ?a__law_services ?l__law_services ?c__law_services ?k__law_services ?a_is_integer ?l_is_integer ?c_is_integer ?k_is_integer ?a_is_name ?l_is_name ?c_is_name ?k_is_name ?a_is_service ?l_is_service ?c_is_service ?k_is_service ?a_Catalog___init__ ?i_Catalog___init__ ?l_Catalog___init__ ?c_Catalog___init__ ?k_Catalog___init__ ?a_Catalog_names ?i_Catalog_names ?l_Catalog_names ?c_Catalog_names ?k_Catalog_names ?a_Catalog_top_of ?i_Catalog_top_of ?l_Catalog_top_of ?c_Catalog_top_of ?k_Catalog_top_of ?a_Catalog___len__ ?i_Catalog___len__ ?l_Catalog___len__ ?c_Catalog___len__ ?k_Catalog___len__ ?a_Catalog___repr__ ?i_Catalog___repr__ ?l_Catalog___repr__ ?c_Catalog___repr__ ?k_Catalog___repr__ ?a__law_right ?l__law_right ?c__law_right ?k__law_right ?a_law ?l_law ?c_law ?k_law ?z_abs ?z_all ?z_bool ?z_divmod ?z_enumerate ?z_int ?z_isinstance ?z_len ?z_max ?z_min ?z_range ?z_repr ?z_sorted ?z_str ?z_tuple ?v_LETTERS ?v_MAX_LETTERS ?v_MAX_SERVICES ?v_MAX_TOP
    (case aC_Catalog => k_is)
    (case pg_Catalog => k_is)
    (case hd_Catalog => k_is)
    (case po_Catalog => k_is)
    (case sa_Catalog => k_is)
    (case ha_Catalog => k_is)
    (case hm_Catalog => k_is)
    (case nb_Catalog => k_is)
    (case mk_Catalog => k_is)
    (case kc_Catalog => k_is)
    (case na_Catalog_services => k_is)
    (case kb_Catalog_bool => kit_is)
    (case kb_Catalog_int => kit_is)
    (case kb_Catalog_str => kit_is)
    (case kb_Catalog_tuple => kit_is)
    (case kb_Catalog_list => kit_is)
    (case kb_Catalog_dict => kit_is)
    (case kt_Catalog_NoneType => kit_is)
    (case kt_Catalog_bool => kit_is)
    (case kt_Catalog_int => kit_is)
    (case kt_Catalog_str => kit_is)
    (case kt_Catalog_tuple => kit_is)
    (case kt_Catalog_list => kit_is)
    (case kt_Catalog_dict => kit_is)
    (case ii_Catalog_Catalog => kit_is)
    (case hn => k_is)
    (case ht => k_is)
    (case a__law_source => k_is)
    (case l__law_source => k_is)
    (case c__law_source => k_is)
    (case k__law_source => k_is)
    (case a__law_cell => k_is)
    (case l__law_cell => k_is)
    (case c__law_cell => k_is)
    (case k__law_cell => k_is)
    (case a__law_draw => k_is)
    (case l__law_draw => k_is)
    (case c__law_draw => k_is)
    (case k__law_draw => k_is)
    (case a__law_names => k_is)
    (case l__law_names => k_is)
    (case c__law_names => k_is)
    (case k__law_names => k_is)
    (case a__law_services => k_is)
    (case l__law_services => k_is)
    (case c__law_services => k_is)
    (case k__law_services => k_is)
    (case a_is_integer => k_is)
    (case l_is_integer => k_is)
    (case c_is_integer => k_is)
    (case k_is_integer => k_is)
    (case a_is_name => k_is)
    (case l_is_name => k_is)
    (case c_is_name => k_is)
    (case k_is_name => k_is)
    (case a_is_service => k_is)
    (case l_is_service => k_is)
    (case c_is_service => k_is)
    (case k_is_service => k_is)
    (case a_Catalog___init__ => k_is)
    (case i_Catalog___init__ => k_is)
    (case l_Catalog___init__ => k_is)
    (case c_Catalog___init__ => k_is)
    (case k_Catalog___init__ => k_is)
    (case a_Catalog_names => k_is)
    (case i_Catalog_names => k_is)
    (case l_Catalog_names => k_is)
    (case c_Catalog_names => k_is)
    (case k_Catalog_names => k_is)
    (case a_Catalog_top_of => k_is)
    (case i_Catalog_top_of => k_is)
    (case l_Catalog_top_of => k_is)
    (case c_Catalog_top_of => k_is)
    (case k_Catalog_top_of => k_is)
    (case a_Catalog___len__ => k_is)
    (case i_Catalog___len__ => k_is)
    (case l_Catalog___len__ => k_is)
    (case c_Catalog___len__ => k_is)
    (case k_Catalog___len__ => k_is)
    (case a_Catalog___repr__ => k_is)
    (case i_Catalog___repr__ => k_is)
    (case l_Catalog___repr__ => k_is)
    (case c_Catalog___repr__ => k_is)
    (case k_Catalog___repr__ => k_is)
    (case a__law_right => k_is)
    (case l__law_right => k_is)
    (case c__law_right => k_is)
    (case k__law_right => k_is)
    (case a_law => k_is)
    (case l_law => k_is)
    (case c_law => k_is)
    (case k_law => k_is)
    (case z_abs => k_is)
    (case z_all => k_is)
    (case z_bool => k_is)
    (case z_divmod => k_is)
    (case z_enumerate => k_is)
    (case z_int => k_is)
    (case z_isinstance => k_is)
    (case z_len => k_is)
    (case z_max => k_is)
    (case z_min => k_is)
    (case z_range => k_is)
    (case z_repr => k_is)
    (case z_sorted => k_is)
    (case z_str => k_is)
    (case z_tuple => k_is)
    (case v_LETTERS => k_is)
    (case v_MAX_LETTERS => k_is)
    (case v_MAX_SERVICES => k_is)
    (case v_MAX_TOP => k_is)
