import PyProof.Rows.All
import Wide.All
import OpenK.AllK
import Wide.FinOn
import HandS.ForMost
import HandS.IsInst
import HandS.Flow
import HandS.Defaults
import HandS.TupAny
import HandS.Deep
import HandS.Strs
import HandS.Words
import HandS.Ends
import HandS.EndOwn
import HandS.RaiseMore
import HandS.Dict
import HandS.Text
import HandS.Head0
import HandS.Head1
import HandS.Head2
import HandS.HeadEnd
import HandS.HeadHook1
import HandS.HeadHook2
import KE.KStateDown
import PySem.Challenge.RW_callviews_k01_words_and_class_names
set_option Elab.async false
set_option linter.all false
set_option maxRecDepth 100000
set_option maxHeartbeats 0
namespace HD
open PySem L2

inductive D where
  | non | bl (b : Bool) | int (i : Int) | str (x : Str)
  | list (xs : List D) | tup (xs : List D) | dict (kvs : List (D × D))
  | obj (c : Str) (fs : List (Str × D))
  | hnd (n : Nat)
  | ty (n : String)
  | cls (c : Str)
  deriving Inhabited

def kD : Key → D
  | .inl i => .int i
  | .inr x => .str x

/-- the handles' addresses (0 the law's draw, 1 its script, 2 the draw's cells), which of them stand, whether the script is told by the heap, its numbers; the classes' addresses -/
structure Sg where
  hd : Nat → Addr
  on : Nat → Bool
  trk : Bool
  ns : List Int
  cl : Str → Option Addr

mutual
inductive Rp (K : PySem.W.Frag) (G : Sg) (Hi : Hp) : V → D → Prop
  | non : Rp K G Hi .non .non
  | bl (b : Bool) : Rp K G Hi (.bl b) (.bl b)
  | int (i : Int) : Rp K G Hi (.int i) (.int i)
  | str (x : Str) : Rp K G Hi (.str x) (.str x)
  | lst {a : Addr} {vs : List V} {ds : List D} : Hi a = some (.lst vs) → RpAll K G Hi vs ds → Rp K G Hi (.ref a) (.list ds)
  | tup {a : Addr} {vs : List V} {ds : List D} : SqT K Hi a vs → RpAll K G Hi vs ds → Rp K G Hi (.ref a) (.tup ds)
  | dic {a : Addr} {ks : List (Key × V)} {ds : List (D × D)} : Hi a = some (.dK ks) → RpKv K G Hi ks ds → Rp K G Hi (.ref a) (.dict ds)
  | obj {a C dx : Addr} {c : Str} {fs : List (Str × V)} {ds : List (Str × D)} : Hi a = some (.ins C dx fs) → G.cl c = some C → RpFs K G Hi fs ds → Rp K G Hi (.ref a) (.obj c ds)
  | hnd (n : Nat) : G.on n = true → Rp K G Hi (.ref (G.hd n)) (.hnd n)
  | ty (n : String) : Rp K G Hi (.ty n) (.ty n)
  | cls {c : Str} {C : Addr} : G.cl c = some C → Rp K G Hi (.ref C) (.cls c)
inductive RpAll (K : PySem.W.Frag) (G : Sg) (Hi : Hp) : List V → List D → Prop
  | nil : RpAll K G Hi [] []
  | cons {v : V} {d : D} {vs : List V} {ds : List D} : Rp K G Hi v d → RpAll K G Hi vs ds → RpAll K G Hi (v :: vs) (d :: ds)
inductive RpKv (K : PySem.W.Frag) (G : Sg) (Hi : Hp) : List (Key × V) → List (D × D) → Prop
  | nil : RpKv K G Hi [] []
  | cons {k : Key} {v : V} {d : D} {ks : List (Key × V)} {ds : List (D × D)} : Rp K G Hi v d → RpKv K G Hi ks ds → RpKv K G Hi ((k, v) :: ks) ((kD k, d) :: ds)
inductive RpFs (K : PySem.W.Frag) (G : Sg) (Hi : Hp) : List (Str × V) → List (Str × D) → Prop
  | nil : RpFs K G Hi [] []
  | cons {f : Str} {v : V} {d : D} {ks : List (Str × V)} {ds : List (Str × D)} : Rp K G Hi v d → RpFs K G Hi ks ds → RpFs K G Hi ((f, v) :: ks) ((f, d) :: ds)
end

theorem sqT_same {K : PySem.W.Frag} {H H' : Hp} {a : Addr} {xs : List V} (e : Same H H') (h : SqT K H a xs) : SqT K H' a xs := by
  rcases h with (h | ⟨o, h⟩) | h
  · exact .inl (.inl (e _ _ h))
  · exact .inl (.inr ⟨o, e _ _ h⟩)
  · exact .inr h

section
variable {K : PySem.W.Frag} {G : Sg} {Hi Hj : Hp}
mutual
theorem Rp.mono (e : Same Hi Hj) : ∀ {v : V} {d : D}, Rp K G Hi v d → Rp K G Hj v d
  | _, _, .non => .non
  | _, _, .bl b => .bl b
  | _, _, .int i => .int i
  | _, _, .str x => .str x
  | _, _, .lst h r => .lst (e _ _ h) (RpAll.mono e r)
  | _, _, .tup h r => .tup (sqT_same e h) (RpAll.mono e r)
  | _, _, .dic h r => .dic (e _ _ h) (RpKv.mono e r)
  | _, _, .obj h c r => .obj (e _ _ h) c (RpFs.mono e r)
  | _, _, .hnd n h => .hnd n h
  | _, _, .ty n => .ty n
  | _, _, .cls h => .cls h
theorem RpAll.mono (e : Same Hi Hj) : ∀ {v : List V} {d : List D}, RpAll K G Hi v d → RpAll K G Hj v d
  | _, _, .nil => .nil
  | _, _, .cons h r => .cons (Rp.mono e h) (RpAll.mono e r)
theorem RpKv.mono (e : Same Hi Hj) : ∀ {v : List (Key × V)} {d : List (D × D)}, RpKv K G Hi v d → RpKv K G Hj v d
  | _, _, .nil => .nil
  | _, _, .cons h r => .cons (Rp.mono e h) (RpKv.mono e r)
theorem RpFs.mono (e : Same Hi Hj) : ∀ {v : List (Str × V)} {d : List (Str × D)}, RpFs K G Hi v d → RpFs K G Hj v d
  | _, _, .nil => .nil
  | _, _, .cons h r => .cons (Rp.mono e h) (RpFs.mono e r)
end

theorem RpAll.length : ∀ {vs : List V} {ds : List D}, RpAll K G Hi vs ds → vs.length = ds.length
  | _, _, .nil => rfl
  | _, _, .cons _ r => by rw [List.length_cons, List.length_cons, RpAll.length r]
theorem RpAll.append : ∀ {vs : List V} {ds : List D} {us : List V} {es : List D}, RpAll K G Hi vs ds → RpAll K G Hi us es → RpAll K G Hi (vs ++ us) (ds ++ es)
  | _, _, _, _, .nil, s => s
  | _, _, _, _, .cons h r, s => .cons h (RpAll.append r s)
theorem RpAll.one {v : V} {d : D} (h : Rp K G Hi v d) : RpAll K G Hi [v] [d] := .cons h .nil
theorem RpAll.get : ∀ {vs : List V} {ds : List D} {i : Nat} {v : V}, RpAll K G Hi vs ds → vs[i]? = some v → ∃ d, ds[i]? = some d ∧ Rp K G Hi v d
  | _, _, _, _, .nil, e => by simp at e
  | _, _, 0, _, .cons h _, e => by simp at e; subst e; exact ⟨_, rfl, h⟩
  | _, _, i + 1, _, .cons _ r, e => by
    obtain ⟨d, h1, h2⟩ := RpAll.get (i := i) r (by simpa using e)
    exact ⟨d, by simpa using h1, h2⟩
theorem RpAll.getD : ∀ {vs : List V} {ds : List D} {i : Nat} {d : D}, RpAll K G Hi vs ds → ds[i]? = some d → ∃ v, vs[i]? = some v ∧ Rp K G Hi v d
  | _, _, _, _, .nil, e => by simp at e
  | _, _, 0, _, .cons h _, e => by simp at e; subst e; exact ⟨_, rfl, h⟩
  | _, _, i + 1, _, .cons _ r, e => by
    obtain ⟨d, h1, h2⟩ := RpAll.getD (i := i) r (by simpa using e)
    exact ⟨d, by simpa using h1, h2⟩
theorem RpAll.take : ∀ {vs : List V} {ds : List D} (n : Nat), RpAll K G Hi vs ds → RpAll K G Hi (vs.take n) (ds.take n)
  | _, _, 0, _ => .nil
  | _, _, _ + 1, .nil => .nil
  | _, _, n + 1, .cons h r => .cons h (RpAll.take n r)
theorem RpAll.drop : ∀ {vs : List V} {ds : List D} (n : Nat), RpAll K G Hi vs ds → RpAll K G Hi (vs.drop n) (ds.drop n)
  | _, _, 0, r => r
  | _, _, _ + 1, .nil => .nil
  | _, _, n + 1, .cons _ r => RpAll.drop n r
theorem RpAll.set {v : V} {d : D} (h : Rp K G Hi v d) : ∀ {vs : List V} {ds : List D} (n : Nat), RpAll K G Hi vs ds → RpAll K G Hi (vs.set n v) (ds.set n d)
  | _, _, _, .nil => .nil
  | _, _, 0, .cons _ r => .cons h r
  | _, _, n + 1, .cons g r => .cons g (RpAll.set h n r)
theorem RpAll.reverse : ∀ {vs : List V} {ds : List D}, RpAll K G Hi vs ds → RpAll K G Hi vs.reverse ds.reverse
  | _, _, .nil => .nil
  | _, _, .cons h r => by rw [List.reverse_cons, List.reverse_cons]; exact (RpAll.reverse r).append (.one h)
theorem RpAll.eraseIdx : ∀ {vs : List V} {ds : List D} (n : Nat), RpAll K G Hi vs ds → RpAll K G Hi (vs.eraseIdx n) (ds.eraseIdx n)
  | _, _, _, .nil => .nil
  | _, _, 0, .cons _ r => r
  | _, _, n + 1, .cons g r => .cons g (RpAll.eraseIdx n r)
end

/- no list, dict, object, handle within -/
mutual
def D.noref : D → Bool
  | .non => true
  | .bl _ => true
  | .int _ => true
  | .str _ => true
  | .tup xs => D.norefAll xs
  | .list _ => false
  | .dict _ => false
  | .obj _ _ => false
  | .hnd _ => false
  | .ty _ => true
  | .cls _ => true
def D.norefAll : List D → Bool
  | [] => true
  | d :: ds => D.noref d && D.norefAll ds
end
section
variable {K : PySem.W.Frag} {G : Sg} {Hi Hj : Hp}
mutual
theorem Rp.tups (e : ∀ a vs, SqT K Hi a vs → SqT K Hj a vs) : ∀ {v : V} {d : D}, d.noref = true → Rp K G Hi v d → Rp K G Hj v d
  | _, _, _, .non => .non
  | _, _, _, .bl b => .bl b
  | _, _, _, .int i => .int i
  | _, _, _, .str x => .str x
  | _, _, n, .tup h r => .tup (e _ _ h) (RpAll.tups e (by rw [D.noref] at n; exact n) r)
  | _, _, _, .ty n => .ty n
  | _, _, _, .cls h => .cls h
theorem RpAll.tups (e : ∀ a vs, SqT K Hi a vs → SqT K Hj a vs) : ∀ {v : List V} {d : List D}, D.norefAll d = true → RpAll K G Hi v d → RpAll K G Hj v d
  | _, _, _, .nil => .nil
  | _, _, n, .cons h r => by
    rw [D.norefAll, Bool.and_eq_true] at n
    exact .cons (Rp.tups e n.1 h) (RpAll.tups e n.2 r)
end
end

structure Wd where
  Hi : Hp
  H : Hp
def Wd.le (W W' : Wd) : Prop := Same W.Hi W'.Hi
theorem Wd.le_refl (W : Wd) : W.le W := Same.refl _
theorem Wd.le.trans {A B C : Wd} (h : A.le B) (k : B.le C) : A.le C := Same.trans h k

/-- what a draw's two lists are -/
def DrawAt (H : Hp) (d c : Addr) : Prop := ∃ (ns : List Int) (at_ mixed turns : Int), H d = some (.lst [.ref c, .int at_, .int mixed, .int turns]) ∧ H c = some (.lst (ns.map V.int)) ∧ ns ≠ [] ∧ ns.length ≤ 63 ∧ (∀ n ∈ ns, 0 ≤ n) ∧ 0 ≤ at_ ∧ 0 ≤ mixed ∧ mixed < 2147483647 ∧ 0 ≤ turns ∧ d ≠ c
/-- what the script is -/
def ScriptAt (K : PySem.W.Frag) (G : Sg) (H : Hp) : Prop := G.ns.length ≤ 63 ∧ if G.trk = true then ∃ ob, H (G.hd 1) = some (.frz ob (.lst (G.ns.map V.int))) else ∀ H', SqL K H' (G.hd 1) (G.ns.map V.int)
/-- the context of a stretch of code: the handles, the world at the entry -/
structure PM (K : PySem.W.Frag) where
  G : Sg
  W0 : Wd
  hv : ∀ a, ((G.on 0 = true ∧ (a = G.hd 0 ∨ a = G.hd 2)) ∨ (G.on 1 = true ∧ G.trk = true ∧ a = G.hd 1)) → (∃ o, W0.H a = some o) ∧ W0.Hi a = none
/-- what may change -/
def PM.vol {K : PySem.W.Frag} (P : PM K) (a : Addr) : Prop := (P.G.on 0 = true ∧ (a = P.G.hd 0 ∨ a = P.G.hd 2)) ∨ (P.G.on 1 = true ∧ P.G.trk = true ∧ a = P.G.hd 1)
/-- what holds of it -/
def PM.HI {K : PySem.W.Frag} (P : PM K) (H : Hp) : Prop := (P.G.on 0 = true → DrawAt H (P.G.hd 0) (P.G.hd 2)) ∧ (P.G.on 1 = true → ScriptAt K P.G H)
theorem PM.hx {K : PySem.W.Frag} (P : PM K) (H : Hp) (h : P.HI H) (a : Addr) (z : P.vol a) : ∃ o, H a = some o := by
  rcases z with ⟨z, rfl | rfl⟩ | ⟨z1, z2, rfl⟩
  · obtain ⟨_, _, _, _, e, _⟩ := h.1 z; exact ⟨_, e⟩
  · obtain ⟨_, _, _, _, _, e, _⟩ := h.1 z; exact ⟨_, e⟩
  · have q := h.2 z1
    unfold ScriptAt at q
    rw [if_pos z2] at q
    obtain ⟨_, _, e⟩ := q
    exact ⟨_, e⟩
theorem PM.hI {K : PySem.W.Frag} (P : PM K) (H H' : Hp) (e : ∀ a, P.vol a → H' a = H a) (h : P.HI H) : P.HI H' := by
  refine ⟨fun z => ?_, fun z => ?_⟩
  · obtain ⟨ns, a, m, t, e1, e2, q⟩ := h.1 z
    exact ⟨ns, a, m, t, (e _ (.inl ⟨z, .inl rfl⟩)).trans e1, (e _ (.inl ⟨z, .inr rfl⟩)).trans e2, q⟩
  · have q := h.2 z
    unfold ScriptAt at q ⊢
    refine ⟨q.1, ?_⟩
    have q := q.2
    split at q <;> rename_i hk
    · rw [if_pos hk]
      obtain ⟨ob, q⟩ := q
      exact ⟨ob, (e _ (.inr ⟨z, hk, rfl⟩)).trans q⟩
    · rw [if_neg hk]
      exact q

inductive O where
  | lst (xs : List D) | dct (kvs : List (D × D))
def O.toD : O → D
  | .lst xs => .list xs
  | .dct kvs => .dict kvs
/-- an environment's entry; what a call hands back -/
inductive EE where
  | val (d : D) | own (o : O)
def EE.toD : EE → D
  | .val d => d
  | .own o => o.toD
abbrev Env := List (Option EE)
/-- what an expression gives: data, a new object that nothing else refers to, the object of a name's own -/
inductive R where
  | val (d : D) | own (o : O) | brw (i : Nat) (o : O)
def R.toD : R → D
  | .val d => d
  | .own o => o.toD
  | .brw _ o => o.toD
/-- the environment behind the result's freezing -/
def R.fz : R → Env → Env
  | .brw i o, ρ => ρ.set i (some (.val o.toD))
  | _, ρ => ρ
/-- an operand that was read earlier is still what it was -/
def R.hold : R → Env → Prop
  | .brw i o, ρ => ρ[i]? = some (some (.own o)) ∨ ρ[i]? = some (some (.val o.toD))
  | _, _ => True
def EE.toR : EE → R
  | .val d => .val d
  | .own o => .own o

section
variable {K : PySem.W.Frag}
structure Bas (P : PM K) (W : Wd) : Prop where
  sub : ∀ a o, W.Hi a = some o → W.H a = some o ∨ ∃ ks, o = .dK ks ∧ ∃ ob, W.H a = some (.frz ob o)
  ext : Same P.W0.Hi W.Hi
  old : ∀ a o, P.W0.H a = some o → ¬ P.vol a → W.H a = some o
  own : ∀ a, (∃ o, P.W0.H a = some o) → P.W0.Hi a = none → W.Hi a = none
  inv : P.HI W.H
def OwnAt (P : PM K) (W : Wd) (a : Addr) : O → Prop
  | .lst xs => P.W0.H a = none ∧ W.Hi a = none ∧ ∃ vs, W.H a = some (.lst vs) ∧ RpAll K P.G W.Hi vs xs
  | .dct kvs => P.W0.H a = none ∧ W.Hi a = none ∧ ∃ ks, W.H a = some (.dK ks) ∧ RpKv K P.G W.Hi ks kvs
def RelE (P : PM K) (W : Wd) (v : V) : EE → Prop
  | .val d => Rp K P.G W.Hi v d
  | .own o => ∃ a, v = .ref a ∧ OwnAt P W a o
structure Mod (P : PM K) (σ : St) (W : Wd) (ρ : Env) : Prop where
  bas : Bas P W
  len : ρ.length = σ.length
  slot : ∀ (i : Nat) e, ρ[i]? = some (some e) → ∃ v, σ[i]? = some (some v) ∧ RelE P W v e
  sep : ∀ (i j : Nat) o o' a, ρ[i]? = some (some (.own o)) → ρ[j]? = some (some (.own o')) → σ[i]? = some (some (.ref a)) → σ[j]? = some (some (.ref a)) → i = j
def RelR (P : PM K) (σ : St) (W : Wd) (ρ : Env) (v : V) : R → Prop
  | .val d => Rp K P.G W.Hi v d
  | .own o => ∃ a, v = .ref a ∧ OwnAt P W a o ∧ ∀ (i : Nat) o', ρ[i]? = some (some (.own o')) → σ[i]? ≠ some (some (.ref a))
  | .brw i o => σ[i]? = some (some v) ∧ ρ[i]? = some (some (.own o))
/-- what may be read as d -/
def RdD (P : PM K) (W : Wd) (v : V) (d : D) : Prop := Rp K P.G W.Hi v d ∨ ∃ a o, v = .ref a ∧ d = o.toD ∧ OwnAt P W a o
/-- new objects; the handles' part may change -/
structure Alc (P : PM K) (W W' : Wd) : Prop where
  le : W.le W'
  bas : Bas P W'
  old : ∀ a o, W.H a = some o → ¬ P.vol a → W'.H a = some o
  own : ∀ a, (∃ o, W.H a = some o) → W.Hi a = none → W'.Hi a = none
def RelN (P : PM K) (W W' : Wd) (v : V) : EE → Prop
  | .val d => Rp K P.G W'.Hi v d
  | .own o => ∃ a, v = .ref a ∧ W.H a = none ∧ OwnAt P W' a o

variable {P : PM K} {W W' W1 W2 : Wd} {σ : St} {ρ : Env} {v : V} {a : Addr} {o : O} {d : D}
theorem OwnAt.new0 (h : OwnAt P W a o) : P.W0.H a = none := by
  cases o <;> exact h.1
theorem OwnAt.hi (h : OwnAt P W a o) : W.Hi a = none := by
  cases o <;> exact h.2.1
theorem OwnAt.there (h : OwnAt P W a o) : ∃ u, W.H a = some u := by
  cases o with
  | lst xs => obtain ⟨_, _, vs, h, _⟩ := h; exact ⟨_, h⟩
  | dct kvs => obtain ⟨_, _, vs, h, _⟩ := h; exact ⟨_, h⟩
/-- carried over where its address stands as it stood -/
theorem OwnAt.keep (h : OwnAt P W a o) (l : W.le W') (e : W'.H a = W.H a) (n : W'.Hi a = none) : OwnAt P W' a o := by
  cases o with
  | lst xs => obtain ⟨h0, _, vs, h1, r⟩ := h; exact ⟨h0, n, vs, e.trans h1, r.mono l⟩
  | dct kvs => obtain ⟨h0, _, vs, h1, r⟩ := h; exact ⟨h0, n, vs, e.trans h1, r.mono l⟩
theorem OwnAt.nvol (h : OwnAt P W a o) : ¬ P.vol a := fun z => by
  obtain ⟨⟨u, hu⟩, _⟩ := P.hv a z
  rw [h.new0] at hu
  cases hu
theorem OwnAt.alc (h : OwnAt P W a o) (A : Alc P W W') : OwnAt P W' a o := by
  obtain ⟨u, hu⟩ := h.there
  exact h.keep A.le ((A.old _ _ hu h.nvol).trans hu.symm) (A.own a ⟨u, hu⟩ h.hi)
theorem RdD.alc (h : RdD P W v d) (A : Alc P W W') : RdD P W' v d := by
  rcases h with h | ⟨a, o, e1, e2, h⟩
  · exact .inl (h.mono A.le)
  · exact .inr ⟨a, o, e1, e2, h.alc A⟩
theorem Alc.refl (b : Bas P W) : Alc P W W := ⟨W.le_refl, b, fun _ _ h _ => h, fun _ _ h => h⟩
theorem Alc.there (x : Alc P W W1) (h : ∃ o, W.H a = some o) : ∃ o, W1.H a = some o := by
  obtain ⟨o, h⟩ := h
  by_cases z : P.vol a
  · exact P.hx _ x.bas.inv a z
  · exact ⟨o, x.old a o h z⟩
theorem Alc.trans (x : Alc P W W1) (y : Alc P W1 W2) : Alc P W W2 :=
  ⟨x.le.trans y.le, y.bas, fun a o h z => y.old _ _ (x.old _ _ h z) z, fun a h n => y.own a (x.there h) (x.own a h n)⟩
theorem RelE.alc {e : EE} (h : RelE P W v e) (A : Alc P W W') : RelE P W' v e := by
  cases e with
  | val d => exact Rp.mono A.le h
  | own o => obtain ⟨a, e, h⟩ := h; exact ⟨a, e, h.alc A⟩
theorem Mod.alc (M : Mod P σ W ρ) (A : Alc P W W') : Mod P σ W' ρ :=
  ⟨A.bas, M.len, fun i e h => let ⟨v, h1, h2⟩ := M.slot i e h; ⟨v, h1, h2.alc A⟩, M.sep⟩
theorem Mod.ownAt (M : Mod P σ W ρ) {i : Nat} (h : ρ[i]? = some (some (.own o))) (e : σ[i]? = some (some (.ref a))) : OwnAt P W a o := by
  obtain ⟨v, h1, b, h2, h3⟩ := M.slot i _ h
  rw [e] at h1
  cases h1
  cases h2
  exact h3
theorem RelR.alc {r : R} (h : RelR P σ W ρ v r) (A : Alc P W W') : RelR P σ W' ρ v r := by
  cases r with
  | val d => exact Rp.mono A.le h
  | own o => obtain ⟨a, e, h, q⟩ := h; exact ⟨a, e, h.alc A, q⟩
  | brw i o => exact h
theorem RelN.toR {e : EE} (M : Mod P σ W ρ) (A : Alc P W W') (h : RelN P W W' v e) : RelR P σ W' ρ v e.toR := by
  cases e with
  | val d => exact h
  | own o =>
    obtain ⟨a, e, n, h⟩ := h
    refine ⟨a, e, h, fun i o' q z => ?_⟩
    obtain ⟨u, hu⟩ := (M.ownAt q z).there
    rw [n] at hu
    cases hu
theorem RelR.rd {r : R} (M : Mod P σ W ρ) (h : RelR P σ W ρ v r) : RdD P W v r.toD := by
  cases r with
  | val d => exact .inl h
  | own o => obtain ⟨a, e, h, _⟩ := h; exact .inr ⟨a, o, e, rfl, h⟩
  | brw i o =>
    obtain ⟨h1, h2⟩ := h
    obtain ⟨v', h3, b, h4, h5⟩ := M.slot i _ h2
    rw [h1] at h3
    cases h3
    exact .inr ⟨b, o, h4, rfl, h5⟩

/-- the object at a is frozen -/
def Wd.frz (W : Wd) (a : Addr) (u : HO) : Wd := ⟨upd W.Hi a u, W.H⟩
theorem Wd.frz_le {u : HO} (h : W.Hi a = none) : W.le (W.frz a u) := fun b o e => by
  show upd W.Hi a u b = some o
  rw [upd_ne (ne_of_none e h)]
  exact e
theorem Bas.frz (b : Bas P W) {u : HO} (h0 : P.W0.H a = none) (h : W.Hi a = none) (e : W.H a = some u) : Bas P (W.frz a u) := by
  refine ⟨fun c o q => ?_, Same.trans b.ext (Wd.frz_le h), b.old, fun c hc n => ?_, b.inv⟩
  · by_cases z : c = a
    · subst z
      have q' : upd W.Hi c u c = some o := q
      rw [upd_same] at q'
      cases q'
      exact .inl e
    · have q' : upd W.Hi a u c = some o := q
      rw [upd_ne z] at q'
      exact b.sub c o q'
  · show upd W.Hi a u c = none
    have z : c ≠ a := fun z => by
      obtain ⟨o, ho⟩ := hc
      rw [z, h0] at ho
      cases ho
    rw [upd_ne z]
    exact b.own c hc n
/-- what stands at an own address, frozen -/
theorem OwnAt.freeze (h : OwnAt P W a o) (b : Bas P W) : ∃ u, W.H a = some u ∧ Bas P (W.frz a u) ∧ W.le (W.frz a u) ∧ Rp K P.G (W.frz a u).Hi (.ref a) o.toD := by
  cases o with
  | lst xs =>
    obtain ⟨h0, hn, vs, h1, r⟩ := h
    exact ⟨_, h1, b.frz h0 hn h1, Wd.frz_le hn, .lst upd_same (r.mono (Wd.frz_le hn))⟩
  | dct kvs =>
    obtain ⟨h0, hn, vs, h1, r⟩ := h
    exact ⟨_, h1, b.frz h0 hn h1, Wd.frz_le hn, .dic upd_same (r.mono (Wd.frz_le hn))⟩
theorem OwnAt.frzOther {b : Addr} {u : HO} {o' : O} (h : OwnAt P W b o') (n : W.Hi a = none) (ne : b ≠ a) : OwnAt P (W.frz a u) b o' :=
  h.keep (Wd.frz_le n) rfl (by show upd W.Hi a u b = none; rw [upd_ne ne]; exact h.hi)

theorem getElem?_set_some {α : Type} {l : List α} {i j : Nat} {x y : α} (h : (l.set i x)[j]? = some y) : (i = j ∧ y = x) ∨ (i ≠ j ∧ l[j]? = some y) := by
  by_cases e : i = j
  · subst e
    by_cases hl : i < l.length
    · rw [List.getElem?_set_self hl] at h
      exact .inl ⟨rfl, (Option.some.inj h).symm⟩
    · rw [List.getElem?_eq_none (by simpa using hl)] at h
      cases h
  · rw [List.getElem?_set_ne e] at h
    exact .inr ⟨e, h⟩

/-- a result frozen: the same heap, a world that bears the data -/
theorem RelR.freeze {r : R} (M : Mod P σ W ρ) (h : RelR P σ W ρ v r) : ∃ W', W'.H = W.H ∧ W.le W' ∧ Mod P σ W' (r.fz ρ) ∧ Rp K P.G W'.Hi v r.toD := by
  cases r with
  | val d => exact ⟨W, rfl, W.le_refl, M, h⟩
  | own o =>
    obtain ⟨a, rfl, h, q⟩ := h
    obtain ⟨u, hu, b, l, rp⟩ := h.freeze M.bas
    refine ⟨W.frz a u, rfl, l, ⟨b, M.len, fun i e z => ?_, M.sep⟩, rp⟩
    obtain ⟨v, h1, h2⟩ := M.slot i e z
    refine ⟨v, h1, ?_⟩
    cases e with
    | val d => exact Rp.mono l h2
    | own o' =>
      obtain ⟨c, rfl, h3⟩ := h2
      exact ⟨c, rfl, h3.frzOther h.hi fun y => q i o' z (by rw [← y]; exact h1)⟩
  | brw i o =>
    obtain ⟨h1, h2⟩ := h
    obtain ⟨v', h3, a, h4, h5⟩ := M.slot i _ h2
    rw [h1] at h3
    cases h3
    subst h4
    obtain ⟨u, hu, b, l, rp⟩ := h5.freeze M.bas
    refine ⟨W.frz a u, rfl, l, ⟨b, by simpa [R.fz] using M.len, fun j e z => ?_, fun j k o1 o2 c z1 z2 z3 z4 => ?_⟩, rp⟩
    · rcases getElem?_set_some z with ⟨rfl, e1⟩ | ⟨ne, z⟩
      · cases e1
        exact ⟨_, h1, rp⟩
      · obtain ⟨v, g1, g2⟩ := M.slot j e z
        refine ⟨v, g1, ?_⟩
        cases e with
        | val d => exact Rp.mono l g2
        | own o' =>
          obtain ⟨c, rfl, g3⟩ := g2
          exact ⟨c, rfl, g3.frzOther h5.hi fun y => ne (M.sep i j o o' a h2 z h1 (by rw [← y]; exact g1))⟩
    · rcases getElem?_set_some z1 with ⟨_, e1⟩ | ⟨_, z1⟩
      · cases e1
      · rcases getElem?_set_some z2 with ⟨_, e1⟩ | ⟨_, z2⟩
        · cases e1
        · exact M.sep j k o1 o2 c z1 z2 z3 z4

/-- a slot is stored -/
theorem Mod.set {i : Nat} {e : EE} (M : Mod P σ W ρ) (h : RelR P σ W ρ v e.toR) : Mod P (σ.set i (some v)) W (ρ.set i (some e)) := by
  refine ⟨M.bas, by rw [List.length_set, List.length_set, M.len], fun j e' z => ?_, fun j k o1 o2 c z1 z2 z3 z4 => ?_⟩
  · rcases getElem?_set_some z with ⟨rfl, e1⟩ | ⟨ne, z⟩
    · cases e1
      have hl : i < σ.length := by
        rw [← M.len]
        have q := (List.getElem?_eq_some_iff.mp z).1
        simpa using q
      refine ⟨v, by rw [List.getElem?_set_self hl], ?_⟩
      cases e with
      | val d => exact h
      | own o => obtain ⟨a, e, h, _⟩ := h; exact ⟨a, e, h⟩
    · obtain ⟨u, g1, g2⟩ := M.slot j e' z
      exact ⟨u, by rw [List.getElem?_set_ne ne]; exact g1, g2⟩
  · by_cases hj : i = j
    · by_cases hk : i = k
      · exact hj.symm.trans hk
      · exfalso
        subst hj
        rw [List.getElem?_set_ne hk] at z2 z4
        rcases getElem?_set_some z1 with ⟨_, e1⟩ | ⟨y, _⟩
        · cases e1
          rcases getElem?_set_some z3 with ⟨_, e3⟩ | ⟨y, _⟩
          · cases e3
            obtain ⟨a, e, _, q⟩ := h
            cases e
            exact q k o2 z2 z4
          · exact y rfl
        · exact y rfl
    · rw [List.getElem?_set_ne hj] at z1 z3
      by_cases hk : i = k
      · exfalso
        subst hk
        rcases getElem?_set_some z2 with ⟨_, e1⟩ | ⟨y, _⟩
        · cases e1
          rcases getElem?_set_some z4 with ⟨_, e3⟩ | ⟨y, _⟩
          · cases e3
            obtain ⟨a, e, _, q⟩ := h
            cases e
            exact q j o1 z1 z3
          · exact y rfl
        · exact y rfl
      · rw [List.getElem?_set_ne hk] at z2 z4
        exact M.sep j k o1 o2 c z1 z2 z3 z4
theorem Mod.wipe1 {i : Nat} (M : Mod P σ W ρ) : Mod P (σ.set i none) W (ρ.set i none) := by
  refine ⟨M.bas, by rw [List.length_set, List.length_set, M.len], fun j e' z => ?_, fun j k o1 o2 c z1 z2 z3 z4 => ?_⟩
  · rcases getElem?_set_some z with ⟨_, e1⟩ | ⟨ne, z⟩
    · cases e1
    · obtain ⟨u, g1, g2⟩ := M.slot j e' z
      exact ⟨u, by rw [List.getElem?_set_ne ne]; exact g1, g2⟩
  · rcases getElem?_set_some z1 with ⟨_, e1⟩ | ⟨_, z1⟩
    · cases e1
    · rcases getElem?_set_some z2 with ⟨_, e1⟩ | ⟨_, z2⟩
      · cases e1
      · rcases getElem?_set_some z3 with ⟨_, e1⟩ | ⟨_, z3⟩
        · cases e1
        · rcases getElem?_set_some z4 with ⟨_, e1⟩ | ⟨_, z4⟩
          · cases e1
          · exact M.sep j k o1 o2 c z1 z2 z3 z4
end
end HD

namespace HD
open PySem L2

abbrev WE := Env → (R → Env → Prop) → (D → Env → Prop) → Prop
abbrev WT := Env → (Bool → Env → Prop) → (D → Env → Prop) → Prop
abbrev WA := Env → (List R → Env → Prop) → (D → Env → Prop) → Prop
structure Eds where
  nx : Env → Prop
  rt : EE → Prop
  bk : Env → Prop := fun _ => False
  ct : Env → Prop := fun _ => False
  xk : D → Env → Prop := fun _ _ => False
abbrev WS := Eds → Env → Prop

theorem PE.imp {X : Cx} {e : Expr} {t t' : TE} (h : PE X e t) (i : ∀ σ H Q, t' σ H Q → t σ H Q) : PE X e t' := ⟨fun pins s σ H Q I q => h.run pins s σ H Q I (i σ H Q q)⟩
theorem PT.imp {X : Cx} {e : Expr} {t t' : TT} (h : PT X e t) (i : ∀ σ H Q, t' σ H Q → t σ H Q) : PT X e t' := ⟨fun pins s σ H Q I q => h.run pins s σ H Q I (i σ H Q q)⟩
theorem PW.imp {X : Cx} {e : Expr} {t t' : TT} (h : PW X e t) (i : ∀ σ H Q, t' σ H Q → t σ H Q) : PW X e t' := ⟨fun wh pins s σ H Q I q => h.run wh pins s σ H Q I (i σ H Q q)⟩
theorem PA.imp {X : Cx} {es : List Expr} {t t' : TA} (h : PA X es t) (i : ∀ σ H Q, t' σ H Q → t σ H Q) : PA X es t' := ⟨fun pos pins s σ H Q I q => h.run pos pins s σ H Q I (i σ H Q q)⟩
theorem PS.imp {X : Cx} {st : Stmt} {t t' : TS} (h : PS X st t) (i : ∀ D σ H, t' D σ H → t D σ H) : PS X st t' := ⟨fun pins s σ H D I q => h.run pins s σ H D I (i D σ H q)⟩
theorem PSs.imp {X : Cx} {st : List Stmt} {t t' : TS} (h : PSs X st t) (i : ∀ D σ H, t' D σ H → t D σ H) : PSs X st t' := ⟨fun pins s σ H D I q => h.run pins s σ H D I (i D σ H q)⟩

section
variable {K : PySem.W.Frag}
def RelX (P : PM K) (W : Wd) (cls : Value) (dd : Option Addr) : D → Prop
  | .obj c fs => ∃ (C d : Addr) (vs : List (Str × V)), P.G.cl c = some C ∧ cls = .ref C ∧ dd = some d ∧ W.H d = some (.xd vs) ∧ RpFs K P.G W.Hi vs fs
  | _ => False
def Exc (P : PM K) (σ : St) (E : XK) (W : Wd) (kx : D → Env → Prop) : Prop :=
  ∀ x ρ', kx x ρ' → ∀ cls dd W', W.le W' → Mod P σ W' ρ' → RelX P W' cls dd x → E cls dd W'.H
theorem Exc.le {P : PM K} {σ : St} {E : XK} {W W' : Wd} {kx : D → Env → Prop} (h : Exc P σ E W kx) (l : W.le W') : Exc P σ E W' kx := fun x ρ' q cls dd W2 l2 => h x ρ' q cls dd W2 (l.trans l2)
variable (K)
def lift (E : St → XK) (w : WE) : TE := fun σ H Q => ∃ (P : PM K) (W : Wd) (ρ : Env) (k : R → Env → Prop) (kx : D → Env → Prop), W.H = H ∧ Mod P σ W ρ ∧ w ρ k kx ∧
  (∀ r ρ', k r ρ' → ∀ v W', W.le W' → Mod P σ W' ρ' → RelR P σ W' ρ' v r → Q v W'.H) ∧ Exc P σ (E σ) W kx
def liftT (E : St → XK) (w : WT) : TT := fun σ H Q => ∃ (P : PM K) (W : Wd) (ρ : Env) (k : Bool → Env → Prop) (kx : D → Env → Prop), W.H = H ∧ Mod P σ W ρ ∧ w ρ k kx ∧
  (∀ b ρ', k b ρ' → ∀ W', W.le W' → Mod P σ W' ρ' → Q b W'.H) ∧ Exc P σ (E σ) W kx
/-- an argument that stands since earlier -/
def RelA (P : PM K) (σ : St) (W : Wd) (v : V) : R → Prop
  | .val d => Rp K P.G W.Hi v d
  | .own _ => False
  | .brw i _ => σ[i]? = some (some v)
inductive RelAs (P : PM K) (σ : St) (W : Wd) : List V → List R → Prop
  | nil : RelAs P σ W [] []
  | cons {v : V} {r : R} {vs : List V} {rs : List R} : RelA K P σ W v r → RelAs P σ W vs rs → RelAs P σ W (v :: vs) (r :: rs)
def liftA (E : St → XK) (w : WA) : TA := fun σ H Q => ∃ (P : PM K) (W : Wd) (ρ : Env) (k : List R → Env → Prop) (kx : D → Env → Prop), W.H = H ∧ Mod P σ W ρ ∧ w ρ k kx ∧
  (∀ rs ρ', k rs ρ' → ∀ vs W', W.le W' → Mod P σ W' ρ' → RelAs K P σ W' vs rs → Q vs W'.H) ∧ Exc P σ (E σ) W kx
def RelRt (P : PM K) (W : Wd) (v : V) : EE → Prop
  | .val d => Rp K P.G W.Hi v d
  | .own o => ∃ a, v = .ref a ∧ OwnAt P W a o
structure EdsOk (P : PM K) (E : St → XK) (W : Wd) (Dd : Eds) (D : Ends) : Prop where
  nx : ∀ ρ', Dd.nx ρ' → ∀ σ' W', W.le W' → Mod P σ' W' ρ' → D.nx σ' W'.H
  rt : ∀ e, Dd.rt e → ∀ v W', W.le W' → Bas P W' → RelRt K P W' v e → D.rt v W'.H
  bk : ∀ ρ', Dd.bk ρ' → ∀ σ' W', W.le W' → Mod P σ' W' ρ' → D.bk σ' W'.H
  ct : ∀ ρ', Dd.ct ρ' → ∀ σ' W', W.le W' → Mod P σ' W' ρ' → D.ct σ' W'.H
  xk : ∀ σ', Exc P σ' (E σ') W Dd.xk
def liftS (E : St → XK) (w : WS) : TS := fun D σ H => ∃ (P : PM K) (W : Wd) (ρ : Env) (Dd : Eds), W.H = H ∧ Mod P σ W ρ ∧ w Dd ρ ∧ EdsOk K P E W Dd D
end
def DE (X : Cx) (E : St → XK) (e : Expr) (w : WE) : Prop := PE X e (lift X.K E w)
def DT (X : Cx) (E : St → XK) (e : Expr) (w : WT) : Prop := PT X e (liftT X.K E w)
def DW (X : Cx) (E : St → XK) (e : Expr) (w : WT) : Prop := PW X e (liftT X.K E w)
def DA (X : Cx) (E : St → XK) (es : List Expr) (w : WA) : Prop := PA X es (liftA X.K E w)
def DS (X : Cx) (E : St → XK) (st : Stmt) (w : WS) : Prop := PS X st (liftS X.K E w)
def DSs (X : Cx) (E : St → XK) (st : List Stmt) (w : WS) : Prop := PSs X st (liftS X.K E w)

section
variable {K : PySem.W.Frag} {P : PM K} {W W' : Wd} {σ : St} {ρ : Env} {v : V} {E : St → XK}
theorem EdsOk.le {Dd : Eds} {D : Ends} (h : EdsOk K P E W Dd D) (l : W.le W') : EdsOk K P E W' Dd D :=
  ⟨fun ρ' q σ' W2 l2 => h.nx ρ' q σ' W2 (l.trans l2), fun e q v W2 l2 => h.rt e q v W2 (l.trans l2), fun ρ' q σ' W2 l2 => h.bk ρ' q σ' W2 (l.trans l2), fun ρ' q σ' W2 l2 => h.ct ρ' q σ' W2 (l.trans l2), fun σ' => (h.xk σ').le l⟩
/-- a new own object's freezing at once -/
def R.nown : R → R
  | .own o => .val o.toD
  | r => r
theorem R.nown_toD (r : R) : r.nown.toD = r.toD := by cases r <;> rfl
theorem RelR.nown {r : R} (M : Mod P σ W ρ) (h : RelR P σ W ρ v r) : ∃ W', W'.H = W.H ∧ W.le W' ∧ Mod P σ W' ρ ∧ RelA K P σ W' v r.nown := by
  cases r with
  | val d => exact ⟨W, rfl, W.le_refl, M, h⟩
  | own o =>
    obtain ⟨W', h1, h2, h3, h4⟩ := RelR.freeze (r := .own o) M h
    exact ⟨W', h1, h2, h3, h4⟩
  | brw i o => exact ⟨W, rfl, W.le_refl, M, h.1⟩
theorem RelA.le {r : R} (h : RelA K P σ W v r) (l : W.le W') : RelA K P σ W' v r := by
  cases r with
  | val d => exact Rp.mono l h
  | own o => exact h
  | brw i o => exact h
theorem RelAs.le {vs : List V} {rs : List R} (h : RelAs K P σ W vs rs) (l : W.le W') : RelAs K P σ W' vs rs := by
  induction h with
  | nil => exact .nil
  | cons h _ ih => exact .cons (h.le l) ih
theorem RelA.rd {r : R} (M : Mod P σ W ρ) (h : RelA K P σ W v r) (q : r.hold ρ) : RdD P W v r.toD := by
  cases r with
  | val d => exact .inl h
  | own o => exact h.elim
  | brw i o =>
    rcases q with q | q
    · obtain ⟨v', h3, b, h4, h5⟩ := M.slot i _ q
      rw [show σ[i]? = some (some v) from h] at h3
      cases h3
      exact .inr ⟨b, o, h4, rfl, h5⟩
    · obtain ⟨v', h3, h4⟩ := M.slot i _ q
      rw [show σ[i]? = some (some v) from h] at h3
      cases h3
      exact .inl h4
def R.holds : List R → Env → Prop
  | [], _ => True
  | r :: rs, ρ => r.hold ρ ∧ R.holds rs ρ
def R.fzs : List R → Env → Env
  | [], ρ => ρ
  | r :: rs, ρ => R.fzs rs (r.fz ρ)
inductive RdAll (P : PM K) (W : Wd) : List V → List D → Prop
  | nil : RdAll P W [] []
  | cons {v : V} {d : D} {vs : List V} {ds : List D} : RdD P W v d → RdAll P W vs ds → RdAll P W (v :: vs) (d :: ds)
theorem RelAs.rd {vs : List V} {rs : List R} (M : Mod P σ W ρ) (h : RelAs K P σ W vs rs) (q : R.holds rs ρ) : RdAll P W vs (rs.map R.toD) := by
  induction h with
  | nil => exact .nil
  | cons h _ ih => exact .cons (h.rd M q.1) (ih q.2)
theorem hold_fz {r r' : R} (q : r.hold ρ) (q' : r'.hold ρ) : r'.hold (r.fz ρ) := by
  cases r with
  | val d => exact q'
  | own o => exact q'
  | brw i o =>
    cases r' with
    | val d => exact True.intro
    | own o => exact True.intro
    | brw j o' =>
      show (ρ.set i (some (.val o.toD)))[j]? = _ ∨ (ρ.set i (some (.val o.toD)))[j]? = _
      by_cases e : i = j
      · subst e
        have hl : i < ρ.length := by
          rcases q with q | q <;> exact (List.getElem?_eq_some_iff.mp q).1
        rw [List.getElem?_set_self hl]
        refine .inr ?_
        have e2 : o.toD = o'.toD := by
          rcases q with q | q <;> rcases q' with q' | q' <;> rw [q] at q'
          · injection q' with q'; injection q' with q'; injection q' with q'; rw [q']
          · injection q' with q'; injection q' with q'; cases q'
          · injection q' with q'; injection q' with q'; cases q'
          · injection q' with q'; injection q' with q'; injection q' with q'
        rw [e2]
      · rw [List.getElem?_set_ne e]
        exact q'
theorem holds_fz {r : R} (q : r.hold ρ) : ∀ {rs : List R}, R.holds rs ρ → R.holds rs (r.fz ρ)
  | [], _ => True.intro
  | _ :: _, h => ⟨hold_fz q h.1, holds_fz q h.2⟩
/-- an argument frozen -/
theorem RelA.freeze {r : R} (M : Mod P σ W ρ) (h : RelA K P σ W v r) (q : r.hold ρ) : ∃ W', W'.H = W.H ∧ W.le W' ∧ Mod P σ W' (r.fz ρ) ∧ Rp K P.G W'.Hi v r.toD ∧ ∀ a, W.Hi a = none → ∀ u, W'.Hi a = some u → (∃ vs, u = .lst vs) ∨ ∃ ks, u = .dK ks := by
  cases r with
  | val d => exact ⟨W, rfl, W.le_refl, M, h, fun a n u e => by rw [n] at e; cases e⟩
  | own o => exact h.elim
  | brw i o =>
    have h' : σ[i]? = some (some v) := h
    rcases q with q | q
    · obtain ⟨v', h3, a, h4, h5⟩ := M.slot i _ q
      rw [h'] at h3
      cases h3
      subst h4
      obtain ⟨W', h1, h2, h3, h4⟩ := RelR.freeze (r := .brw i o) M ⟨h', q⟩
      obtain ⟨u, hu, b, l, rp⟩ := h5.freeze M.bas
      -- the same world, said with what was frozen
      refine ⟨W.frz a u, rfl, l, ?_, rp, fun c n u' e => ?_⟩
      · refine ⟨b, by simpa [R.fz] using M.len, fun j e z => ?_, fun j k o1 o2 c z1 z2 z3 z4 => ?_⟩
        · rcases getElem?_set_some z with ⟨rfl, e1⟩ | ⟨ne, z⟩
          · cases e1
            exact ⟨_, h', rp⟩
          · obtain ⟨v, g1, g2⟩ := M.slot j e z
            refine ⟨v, g1, ?_⟩
            cases e with
            | val d => exact Rp.mono l g2
            | own o' =>
              obtain ⟨c, rfl, g3⟩ := g2
              exact ⟨c, rfl, g3.frzOther h5.hi fun y => ne (M.sep i j o o' a q z h' (by rw [← y]; exact g1))⟩
        · rcases getElem?_set_some z1 with ⟨_, e1⟩ | ⟨_, z1⟩
          · cases e1
          · rcases getElem?_set_some z2 with ⟨_, e1⟩ | ⟨_, z2⟩
            · cases e1
            · exact M.sep j k o1 o2 c z1 z2 z3 z4
      · have e' : upd W.Hi a u c = some u' := e
        by_cases z : c = a
        · subst z
          rw [upd_same] at e'
          cases e'
          cases o with
          | lst xs => obtain ⟨_, _, vs, h1, _⟩ := h5; rw [h1] at hu; cases hu; exact .inl ⟨_, rfl⟩
          | dct kvs => obtain ⟨_, _, vs, h1, _⟩ := h5; rw [h1] at hu; cases hu; exact .inr ⟨_, rfl⟩
        · rw [upd_ne z, n] at e'
          cases e'
    · obtain ⟨v', h3, h4⟩ := M.slot i _ q
      rw [h'] at h3
      cases h3
      refine ⟨W, rfl, W.le_refl, ?_, h4, fun a n u e => by rw [n] at e; cases e⟩
      have e : (R.brw i o).fz ρ = ρ := by
        show ρ.set i (some (.val o.toD)) = ρ
        apply List.ext_getElem?
        intro j
        by_cases z : i = j
        · subst z
          rw [List.getElem?_set_self (List.getElem?_eq_some_iff.mp q).1, q]
        · rw [List.getElem?_set_ne z]
      rw [e]
      exact M
theorem RelAs.freeze : ∀ {vs : List V} {rs : List R} {W : Wd} {ρ : Env}, Mod P σ W ρ → RelAs K P σ W vs rs → R.holds rs ρ →
    ∃ W', W'.H = W.H ∧ W.le W' ∧ Mod P σ W' (R.fzs rs ρ) ∧ RpAll K P.G W'.Hi vs (rs.map R.toD) ∧ ∀ a, W.Hi a = none → ∀ u, W'.Hi a = some u → (∃ vs, u = .lst vs) ∨ ∃ ks, u = .dK ks
  | _, _, W, ρ, M, .nil, _ => ⟨W, rfl, W.le_refl, M, .nil, fun a n u e => by rw [n] at e; cases e⟩
  | _, _, W, ρ, M, .cons h r, q => by
    obtain ⟨W1, a1, a2, a3, a4, a5⟩ := h.freeze M q.1
    obtain ⟨W2, b1, b2, b3, b4, b5⟩ := RelAs.freeze a3 (r.le a2) (holds_fz q.1 q.2)
    refine ⟨W2, b1.trans a1, a2.trans b2, b3, .cons (a4.mono b2) b4, fun a n u e => ?_⟩
    cases z : W1.Hi a with
    | none => exact b5 a z u e
    | some u' =>
      have e' := b2 _ _ z
      rw [e] at e'
      cases e'
      exact a5 a n u z
end

section
variable {X : Cx} {E : St → XK}
def wVar (i : Nat) : WE := fun ρ k _ => match ρ[i]? with
  | some (some (.val d)) => k (.val d) ρ
  | some (some (.own o)) => k (.brw i o) ρ
  | _ => False
theorem de_var {x : Str} {pos : Pos} {i : Nat} (h : PE X (.Name x pos) (tVar i)) : DE X E (.Name x pos) (wVar i) := by
  refine PE.imp h ?_
  rintro σ H Q ⟨P, W, ρ, k, kx, rfl, M, h, hk, _⟩
  have h' : (match ρ[i]? with
    | some (some (.val d)) => k (.val d) ρ
    | some (some (.own o)) => k (.brw i o) ρ
    | _ => False) := h
  split at h'
  · rename_i d e
    obtain ⟨v, h1, h2⟩ := M.slot i _ e
    exact ⟨v, h1, hk _ _ h' v W W.le_refl M h2⟩
  · rename_i o e
    obtain ⟨v, h1, h2⟩ := M.slot i _ e
    exact ⟨v, h1, hk _ _ h' v W W.le_refl M ⟨h1, e⟩⟩
  · exact h'.elim
def wC (d : D) : WE := fun ρ k _ => k (.val d) ρ
theorem de_c {e : Expr} {v : V} {d : D} (h : PE X e (tC v)) (r : ∀ (P : PM X.K) Hi, Rp X.K P.G Hi v d) : DE X E e (wC d) := by
  refine PE.imp h ?_
  rintro σ H Q ⟨P, W, ρ, k, kx, rfl, M, h, hk, _⟩
  exact hk _ _ h v W W.le_refl M (r P _)
theorem de_int {i : Int} {j : Nat} {pos : Pos} : DE X E (.Constant (.int i) j pos) (wC (.int i)) := de_c pe_int fun _ _ => .int i
theorem de_bl {b : Bool} {j : Nat} {pos : Pos} : DE X E (.Constant (.bool b) j pos) (wC (.bl b)) := de_c pe_bl fun _ _ => .bl b
theorem de_non {j : Nat} {pos : Pos} : DE X E (.Constant .none j pos) (wC .non) := de_c pe_non fun _ _ => .non
theorem de_str {x : Str} {j : Nat} {pos : Pos} : DE X E (.Constant (.str x) j pos) (wC (.str x)) := de_c pe_str fun _ _ => .str x
theorem de_gint {x : Str} {pos : Pos} {i : Int} (hg : Gl X x) (hm : ∃ t, X.mg x = some (.int i t)) (hd : (x == ("__debug__" : Str)) = false := by decide) : DE X E (.Name x pos) (wC (.int i)) := by
  obtain ⟨t, hm⟩ := hm
  exact de_c (v := .int i) (pe_glob hg hm ⟨t, rfl⟩ (hd := hd)) fun _ _ => .int i
theorem de_gstr {x : Str} {pos : Pos} {i : Str} (hg : Gl X x) (hm : ∃ t, X.mg x = some (.str i t)) (hd : (x == ("__debug__" : Str)) = false := by decide) : DE X E (.Name x pos) (wC (.str i)) := by
  obtain ⟨t, hm⟩ := hm
  exact de_c (v := .str i) (pe_glob hg hm ⟨t, rfl⟩ (hd := hd)) fun _ _ => .str i

def wNil : WA := fun ρ k _ => k [] ρ
def wCons (wa : WE) (ws : WA) : WA := fun ρ k kx => wa ρ (fun r ρ1 => ws ρ1 (fun rs ρ2 => k (r.nown :: rs) ρ2) kx) kx
theorem da_nil : DA X E [] wNil := by
  refine PA.imp pa_nil ?_
  rintro σ H Q ⟨P, W, ρ, k, kx, rfl, M, h, hk, _⟩
  exact hk _ _ h [] W W.le_refl M .nil
theorem da_cons {e : Expr} {es : List Expr} {wa : WE} {ws : WA} (ha : DE X E e wa) (hs : DA X E es ws) (he : starEach (e :: es) X.env = (false, eval e X.env) :: starEach es X.env := by rfl) : DA X E (e :: es) (wCons wa ws) := by
  refine PA.imp (pa_cons ha hs he) ?_
  rintro σ H Q ⟨P, W, ρ, k, kx, rfl, M, h, hk, hx⟩
  refine ⟨P, W, ρ, _, kx, rfl, M, h, fun r ρ1 h1 v W1 l1 M1 r1 => ?_, hx⟩
  obtain ⟨W2, e2, l2, M2, r2⟩ := r1.nown M1
  refine ⟨P, W2, ρ1, _, kx, e2, M2, h1, fun rs ρ2 h2 vs W3 l3 M3 r3 => ?_, hx.le (l1.trans l2)⟩
  exact hk _ _ h2 (v :: vs) W3 ((l1.trans l2).trans l3) M3 (.cons (r2.le l3) r3)
end
section
variable {K : PySem.W.Frag} {P : PM K} {W : Wd} {p : Addr}
theorem Bas.hiNone (b : Bas P W) (hp : W.H p = none) : W.Hi p = none := by
  cases e : W.Hi p with
  | none => rfl
  | some o =>
    rcases b.sub p o e with h | ⟨_, _, _, h⟩ <;> (rw [hp] at h; cases h)
theorem Bas.nvol (b : Bas P W) (hp : W.H p = none) : ¬ P.vol p := fun z => by
  obtain ⟨o, h⟩ := P.hx _ b.inv p z
  rw [hp] at h
  cases h
/-- a new object, its part known to the data -/
theorem Alc.newVal (b : Bas P W) (hp : W.H p = none) (u : HO) : Alc P W ⟨upd W.Hi p u, upd W.H p u⟩ := by
  have hi := b.hiNone hp
  have old : Same W.H (upd W.H p u) := fun a o e => by rw [upd_ne (ne_of_none e hp)]; exact e
  refine ⟨fun a o e => by show upd W.Hi p u a = some o; rw [upd_ne (ne_of_none e hi)]; exact e, ⟨fun a o e => ?_, fun a o e => ?_, fun a o e z => old _ _ (b.old a o e z), fun a h n => ?_, P.hI _ _ (fun a z => upd_ne fun y => b.nvol hp (y ▸ z)) b.inv⟩, fun a o e _ => old _ _ e, fun a h n => ?_⟩
  · by_cases z : a = p
    · subst z
      have e' : upd W.Hi a u a = some o := e
      rw [upd_same] at e'
      cases e'
      exact .inl upd_same
    · have e' : upd W.Hi p u a = some o := e
      rw [upd_ne z] at e'
      show upd W.H p u a = _ ∨ ∃ ks, o = .dK ks ∧ ∃ ob, upd W.H p u a = _
      rw [upd_ne z]
      exact b.sub a o e'
  · have e1 := b.ext a o e
    show upd W.Hi p u a = some o
    rw [upd_ne (ne_of_none e1 hi)]
    exact e1
  · show upd W.Hi p u a = none
    have z : a ≠ p := fun z => by
      obtain ⟨o, ho⟩ := h
      by_cases y : P.vol a
      · exact b.nvol hp (z ▸ y)
      · have := b.old a o ho y
        rw [z, hp] at this
        cases this
    rw [upd_ne z]
    exact b.own a h n
  · show upd W.Hi p u a = none
    have z : a ≠ p := fun z => by
      obtain ⟨o, ho⟩ := h
      rw [z, hp] at ho
      cases ho
    rw [upd_ne z]
    exact n
/-- a new object that the data does not know -/
theorem Alc.newOwn (b : Bas P W) (hp : W.H p = none) (u : HO) : Alc P W ⟨W.Hi, upd W.H p u⟩ := by
  have old : Same W.H (upd W.H p u) := fun a o e => by rw [upd_ne (ne_of_none e hp)]; exact e
  refine ⟨Same.refl _, ⟨fun a o e => ?_, b.ext, fun a o e z => old _ _ (b.old a o e z), b.own, P.hI _ _ (fun a z => upd_ne fun y => b.nvol hp (y ▸ z)) b.inv⟩, fun a o e _ => old _ _ e, fun a h n => n⟩
  have z : a ≠ p := fun z => by
    rcases b.sub a o e with h | ⟨_, _, _, h⟩ <;> (rw [z, hp] at h; cases h)
  show upd W.H p u a = _ ∨ ∃ ks, o = .dK ks ∧ ∃ ob, upd W.H p u a = _
  rw [upd_ne z]
  exact b.sub a o e
end
end HD

namespace HD
open PySem L2
section
variable {X : Cx} {E : St → XK}
def wTup (ws : WA) : WE := fun ρ k kx => ws ρ (fun rs ρ1 => R.holds rs ρ1 ∧ rs.length ≤ sizeLine ∧ k (.val (.tup (rs.map R.toD))) (R.fzs rs ρ1)) kx
def wLst (ws : WA) : WE := fun ρ k kx => ws ρ (fun rs ρ1 => R.holds rs ρ1 ∧ rs.length ≤ sizeLine ∧ k (.own (.lst (rs.map R.toD))) (R.fzs rs ρ1)) kx
theorem RelAs.length {K : PySem.W.Frag} {P : PM K} {σ : St} {W : Wd} {vs : List V} {rs : List R} (h : RelAs K P σ W vs rs) : vs.length = rs.length := by
  induction h with
  | nil => rfl
  | cons _ _ ih => rw [List.length_cons, List.length_cons, ih]
theorem RelR.ownNew {K : PySem.W.Frag} {P : PM K} {σ : St} {W W' : Wd} {ρ : Env} {p : Addr} {o : O} (M : Mod P σ W ρ) (hp : W.H p = none) (h : OwnAt P W' p o) : RelR P σ W' ρ (.ref p) (.own o) := by
  refine ⟨p, rfl, h, fun i o' q z => ?_⟩
  obtain ⟨u, hu⟩ := (M.ownAt q z).there
  rw [hp] at hu
  cases hu
theorem Bas.new0 {K : PySem.W.Frag} {P : PM K} {W : Wd} {p : Addr} (b : Bas P W) (hp : W.H p = none) : P.W0.H p = none := by
  cases e : P.W0.H p with
  | none => rfl
  | some o =>
    have := b.old p o e (b.nvol hp)
    rw [hp] at this
    cases this
theorem de_tup {es : List Expr} {x1 : Nat} {pos : Pos} {ws : WA} (h : DA X E es ws) : DE X E (.Tuple es x1 pos) (wTup ws) := by
  refine PE.imp (pe_tup h) ?_
  rintro σ H Q ⟨P, W, ρ, k, kx, rfl, M, h, hk, hx⟩
  refine ⟨P, W, ρ, _, kx, rfl, M, h, fun rs ρ1 h1 vs W1 l1 M1 ra => ?_, hx⟩
  obtain ⟨q1, q2, q3⟩ := h1
  refine ⟨by rw [ra.length]; exact q2, fun p hp => ?_⟩
  obtain ⟨W2, e2, l2, M2, rp, _⟩ := RelAs.freeze M1 ra q1
  have hp2 : W2.H p = none := by rw [e2]; exact hp
  have A := Alc.newVal M2.bas hp2 (.tup vs)
  have := hk _ _ q3 (.ref p) _ ((l1.trans l2).trans A.le) (M2.alc A) (show Rp X.K P.G _ (.ref p) _ from .tup (.inl (.inl upd_same)) (rp.mono A.le))
  rw [e2] at this
  exact this
theorem de_lst {es : List Expr} {pos : Pos} {ws : WA} (h : DA X E es ws) : DE X E (.List es pos) (wLst ws) := by
  refine PE.imp (pe_lst h) ?_
  rintro σ H Q ⟨P, W, ρ, k, kx, rfl, M, h, hk, hx⟩
  refine ⟨P, W, ρ, _, kx, rfl, M, h, fun rs ρ1 h1 vs W1 l1 M1 ra => ?_, hx⟩
  obtain ⟨q1, q2, q3⟩ := h1
  refine ⟨by rw [ra.length]; exact q2, fun p hp => ?_⟩
  obtain ⟨W2, e2, l2, M2, rp, _⟩ := RelAs.freeze M1 ra q1
  have hp2 : W2.H p = none := by rw [e2]; exact hp
  have A := Alc.newOwn M2.bas hp2 (.lst vs)
  have := hk _ _ q3 (.ref p) _ ((l1.trans l2).trans A.le) (M2.alc A) (RelR.ownNew M2 hp2 (show OwnAt P _ p (.lst (rs.map R.toD)) from ⟨M2.bas.new0 hp2, M2.bas.hiNone hp2, vs, upd_same, rp.mono A.le⟩))
  rw [e2] at this
  exact this

def rOp (K : PySem.W.Frag) (op : D → D → (EE → Prop) → Prop) : R2 := fun x y H Q => ∃ (P : PM K) (W : Wd) (d1 d2 : D) (kt : EE → Prop), W.H = H ∧ Bas P W ∧ RdD P W x d1 ∧ RdD P W y d2 ∧ op d1 d2 kt ∧
  ∀ e, kt e → ∀ v W', Alc P W W' → RelN P W W' v e → Q v W'.H
def OpD (X : Cx) (f : Value → Value → Sem Value) (op : D → D → (EE → Prop) → Prop) : Prop := OpR X f (rOp X.K op)
def wBin (op : D → D → (EE → Prop) → Prop) (wa wb : WE) : WE := fun ρ k kx => wa ρ (fun r1 ρ1 => wb ρ1 (fun r2 ρ2 => r1.hold ρ2 ∧ op r1.toD r2.toD (fun e => k e.toR ρ2)) kx) kx
theorem hold_nown {r : R} {ρ : Env} (h : r.hold ρ) : r.nown.hold ρ := by
  cases r with
  | val d => exact h
  | own o => exact True.intro
  | brw i o => exact h
theorem lift_bin {op : D → D → (EE → Prop) → Prop} {wa wb : WE} {K : PySem.W.Frag} {σ : St} {H : Hp} {Q : VK} (h : lift K E (wBin op wa wb) σ H Q) : tOp (rOp K op) (lift K E wa) (lift K E wb) σ H Q := by
  obtain ⟨P, W, ρ, k, kx, rfl, M, h, hk, hx⟩ := h
  refine ⟨P, W, ρ, _, kx, rfl, M, h, fun r1 ρ1 h1 v1 W1 l1 M1 rr1 => ?_, hx⟩
  obtain ⟨W2, e2, l2, M2, a1⟩ := rr1.nown M1
  refine ⟨P, W2, ρ1, _, kx, e2, M2, h1, fun r2 ρ2 h2 v2 W3 l3 M3 rr2 => ?_, hx.le (l1.trans l2)⟩
  have x1 := (a1.le l3).rd M3 (hold_nown h2.1)
  rw [R.nown_toD] at x1
  exact ⟨P, W3, _, _, _, rfl, M3.bas, x1, rr2.rd M3, h2.2, fun e he v W' A rn => hk _ _ he v W' (((l1.trans l2).trans l3).trans A.le) (M3.alc A) (rn.toR M3 A)⟩
variable {a b c : Expr} {wa wb wc : WE} {pos : Pos} {op op' : D → D → (EE → Prop) → Prop}
theorem de_bin {o : Operator} (ho : OpD X (binaryOp o) op) (ha : DE X E a wa) (hb : DE X E b wb) : DE X E (.BinOp a o b pos) (wBin op wa wb) := PE.imp (pe_op ho ha hb) fun _ _ _ h => lift_bin h
theorem de_cmp {o : CmpOp} (ho : OpD X (compareOp o) op) (ha : DE X E a wa) (hb : DE X E b wb) (hm : behindInMarks o b = false := by first | exact nomark _ | rfl) : DE X E (.Compare a [o] [b] pos) (wBin op wa wb) := PE.imp (pe_cmpR ho ha hb hm) fun _ _ _ h => lift_bin h
/-- a value that is True or False, as a test -/
def wTst (w : WE) : WT := fun ρ k kx => w ρ (fun r ρ' => match r with
  | .val (.bl b) => k b ρ'
  | _ => False) kx
theorem liftT_tst {K : PySem.W.Frag} {w : WE} {σ : St} {H : Hp} {Q : Bool → Hp → Prop} (h : liftT K E (wTst w) σ H Q) : lift K E w σ H fun x H' => ∃ k, x = .bl k ∧ Q k H' := by
  obtain ⟨P, W, ρ, k, kx, rfl, M, h, hk, hx⟩ := h
  refine ⟨P, W, ρ, _, kx, rfl, M, h, fun r ρ1 h1 v1 W1 l1 M1 rr1 => ?_, hx⟩
  cases r with
  | val d =>
    cases d <;> first | exact h1.elim | skip
    rename_i b
    have rr : Rp K P.G W1.Hi v1 (.bl b) := rr1
    cases rr
    exact ⟨b, rfl, hk _ _ h1 W1 l1 M1⟩
  | own o => exact h1.elim
  | brw i o => exact h1.elim
theorem dt_cmp {o : CmpOp} (ho : OpD X (compareOp o) op) (ha : DE X E a wa) (hb : DE X E b wb) (hm : behindInMarks o b = false := by first | exact nomark _ | rfl) : DT X E (.Compare a [o] [b] pos) (wTst (wBin op wa wb)) :=
  PT.imp (pt_cmpR ho ha hb hm) fun _ _ _ h => lift_bin (liftT_tst h)
def wChain (op op' : D → D → (EE → Prop) → Prop) (wa wb wc : WE) : WE := fun ρ k kx => wa ρ (fun r1 ρ1 => wb ρ1 (fun r2 ρ2 => r1.hold ρ2 ∧ op r1.toD r2.toD (fun e => match e with
  | .val (.bl b) => if b = true then wc ρ2 (fun r3 ρ3 => r2.hold ρ3 ∧ op' r2.toD r3.toD (fun e' => k e'.toR ρ3)) kx else k (.val (.bl false)) ρ2
  | _ => False)) kx) kx
theorem lift_chain {K : PySem.W.Frag} {σ : St} {H : Hp} {Q : VK} (h : lift K E (wChain op op' wa wb wc) σ H Q) : tChain (rOp K op) (rOp K op') (lift K E wa) (lift K E wb) (lift K E wc) σ H Q := by
  obtain ⟨P, W, ρ, k, kx, rfl, M, h, hk, hx⟩ := h
  refine ⟨P, W, ρ, _, kx, rfl, M, h, fun r1 ρ1 h1 v1 W1 l1 M1 rr1 => ?_, hx⟩
  obtain ⟨W2, e2, l2, M2, a1⟩ := rr1.nown M1
  refine ⟨P, W2, ρ1, _, kx, e2, M2, h1, fun r2 ρ2 h2 v2 W3 l3 M3 rr2 => ?_, hx.le (l1.trans l2)⟩
  obtain ⟨W4, e4, l4, M4, a2⟩ := rr2.nown M3
  have x1 := (a1.le (l3.trans l4)).rd M4 (hold_nown h2.1)
  rw [R.nown_toD] at x1
  have x2 : RdD P W4 v2 r2.toD := by
    rcases rr2.rd M3 with z | ⟨a, o, z1, z2, z3⟩
    · exact .inl (z.mono l4)
    · cases r2 with
      | val d =>
        have r' : Rp K P.G W3.Hi v2 d := rr2
        exact .inl (r'.mono l4)
      | own o' => exact .inl a2
      | brw i o' => exact RelA.rd (r := .brw i o') M4 a2 (by
          -- the environment is the same, so it is still the name's own
          have q : ρ2[i]? = some (some (.own o')) := rr2.2
          exact .inl q)
  rw [← e4]
  refine ⟨P, W4, _, _, _, rfl, M4.bas, x1, x2, h2.2, fun e he v W' A rn => ?_⟩
  cases e with
  | own o => exact he.elim
  | val d =>
    cases d <;> first | exact he.elim | skip
    rename_i b
    have rn' : Rp K P.G W'.Hi v (.bl b) := rn
    cases rn'
    refine ⟨b, rfl, ?_⟩
    have lW := (((l1.trans l2).trans l3).trans l4).trans A.le
    cases b with
    | false =>
      show Q (.bl false) W'.H
      exact hk _ _ he (.bl false) W' lW (M4.alc A) (.bl false)
    | true =>
      show lift K E wc σ W'.H fun w' H4 => rOp K op' v2 w' H4 Q
      have he' : wc ρ2 (fun r3 ρ3 => r2.hold ρ3 ∧ op' r2.toD r3.toD (fun e' => k e'.toR ρ3)) kx := he
      refine ⟨P, W', ρ2, _, kx, rfl, M4.alc A, he', fun r3 ρ3 h3 v3 W5 l5 M5 rr3 => ?_, hx.le lW⟩
      have y1 := (a2.le (A.le.trans l5)).rd M5 (hold_nown h3.1)
      rw [R.nown_toD] at y1
      exact ⟨P, W5, _, _, _, rfl, M5.bas, y1, rr3.rd M5, h3.2, fun e he v W6 A6 rn => hk _ _ he v W6 ((lW.trans l5).trans A6.le) (M5.alc A6) (rn.toR M5 A6)⟩
theorem de_chain {o o' : CmpOp} (ho : OpD X (compareOp o) op) (ho' : OpD X (compareOp o') op') (ha : DE X E a wa) (hb : DE X E b wb) (hc : DE X E c wc) (hm : lastMarks [o, o'] [b, c] = false := by with_unfolding_all rfl) : DE X E (.Compare a [o, o'] [b, c] pos) (wChain op op' wa wb wc) :=
  PE.imp (pe_chain ho ho' ha hb hc hm) fun _ _ _ h => lift_chain h
theorem dt_chain {o o' : CmpOp} (ho : OpD X (compareOp o) op) (ho' : OpD X (compareOp o') op') (ha : DE X E a wa) (hb : DE X E b wb) (hc : DE X E c wc) (hm : lastMarks [o, o'] [b, c] = false := by with_unfolding_all rfl) : DT X E (.Compare a [o, o'] [b, c] pos) (wTst (wChain op op' wa wb wc)) :=
  PT.imp (pt_chain ho ho' ha hb hc hm) fun _ _ _ h => lift_chain (liftT_tst h)

def truD : D → (Bool → Prop) → Prop
  | .non, k => k false
  | .bl b, k => k b
  | .int i, k => k (i != 0)
  | .str x, k => x.length ≤ sizeLine ∧ k ((x.length : Int) != 0)
  | .list xs, k => k (!xs.isEmpty)
  | .tup xs, k => k (!xs.isEmpty)
  | _, _ => False
theorem isEmpty_all {K : PySem.W.Frag} {G : Sg} {Hi : Hp} {vs : List V} {ds : List D} (r : RpAll K G Hi vs ds) : (!ds.isEmpty) = !vs.isEmpty := by cases r <;> rfl
theorem sqL_own {K : PySem.W.Frag} {P : PM K} {W : Wd} {v : V} {xs : List D} (h : RdD P W v (.list xs)) (b : Bas P W) : ∃ a vs, v = .ref a ∧ W.H a = some (.lst vs) ∧ RpAll K P.G W.Hi vs xs := by
  rcases h with h | ⟨a, o, e1, e2, h⟩
  · cases h with
    | lst h r =>
      rcases b.sub _ _ h with h | ⟨_, z, _⟩
      · exact ⟨_, _, rfl, h, r⟩
      · cases z
  · cases o with
    | dct kvs => cases e2
    | lst ys =>
      cases e2
      obtain ⟨_, _, vs, h1, r⟩ := h
      exact ⟨a, vs, e1, h1, r⟩
theorem sqT_rd {K : PySem.W.Frag} {P : PM K} {W : Wd} {v : V} {xs : List D} (h : RdD P W v (.tup xs)) (b : Bas P W) : ∃ a vs, v = .ref a ∧ SqT K W.H a vs ∧ RpAll K P.G W.Hi vs xs := by
  rcases h with h | ⟨a, o, e1, e2, h⟩
  · cases h with
    | tup h r =>
      refine ⟨_, _, rfl, ?_, r⟩
      rcases h with (h | ⟨ob, h⟩) | h
      · rcases b.sub _ _ h with h | ⟨_, z, _⟩
        · exact .inl (.inl h)
        · cases z
      · rcases b.sub _ _ h with h | ⟨_, z, _⟩
        · exact .inl (.inr ⟨ob, h⟩)
        · cases z
      · exact .inr h
  · cases o <;> cases e2
theorem dct_rd {K : PySem.W.Frag} {P : PM K} {W : Wd} {v : V} {xs : List (D × D)} (h : RdD P W v (.dict xs)) (b : Bas P W) : ∃ a ks, v = .ref a ∧ Rd W.H a (.dK ks) ∧ RpKv K P.G W.Hi ks xs := by
  rcases h with h | ⟨a, o, e1, e2, h⟩
  · cases h with
    | dic h r =>
      refine ⟨_, _, rfl, ?_, r⟩
      rcases b.sub _ _ h with h | ⟨_, z, ob, h⟩
      · exact .inl h
      · exact .inr ⟨ob, h⟩
  · cases o with
    | lst kvs => cases e2
    | dct ys =>
      cases e2
      obtain ⟨_, _, vs, h1, r⟩ := h
      exact ⟨a, vs, e1, .inl h1, r⟩
theorem rd_flat {K : PySem.W.Frag} {P : PM K} {W : Wd} {v : V} {d : D} (h : RdD P W v d) (n : ∀ o : O, d ≠ o.toD) : Rp K P.G W.Hi v d := by
  rcases h with h | ⟨a, o, e1, e2, h⟩
  · exact h
  · exact (n o e2).elim
theorem tru_rd {K : PySem.W.Frag} {P : PM K} {W : Wd} {v : V} {d : D} {k : Bool → Prop} (h : RdD P W v d) (b : Bas P W) (q : truD d k) : ∃ c, TruV K v W.H c ∧ k c := by
  cases d with
  | non => cases rd_flat h (fun o => by cases o <;> (intro z; cases z)); exact ⟨false, rfl, q⟩
  | bl x => cases rd_flat h (fun o => by cases o <;> (intro z; cases z)); exact ⟨x, rfl, q⟩
  | int x => cases rd_flat h (fun o => by cases o <;> (intro z; cases z)); exact ⟨_, rfl, q⟩
  | str x => cases rd_flat h (fun o => by cases o <;> (intro z; cases z)); exact ⟨_, ⟨q.1, rfl⟩, q.2⟩
  | list xs =>
    obtain ⟨a, vs, rfl, h1, r⟩ := sqL_own h b
    exact ⟨!vs.isEmpty, .inl ⟨vs, SqL.of h1, rfl⟩, by rw [← isEmpty_all r]; exact q⟩
  | tup xs =>
    obtain ⟨a, vs, rfl, h1, r⟩ := sqT_rd h b
    exact ⟨!vs.isEmpty, .inr (.inl ⟨vs, h1, rfl⟩), by rw [← isEmpty_all r]; exact q⟩
  | dict xs => exact q.elim
  | obj c fs => exact q.elim
  | hnd n => exact q.elim
  | ty n => exact q.elim
  | cls n => exact q.elim
def wAnd (wa wb : WE) : WE := fun ρ k kx => wa ρ (fun r ρ1 => truD r.toD (fun c => if c = true then wb ρ1 k kx else k r ρ1)) kx
def wOr (wa wb : WE) : WE := fun ρ k kx => wa ρ (fun r ρ1 => truD r.toD (fun c => if c = true then k r ρ1 else wb ρ1 k kx)) kx
def wNot (wa : WE) : WE := fun ρ k kx => wa ρ (fun r ρ1 => truD r.toD (fun c => k (.val (.bl (!c))) ρ1)) kx
variable {rest : List Expr}
theorem de_one {o : BoolOp} (ha : DE X E a wa) : DE X E (.BoolOp o [a] pos) wa := pe_one ha
theorem de_and (ha : DE X E a wa) (hb : DE X E (.BoolOp .And (b :: rest) pos) wb) : DE X E (.BoolOp .And (a :: b :: rest) pos) (wAnd wa wb) := by
  refine PE.imp (pe_andT ha hb) ?_
  rintro σ H Q ⟨P, W, ρ, k, kx, rfl, M, h, hk, hx⟩
  refine ⟨P, W, ρ, _, kx, rfl, M, h, fun r ρ1 h1 v W1 l1 M1 rr => ?_, hx⟩
  obtain ⟨c, t, q⟩ := tru_rd (rr.rd M1) M1.bas h1
  refine ⟨c, t, ?_⟩
  cases c with
  | true => exact ⟨P, W1, ρ1, k, kx, rfl, M1, q, fun r ρ' h v W' l => hk r ρ' h v W' (l1.trans l), hx.le l1⟩
  | false => exact hk _ _ q v W1 l1 M1 rr
theorem de_or (ha : DE X E a wa) (hb : DE X E (.BoolOp .Or (b :: rest) pos) wb) : DE X E (.BoolOp .Or (a :: b :: rest) pos) (wOr wa wb) := by
  refine PE.imp (pe_orT ha hb) ?_
  rintro σ H Q ⟨P, W, ρ, k, kx, rfl, M, h, hk, hx⟩
  refine ⟨P, W, ρ, _, kx, rfl, M, h, fun r ρ1 h1 v W1 l1 M1 rr => ?_, hx⟩
  obtain ⟨c, t, q⟩ := tru_rd (rr.rd M1) M1.bas h1
  refine ⟨c, t, ?_⟩
  cases c with
  | false => exact ⟨P, W1, ρ1, k, kx, rfl, M1, q, fun r ρ' h v W' l => hk r ρ' h v W' (l1.trans l), hx.le l1⟩
  | true => exact hk _ _ q v W1 l1 M1 rr
theorem de_not (ha : DE X E a wa) : DE X E (.UnaryOp .Not a pos) (wNot wa) := by
  refine PE.imp (pe_notT ha) ?_
  rintro σ H Q ⟨P, W, ρ, k, kx, rfl, M, h, hk, hx⟩
  refine ⟨P, W, ρ, _, kx, rfl, M, h, fun r ρ1 h1 v W1 l1 M1 rr => ?_, hx⟩
  obtain ⟨c, t, q⟩ := tru_rd (rr.rd M1) M1.bas h1
  exact ⟨c, t, hk _ _ q (.bl (!c)) W1 l1 M1 (.bl _)⟩
def wTru (wa : WE) : WT := fun ρ k kx => wa ρ (fun r ρ1 => truD r.toD (fun c => k c ρ1)) kx
theorem dt_tru (ha : DE X E a wa) (he : ∀ whole, isTrue a X.env whole = (do let v ← whole; standAt a.pos; holding [v] (truthy v)) := by intro _; rfl) : DT X E a (wTru wa) := by
  refine PT.imp (pt_truth ha he) ?_
  rintro σ H Q ⟨P, W, ρ, k, kx, rfl, M, h, hk, hx⟩
  refine ⟨P, W, ρ, _, kx, rfl, M, h, fun r ρ1 h1 v W1 l1 M1 rr => ?_, hx⟩
  obtain ⟨c, t, q⟩ := tru_rd (rr.rd M1) M1.bas h1
  exact ⟨c, t, hk _ _ q W1 l1 M1⟩
variable {ta tb : WT}
def tAndD (ta tb : WT) : WT := fun ρ k kx => ta ρ (fun c ρ1 => if c = true then tb ρ1 k kx else k false ρ1) kx
def tOrD (ta tb : WT) : WT := fun ρ k kx => ta ρ (fun c ρ1 => if c = true then k true ρ1 else tb ρ1 k kx) kx
def tNotD (ta : WT) : WT := fun ρ k kx => ta ρ (fun c ρ1 => k (!c) ρ1) kx
theorem dw_and1 (ha : DT X E a ta) : DW X E (.BoolOp .And [a] pos) ta := pw_and1 ha
theorem dw_or1 (ha : DT X E a ta) : DW X E (.BoolOp .Or [a] pos) ta := pw_or1 ha
theorem DW.t (h : DW X E a ta) : DT X E a ta := PW.pt h
theorem dw_and (ha : DT X E a ta) (hb : DW X E (.BoolOp .And (b :: rest) pos) tb) : DW X E (.BoolOp .And (a :: b :: rest) pos) (tAndD ta tb) := by
  refine PW.imp (pw_and ha hb) ?_
  rintro σ H Q ⟨P, W, ρ, k, kx, rfl, M, h, hk, hx⟩
  refine ⟨P, W, ρ, _, kx, rfl, M, h, fun c ρ1 h1 W1 l1 M1 => ?_, hx⟩
  cases c with
  | true => exact ⟨P, W1, ρ1, k, kx, rfl, M1, h1, fun r ρ' h W' l => hk r ρ' h W' (l1.trans l), hx.le l1⟩
  | false => exact hk _ _ h1 W1 l1 M1
theorem dw_or (ha : DT X E a ta) (hb : DW X E (.BoolOp .Or (b :: rest) pos) tb) : DW X E (.BoolOp .Or (a :: b :: rest) pos) (tOrD ta tb) := by
  refine PW.imp (pw_or ha hb) ?_
  rintro σ H Q ⟨P, W, ρ, k, kx, rfl, M, h, hk, hx⟩
  refine ⟨P, W, ρ, _, kx, rfl, M, h, fun c ρ1 h1 W1 l1 M1 => ?_, hx⟩
  cases c with
  | false => exact ⟨P, W1, ρ1, k, kx, rfl, M1, h1, fun r ρ' h W' l => hk r ρ' h W' (l1.trans l), hx.le l1⟩
  | true => exact hk _ _ h1 W1 l1 M1
theorem dt_not (ha : DT X E a ta) : DT X E (.UnaryOp .Not a pos) (tNotD ta) := by
  refine PT.imp (pt_not ha) ?_
  rintro σ H Q ⟨P, W, ρ, k, kx, rfl, M, h, hk, hx⟩
  exact ⟨P, W, ρ, _, kx, rfl, M, h, fun c ρ1 h1 W1 l1 M1 => hk _ _ h1 W1 l1 M1, hx⟩
def wIf (t : WT) (wa wb : WE) : WE := fun ρ k kx => t ρ (fun c ρ1 => if c = true then wa ρ1 k kx else wb ρ1 k kx) kx
theorem de_if (hc : DT X E c ta) (ha : DE X E a wa) (hb : DE X E b wb) : DE X E (.IfExp c a b pos) (wIf ta wa wb) := by
  refine PE.imp (pe_ifExp hc ha hb) ?_
  rintro σ H Q ⟨P, W, ρ, k, kx, rfl, M, h, hk, hx⟩
  refine ⟨P, W, ρ, _, kx, rfl, M, h, fun c ρ1 h1 W1 l1 M1 => ?_, hx⟩
  cases c with
  | true => exact ⟨P, W1, ρ1, k, kx, rfl, M1, h1, fun r ρ' h v W' l => hk r ρ' h v W' (l1.trans l), hx.le l1⟩
  | false => exact ⟨P, W1, ρ1, k, kx, rfl, M1, h1, fun r ρ' h v W' l => hk r ρ' h v W' (l1.trans l), hx.le l1⟩
end

section
variable {X : Cx} {E : St → XK} {st : Stmt} {rest : List Stmt} {s u : WS} {e c : Expr} {we : WE} {wt : WT} {pos : Pos}
def sNext : WS := fun D ρ => D.nx ρ
def sSeq (s u : WS) : WS := fun D ρ => s { D with nx := u D } ρ
theorem dss_nil : DSs X E [] sNext := by
  refine PSs.imp pss_nil ?_
  rintro D σ H ⟨P, W, ρ, Dd, rfl, M, h, ok⟩
  exact ok.nx _ h σ W W.le_refl M
theorem dss_cons (h1 : DS X E st s) (h2 : DSs X E rest u) : DSs X E (st :: rest) (sSeq s u) := by
  refine PSs.imp (pss_cons h1 h2) ?_
  rintro D σ H ⟨P, W, ρ, Dd, rfl, M, h, ok⟩
  exact ⟨P, W, ρ, _, rfl, M, h, ⟨fun ρ' q σ' W' l M' => ⟨P, W', ρ', Dd, rfl, M', q, ok.le l⟩, ok.rt, ok.bk, ok.ct, ok.xk⟩⟩
theorem dss_one (h1 : DS X E st s) : DSs X E [st] s := pss_one h1
theorem ds_pass : DS X E (.Pass pos) sNext := by
  refine PS.imp ps_pass ?_
  rintro D σ H ⟨P, W, ρ, Dd, rfl, M, h, ok⟩
  exact ok.nx _ h σ W W.le_refl M
def sBreak : WS := fun D ρ => D.bk ρ
def sCont : WS := fun D ρ => D.ct ρ
theorem ds_break : DS X E (.Break pos) sBreak := by
  refine PS.imp ps_break ?_
  rintro D σ H ⟨P, W, ρ, Dd, rfl, M, h, ok⟩
  exact ok.bk _ h σ W W.le_refl M
theorem ds_continue : DS X E (.Continue pos) sCont := by
  refine PS.imp ps_continue ?_
  rintro D σ H ⟨P, W, ρ, Dd, rfl, M, h, ok⟩
  exact ok.ct _ h σ W W.le_refl M
def sExpr (we : WE) : WS := fun D ρ => we ρ (fun _ ρ' => D.nx ρ') D.xk
theorem ds_expr (he : DE X E e we) (hs : swapsWith e none pos.line X.env = pure false := by rfl) : DS X E (.Expr e pos) (sExpr we) := by
  refine PS.imp (ps_expr he hs) ?_
  rintro D σ H ⟨P, W, ρ, Dd, rfl, M, h, ok⟩
  exact ⟨P, W, ρ, _, _, rfl, M, h, fun r ρ' q v W' l M' _ => ok.nx _ q σ W' l M', ok.xk σ⟩
def R.rt : R → EE
  | .val d => .val d
  | .own o => .own o
  | .brw _ o => .own o
def sRet (we : WE) : WS := fun D ρ => we ρ (fun r _ => D.rt r.rt) D.xk
theorem ds_ret (he : DE X E e we) : DS X E (.Return (some e) pos) (sRet we) := by
  refine PS.imp (ps_ret he) ?_
  rintro D σ H ⟨P, W, ρ, Dd, rfl, M, h, ok⟩
  refine ⟨P, W, ρ, _, _, rfl, M, h, fun r ρ' q v W' l M' rr => ok.rt _ q v W' l M'.bas ?_, ok.xk σ⟩
  cases r with
  | val d => exact rr
  | own o => obtain ⟨a, e, h, _⟩ := rr; exact ⟨a, e, h⟩
  | brw i o =>
    obtain ⟨v', h3, b, h4, h5⟩ := M'.slot i _ rr.2
    rw [rr.1] at h3
    cases h3
    exact ⟨b, h4, h5⟩
def sRetN : WS := fun D _ => D.rt (.val .non)
theorem ds_retN : DS X E (.Return none pos) sRetN := by
  refine PS.imp ps_retN ?_
  rintro D σ H ⟨P, W, ρ, Dd, rfl, M, h, ok⟩
  exact ok.rt _ h .non W W.le_refl M.bas (show Rp X.K P.G _ _ _ from .non)
def sIf (t : WT) (s u : WS) : WS := fun D ρ => t ρ (fun c ρ' => if c = true then s D ρ' else u D ρ') D.xk
theorem ds_if {p q : List Stmt} (hc : DT X E c wt) (hs : DSs X E p s) (hu : DSs X E q u) : DS X E (.If c p q pos) (sIf wt s u) := by
  refine PS.imp (ps_if hc hs hu) ?_
  rintro D σ H ⟨P, W, ρ, Dd, rfl, M, h, ok⟩
  refine ⟨P, W, ρ, _, _, rfl, M, h, fun c ρ' q W' l M' => ?_, ok.xk σ⟩
  cases c with
  | true => exact ⟨P, W', ρ', Dd, rfl, M', q, ok.le l⟩
  | false => exact ⟨P, W', ρ', Dd, rfl, M', q, ok.le l⟩
/-- name = e -/
def R.ent : R → EE
  | .val d => .val d
  | .own o => .own o
  | .brw _ o => .val o.toD
def R.entF : R → Env → Env
  | .brw j o, ρ => ρ.set j (some (.val o.toD))
  | _, ρ => ρ
def sSet (i : Nat) (we : WE) : WS := fun D ρ => we ρ (fun r ρ' => D.nx ((r.entF ρ').set i (some r.ent))) D.xk
theorem RelR.ent {K : PySem.W.Frag} {P : PM K} {σ : St} {W : Wd} {ρ : Env} {v : V} {r : R} (M : Mod P σ W ρ) (h : RelR P σ W ρ v r) : ∃ W', W'.H = W.H ∧ W.le W' ∧ Mod P σ W' (r.entF ρ) ∧ RelR P σ W' (r.entF ρ) v r.ent.toR := by
  cases r with
  | val d => exact ⟨W, rfl, W.le_refl, M, h⟩
  | own o => exact ⟨W, rfl, W.le_refl, M, h⟩
  | brw i o =>
    obtain ⟨W', e, l, M', rp⟩ := RelR.freeze M h
    exact ⟨W', e, l, M', rp⟩
theorem ds_set {i : Nat} {x : Str} {pos' : Pos} (hN : X.N.Nodup) (hi : X.N[i]? = some x) (hx : Loc X.env.scope x) (he : DE X E e we) (hs : swapsWith e (some (.Name x pos')) pos.line X.env = pure false := by rfl)
    (hf : X.fn x = true ∨ X.env.scope.names.lookup x = some .local := by first | exact .inl rfl | exact .inr rfl | assumption) : DS X E (.Assign [.Name x pos'] e pos) (sSet i we) := by
  refine PS.imp (ps_set (i := i) hN hi hx he hs hf) ?_
  rintro D σ H ⟨P, W, ρ, Dd, rfl, M, h, ok⟩
  refine ⟨P, W, ρ, _, _, rfl, M, h, fun r ρ' q v W' l M' rr => ?_, ok.xk σ⟩
  obtain ⟨W2, e2, l2, M2, r2⟩ := rr.ent M'
  have := ok.nx _ q (σ.set i (some v)) W2 (l.trans l2) (M2.set r2)
  rw [e2] at this
  exact this
end
end HD

namespace HD
open PySem L2

abbrev SpD := List D → (EE → Prop) → (D → Prop) → Prop
def toSp (K : PySem.W.Frag) (S : SpD) : Sp := fun vs H Q Ex => ∃ (P : PM K) (W : Wd) (ds : List D) (kt : EE → Prop) (kx : D → Prop), W.H = H ∧ Bas P W ∧ RpAll K P.G W.Hi vs ds ∧ S ds kt kx ∧
  (∀ e, kt e → ∀ v W', Alc P W W' → RelN P W W' v e → Q v W'.H) ∧ ∀ x, kx x → ∀ cls dd W', Alc P W W' → RelX P W' cls dd x → Ex cls dd W'.H
/-- a def's promise where no repr is under way (so that repr of data is told) -/
structure FnG (P : Program) (w : World) (K : PySem.W.Frag) (mg : Str → Option Value) (base : Heap) (CX : CXT) (k : Nat) (f : Addr) (fd : FuncData) (ps : List Str) (sp : Sp) : Prop where
  size : ∀ vs H Q E, sp vs H Q E → vs.length = ps.length
  go : ∀ (A : Around) (outer : List PySem.Env) (s : Shared) (H : Hp) (args : Args) (us : List Value) (vs : List V) (Q : VK) (E : XK), A.guards = some [] → Room k A → Env0 P w K mg base A outer s H →
    BindsTo s fd args (ps.zip us) → Vals vs us → sp vs H Q E → codeAny (model P w) A (.call (.ref f) args) (CR CX outer P w H s Q E) s
/-- a name that can be called -/
structure Cal (P : Program) (w : World) (K : PySem.W.Frag) (mg : Str → Option Value) (base : Heap) (k : Nat) (x : Str) (sp : SpD) (dv : List D) : Prop where
  ex : ∃ (f : Addr) (fd : FuncData) (ps : List Str) (ds : List Value) (dvs : List V), FnG P w K mg base CX0 k f fd ps (toSp K sp) ∧ mg x = some (.ref f) ∧ PySem.W.keepIn K (.ref f) = true ∧ Binds K fd ps ds ∧ Vals dvs ds ∧ ∀ G Hi, RpAll K G Hi dvs dv
def EE.pure : EE → Bool
  | .val d => d.noref
  | .own (.lst xs) => D.norefAll xs
  | .own (.dct kvs) => D.norefAll (kvs.map (·.2))
def R.brws : List R → Bool
  | [] => false
  | .brw _ _ :: _ => true
  | _ :: rs => R.brws rs
section
variable {K : PySem.W.Frag} {P : PM K} {W W' W1 W2 W3 : Wd} {σ : St} {ρ : Env} {v : V}
theorem RpKv.tups {Hi Hj : Hp} {G : Sg} (e : ∀ a vs, SqT K Hi a vs → SqT K Hj a vs) : ∀ {ks : List (Key × V)} {ds : List (D × D)}, D.norefAll (ds.map (·.2)) = true → RpKv K G Hi ks ds → RpKv K G Hj ks ds
  | _, _, _, .nil => .nil
  | _, _, n, .cons h r => by
    rw [List.map_cons, D.norefAll, Bool.and_eq_true] at n
    exact .cons (Rp.tups e n.1 h) (RpKv.tups e n.2 r)
def Wd.un (W1 W2 W3 : Wd) : Wd := ⟨fun a => match W1.Hi a, W2.Hi a with
  | none, some _ => none
  | _, _ => W3.Hi a, W3.H⟩
theorem Wd.un_le (l2 : W1.le W2) (l3 : W2.le W3) : W1.le (Wd.un W1 W2 W3) := fun a o e => by
  show (match W1.Hi a, W2.Hi a with
    | none, some _ => none
    | _, _ => W3.Hi a) = some o
  rw [e, l2 a o e]
  exact l3 a o (l2 a o e)
theorem Wd.un_some {a : Addr} {u : HO} (h : (Wd.un W1 W2 W3).Hi a = some u) : W3.Hi a = some u := by
  have h' : (match W1.Hi a, W2.Hi a with
    | none, some _ => none
    | _, _ => W3.Hi a) = some u := h
  split at h'
  · cases h'
  · exact h'
theorem unborrow {e : EE} (M : Mod P σ W1 ρ) (hH : W2.H = W1.H) (l2 : W1.le W2) (new : ∀ a, W1.Hi a = none → ∀ u, W2.Hi a = some u → (∃ vs, u = .lst vs) ∨ ∃ ks, u = .dK ks) (A : Alc P W2 W3) (rn : RelN P W2 W3 v e) (pu : e.pure = true) :
    ∃ W4, W4.H = W3.H ∧ W1.le W4 ∧ Mod P σ W4 ρ ∧ RelR P σ W4 ρ v e.toR := by
  have l4 : W1.le (Wd.un W1 W2 W3) := Wd.un_le l2 A.le
  have own : ∀ {a : Addr} {o : O}, OwnAt P W1 a o → OwnAt P (Wd.un W1 W2 W3) a o := fun {a o} h => by
    obtain ⟨u, hu⟩ := h.there
    have hu2 : W2.H a = some u := by rw [hH]; exact hu
    refine h.keep l4 ((A.old _ _ hu2 h.nvol).trans hu.symm) ?_
    cases z : W2.Hi a with
    | none =>
      cases y : (Wd.un W1 W2 W3).Hi a with
      | none => rfl
      | some u' =>
        have := Wd.un_some y
        rw [A.own a ⟨u, hu2⟩ z] at this
        cases this
    | some u' =>
      show (match W1.Hi a, W2.Hi a with
        | none, some _ => none
        | _, _ => W3.Hi a) = none
      rw [h.hi, z]
  have bas : Bas P (Wd.un W1 W2 W3) := by
    refine ⟨fun a o e => A.bas.sub a o (Wd.un_some e), Same.trans M.bas.ext l4, A.bas.old, fun a h n => ?_, A.bas.inv⟩
    cases y : (Wd.un W1 W2 W3).Hi a with
    | none => rfl
    | some u' =>
      have := Wd.un_some y
      rw [A.bas.own a h n] at this
      cases this
  have M4 : Mod P σ (Wd.un W1 W2 W3) ρ := by
    refine ⟨bas, M.len, fun i e q => ?_, M.sep⟩
    obtain ⟨v, h1, h2⟩ := M.slot i e q
    refine ⟨v, h1, ?_⟩
    cases e with
    | val d => exact Rp.mono l4 h2
    | own o => obtain ⟨a, e, h⟩ := h2; exact ⟨a, e, own h⟩
  have tup1 : ∀ a vs, W3.Hi a = some (.tup vs) ∨ (∃ ob, W3.Hi a = some (.frz ob (.tup vs))) → (Wd.un W1 W2 W3).Hi a = W3.Hi a := fun a vs h => by
    show (match W1.Hi a, W2.Hi a with
      | none, some _ => none
      | _, _ => W3.Hi a) = W3.Hi a
    cases z1 : W1.Hi a with
    | some _ => cases W2.Hi a <;> rfl
    | none =>
      cases z2 : W2.Hi a with
      | none => rfl
      | some u =>
        have e3 := A.le a u z2
        exfalso
        rcases new a z1 u z2 with ⟨_, rfl⟩ | ⟨_, rfl⟩ <;> rcases h with h | ⟨_, h⟩ <;> (rw [e3] at h; cases h)
  have tups : ∀ a vs, SqT K W3.Hi a vs → SqT K (Wd.un W1 W2 W3).Hi a vs := fun a vs h => by
    rcases h with (h | ⟨o, h⟩) | h
    · exact .inl (.inl ((tup1 a vs (.inl h)).trans h))
    · exact .inl (.inr ⟨o, (tup1 a vs (.inr ⟨o, h⟩)).trans h⟩)
    · exact .inr h
  refine ⟨Wd.un W1 W2 W3, rfl, l4, M4, ?_⟩
  cases e with
  | val d => exact Rp.tups tups pu rn
  | own o =>
    obtain ⟨a, rfl, hn, ho⟩ := rn
    have hn1 : W1.H a = none := by rw [← hH]; exact hn
    have hi : (Wd.un W1 W2 W3).Hi a = none := by
      cases y : (Wd.un W1 W2 W3).Hi a with
      | none => rfl
      | some u' =>
        have := Wd.un_some y
        rw [ho.hi] at this
        cases this
    refine RelR.ownNew M hn1 ?_
    cases o with
    | lst xs => obtain ⟨h0, _, vs, h1, r⟩ := ho; exact ⟨h0, hi, vs, h1, r.tups tups pu⟩
    | dct xs => obtain ⟨h0, _, vs, h1, r⟩ := ho; exact ⟨h0, hi, vs, h1, r.tups tups pu⟩
end

section
variable {X : Cx} {E : St → XK}
def wCall (sp : SpD) (dv : List D) (ws : WA) : WE := fun ρ k kx => ws ρ (fun rs ρ1 => R.holds rs ρ1 ∧ sp (rs.map R.toD ++ dv) (fun e => if (R.brws rs && !e.pure) = true then k e.toR (R.fzs rs ρ1) else k e.toR ρ1) (fun _ => False)) kx
theorem fzs_nobrw : ∀ {rs : List R} {ρ : Env}, R.brws rs = false → R.fzs rs ρ = ρ
  | [], _, _ => rfl
  | .val _ :: rs, ρ, h => fzs_nobrw (rs := rs) (ρ := ρ) h
  | .own _ :: rs, ρ, h => fzs_nobrw (rs := rs) (ρ := ρ) h
  | .brw _ _ :: _, _, h => by cases h
theorem call_run {sp : SpD} {dv : List D} {dvs : List V} {ws : WA} {σ : St} {H : Hp} {Q : VK} (hdv : ∀ G Hi, RpAll X.K G Hi dvs dv) (h : lift X.K E (wCall sp dv ws) σ H Q) : tCall (toSp X.K sp) dvs E0 (liftA X.K E ws) σ H Q := by
  obtain ⟨P, W, ρ, k, kx, rfl, M, h, hk, hx⟩ := h
  refine ⟨P, W, ρ, _, kx, rfl, M, h, fun rs ρ1 h1 vs W1 l1 M1 ra => ?_, hx⟩
  obtain ⟨q1, q2⟩ := h1
  obtain ⟨W2, e2, l2, M2, rp, new⟩ := RelAs.freeze M1 ra q1
  refine ⟨P, W2, _, _, _, e2, M2.bas, rp.append (hdv _ _), q2, fun e he v W3 A rn => ?_, fun x hx => hx.elim⟩
  have he' : if (R.brws rs && !e.pure) = true then k e.toR (R.fzs rs ρ1) else k e.toR ρ1 := he
  split at he'
  · exact hk _ _ he' v W3 ((l1.trans l2).trans A.le) (M2.alc A) (rn.toR M2 A)
  · rename_i hn
    cases hb : R.brws rs with
    | false =>
      rw [fzs_nobrw hb] at M2
      exact hk _ _ he' v W3 ((l1.trans l2).trans A.le) (M2.alc A) (rn.toR M2 A)
    | true =>
      rw [hb, Bool.true_and] at hn
      have pu : e.pure = true := by
        cases z : e.pure with
        | true => rfl
        | false => rw [z] at hn; exact (hn rfl).elim
      obtain ⟨W4, e4, l4, M4, r4⟩ := unborrow M1 e2 l2 new A rn pu
      have := hk _ _ he' v W4 (l1.trans l4) M4 r4
      rw [e4] at this
      exact this
section
open PySem.Spec PyProof.Rows
variable {CX : CXT} {k : Nat} {f : Addr} {fd : FuncData} {ps : List Str} {sp : Sp} {dvs : List V} {ds : List Value} {Ec : XK}
/-- the callee goes its way -/
theorem FnG.call {pins : List (Addr × Obj)} {σ : L2.St} {H : Hp} {s : Shared} {Q : VK} {us : List Value} {vs : List V} (F : FnG X.prog X.w X.K X.mg X.base CX k f fd ps sp) (gu : X.A.guards = some []) (ro : Room k X.A)
    (bi : Binds X.K fd ps ds) (dd : Vals dvs ds) (px : Passes CX X Ec) (J : Inv X pins σ H s) (rv : Vals vs us) (q : sp (vs ++ dvs) H Q Ec) :
    wpAny (model X.prog X.w) X.A (PySem.call (.ref f) us) (EP X pins σ Q) X.xe s := by
  have both := rv.append dd
  have n : (us ++ ds).length = ps.length := both.length.symm.trans (F.size _ _ _ _ q)
  have run := F.go X.A X.stack s H ⟨us, []⟩ (us ++ ds) (vs ++ dvs) Q Ec gu ro J.env0 (bi s us J.kIn n) both q
  refine wpAny_call (codeAny_mono run ?_)
  intro res s2 h2
  match res, h2 with
  | .error e, h2 => exact px pins σ H s e s2 J h2
  | .ok (.ret _), h2 => exact J.after h2
  | .ok .next, h2 => exact h2.elim
  | .ok .brk, h2 => exact h2.elim
  | .ok .cont, h2 => exact h2.elim
/-- f(a, ..) -/
theorem pe_callG {x : Str} {e : Expr} {es : List Expr} {p pos : Pos} {t : TA} (F : FnG X.prog X.w X.K X.mg X.base CX k f fd ps sp) (gu : X.A.guards = some []) (ro : Room k X.A) (gl : Gl X x) (mgx : X.mg x = some (.ref f)) (kp : PySem.W.keepIn X.K (.ref f) = true)
    (bi : Binds X.K fd ps ds) (dd : Vals dvs ds) (px : Passes CX X Ec) (args : PA X (e :: es) t) (db : (x == ("__debug__" : Str)) = false := by decide)
    (st : starEach (e :: es) X.env = (false, eval e X.env) :: starEach es X.env := by rfl) (ns : (backTo pos (starEach es X.env)).any (·.1) = false := by rfl) : PE X (.Call (.Name x p) (e :: es) [] pos) (tCall sp dvs Ec t) := by
  constructor
  intro pins s σ H Q J h
  apply wpAny_Call_Name_kw
  apply ld_glob J gl mgx _ db
  refine PySem.W.callWith_K (h₀ := X.base) J.ok.mod.kin kp ?_ st ns
  refine thn (args.run pos pins s σ H _ J h) ?_
  rintro us s1 ⟨vs, H1, J1, rv, q⟩
  exact ⟨J1.kIn, F.call gu ro bi dd px J1 rv q⟩
/-- f() -/
theorem pe_callG0 {x : Str} {p pos : Pos} (F : FnG X.prog X.w X.K X.mg X.base CX k f fd ps sp) (gu : X.A.guards = some []) (ro : Room k X.A) (gl : Gl X x) (mgx : X.mg x = some (.ref f)) (kp : PySem.W.keepIn X.K (.ref f) = true)
    (bi : Binds X.K fd ps ds) (dd : Vals dvs ds) (px : Passes CX X Ec) (db : (x == ("__debug__" : Str)) = false := by decide) : PE X (.Call (.Name x p) [] [] pos) (tCall sp dvs Ec tNil) := by
  constructor
  intro pins s σ H Q J h
  apply wpAny_Call_Name_kw
  apply ld_glob J gl mgx _ db
  exact PySem.W.callWith_K0 J.kIn kp (F.call (us := []) gu ro bi dd px J .nil h)
end
theorem de_call {x : Str} {e : Expr} {es : List Expr} {p pos : Pos} {sp : SpD} {dv : List D} {ws : WA} {j k : Nat} (c : Cal X.prog X.w X.K X.mg X.base k x sp dv) (gu : X.A.guards = some []) (hr : Room j X.A) (hk : k ≤ j) (hg : Gl X x) (ha : DA X E (e :: es) ws)
    (hdb : (x == ("__debug__" : Str)) = false := by decide) (he : starEach (e :: es) X.env = (false, eval e X.env) :: starEach es X.env := by rfl) (hpl : (backTo pos (starEach es X.env)).any (·.1) = false := by rfl) : DE X E (.Call (.Name x p) (e :: es) [] pos) (wCall sp dv ws) := by
  obtain ⟨f, fd, ps, ds, dvs, F, hm, hkp, hb, hd, hdv⟩ := c.ex
  exact PE.imp (pe_callG F gu (hr.mono hk) hg hm hkp hb hd pass0 ha (db := hdb) (st := he) (ns := hpl)) fun _ _ _ h => call_run hdv h
theorem de_call0 {x : Str} {p pos : Pos} {sp : SpD} {dv : List D} {j k : Nat} (c : Cal X.prog X.w X.K X.mg X.base k x sp dv) (gu : X.A.guards = some []) (hr : Room j X.A) (hk : k ≤ j) (hg : Gl X x) (hdb : (x == ("__debug__" : Str)) = false := by decide) : DE X E (.Call (.Name x p) [] [] pos) (wCall sp dv wNil) := by
  obtain ⟨f, fd, ps, ds, dvs, F, hm, hkp, hb, hd, hdv⟩ := c.ex
  refine PE.imp (pe_callG0 F gu (hr.mono hk) hg hm hkp hb hd pass0 (db := hdb)) fun σ H Q h => ?_
  obtain ⟨P, W, ρ, kr, kx, rfl, M, h, hkr, hx⟩ := h
  obtain ⟨_, q2⟩ := h
  exact ⟨P, W, _, _, _, rfl, M.bas, hdv _ _, q2, fun e he v W3 A rn => hkr _ _ he v W3 A.le (M.alc A) (rn.toR M A), fun x hx => hx.elim⟩

def rCl (K : PySem.W.Frag) (cl : List D → (EE → Prop) → Prop) : List V → Hp → VK → Prop := fun xs H Q => ∃ (P : PM K) (W : Wd) (ds : List D) (kt : EE → Prop), W.H = H ∧ Bas P W ∧ RdAll P W xs ds ∧ cl ds kt ∧
  ∀ e, kt e → ∀ v W', Alc P W W' → RelN P W W' v e → Q v W'.H
def CallD (X : Cx) (f : Value) (cl : List D → (EE → Prop) → Prop) : Prop := CallR X f (rCl X.K cl)
def wCB (cl : List D → (EE → Prop) → Prop) (ws : WA) : WE := fun ρ k kx => ws ρ (fun rs ρ1 => R.holds rs ρ1 ∧ cl (rs.map R.toD) (fun e => k e.toR ρ1)) kx
theorem cb_run {cl : List D → (EE → Prop) → Prop} {ws : WA} {K : PySem.W.Frag} {σ : St} {H : Hp} {Q : VK} (h : lift K E (wCB cl ws) σ H Q) : tCB (rCl K cl) (liftA K E ws) σ H Q := by
  obtain ⟨P, W, ρ, k, kx, rfl, M, h, hk, hx⟩ := h
  refine ⟨P, W, ρ, _, kx, rfl, M, h, fun rs ρ1 h1 vs W1 l1 M1 ra => ?_, hx⟩
  exact ⟨P, W1, _, _, rfl, M1.bas, ra.rd M1 h1.1, h1.2, fun e he v W' A rn => hk _ _ he v W' (l1.trans A.le) (M1.alc A) (rn.toR M1 A)⟩
theorem de_callB {x : Str} {id : String} {e : Expr} {es : List Expr} {p pos : Pos} {cl : List D → (EE → Prop) → Prop} {ws : WA} (hc : CallD X (.builtin id) cl) (hg : Gl X x) (hm : X.mg x = none) (hv : bootBuiltins x = some (.builtin id)) (ha : DA X E (e :: es) ws)
    (hn : x ≠ "__name__" := by decide) (hdb : (x == ("__debug__" : Str)) = false := by decide) (he : starEach (e :: es) X.env = (false, eval e X.env) :: starEach es X.env := by rfl) (hpl : (backTo pos (starEach es X.env)).any (·.1) = false := by rfl) :
    DE X E (.Call (.Name x p) (e :: es) [] pos) (wCB cl ws) := PE.imp (pe_callB hc hg hm hv ha (hn := hn) (hdb := hdb) (he := he) (hpl := hpl)) fun _ _ _ h => cb_run h
theorem de_callTy {x : Str} {T : String} {e : Expr} {es : List Expr} {p pos : Pos} {cl : List D → (EE → Prop) → Prop} {ws : WA} (hc : CallD X (.type T) cl) (hg : Gl X x) (hm : X.mg x = none) (hv : bootBuiltins x = some (.type T)) (ha : DA X E (e :: es) ws)
    (hn : x ≠ "__name__" := by decide) (hdb : (x == ("__debug__" : Str)) = false := by decide) (he : starEach (e :: es) X.env = (false, eval e X.env) :: starEach es X.env := by rfl) (hpl : (backTo pos (starEach es X.env)).any (·.1) = false := by rfl) :
    DE X E (.Call (.Name x p) (e :: es) [] pos) (wCB cl ws) := PE.imp (pe_callTy hc hg hm hv ha (hn := hn) (hdb := hdb) (he := he) (hpl := hpl)) fun _ _ _ h => cb_run h
/-- a built-in type's name as a value -/
theorem de_ty {x : Str} {T : String} {pos : Pos} (hg : Gl X x) (hm : X.mg x = none) (hv : bootBuiltins x = some (.type T)) (hn : x ≠ "__name__" := by decide) (hd : (x == ("__debug__" : Str)) = false := by decide) : DE X E (.Name x pos) (wC (.ty T)) :=
  de_c (v := .ty T) (pe_bltn hg hm hv rfl (hn := hn) (hd := hd)) fun _ _ => .ty T
end

def startD (N : List Str) (ds : List D) : Env := ds.map (fun d => some (.val d)) ++ List.replicate (N.length - ds.length) none
section
open PySem.Spec PyProof.Rows
variable {P : Program} {w : World} {K : PySem.W.Frag} {mg : Str → Option Value} {base : Heap}
abbrev CxB (P : Program) (w : World) (K : PySem.W.Frag) (mg : Str → Option Value) (base : Heap) (N : List Str) (qual : Str) (st : Stmt) (f : Addr) (cdv : Value) (A : Around) (outer : List PySem.Env) (s : Shared) (H : Hp) (E : XK) : Cx :=
  (cxOf CX0 P w K mg base N qual (defScope st) f cdv A outer s H E).nox
def Bdy (P : Program) (w : World) (K : PySem.W.Frag) (mg : Str → Option Value) (base : Heap) (N : List Str) (qual : Str) (st : Stmt) (f : Addr) (k : Nat) (b : WS) : Prop :=
  ∀ (cdv : Value) (A : Around) (outer : List PySem.Env) (s : Shared) (H : Hp) (E : XK), (CxB P w K mg base N qual st f cdv A outer s H E).A.guards = some [] → Room k (CxB P w K mg base N qual st f cdv A outer s H E).A →
    DSs (CxB P w K mg base N qual st f cdv A outer s H E) (fun _ => E0) (defBody st) b
theorem RpAll.slots {G : Sg} {Hi : Hp} : ∀ {vs : List V} {ds : List D} {i : Nat} {e : EE}, RpAll K G Hi vs ds → (ds.map fun d => some (EE.val d))[i]? = some (some e) → ∃ v d, e = .val d ∧ (vs.map some)[i]? = some (some v) ∧ Rp K G Hi v d
  | _, _, _, _, .nil, h => by simp at h
  | _, _, 0, _, .cons h _, e => by
    simp at e
    exact ⟨_, _, e.symm, rfl, h⟩
  | _, _, i + 1, _, .cons _ r, e => by
    obtain ⟨v, d, h1, h2, h3⟩ := RpAll.slots (i := i) r (by simpa using e)
    exact ⟨v, d, h1, by simpa using h2, h3⟩
/-- the context of a callee: the caller's, its entry the world at the call -/
def PM.at (P : PM K) (W : Wd) (b : Bas P W) : PM K where
  G := P.G
  W0 := W
  hv := fun a h => ⟨P.hx _ b.inv a h, b.own a (P.hv a h).1 (P.hv a h).2⟩
theorem Bas.at0 {P : PM K} {W : Wd} (b : Bas P W) : Bas (P.at W b) W := ⟨b.sub, Same.refl _, fun _ _ h _ => h, fun _ _ h => h, b.inv⟩
theorem Bas.back {P : PM K} {W W' : Wd} (b : Bas P W) (b' : Bas (P.at W b) W') : Alc P W W' := by
  refine ⟨b'.ext, ⟨b'.sub, Same.trans b.ext b'.ext, fun a o e z => b'.old a o (b.old a o e z) z, fun a h n => b'.own a ?_ (b.own a h n), b'.inv⟩, b'.old, b'.own⟩
  obtain ⟨o, e⟩ := h
  by_cases z : P.vol a
  · exact P.hx _ b.inv a z
  · exact ⟨o, b.old a o e z⟩
theorem OwnAt.back {P : PM K} {W W' : Wd} {a : Addr} {o : O} (b : Bas P W) (h : OwnAt (P.at W b) W' a o) : W.H a = none ∧ OwnAt P W' a o := by
  have h0 : W.H a = none := h.new0
  cases o with
  | lst xs => exact ⟨h0, b.new0 h0, h.2⟩
  | dct xs => exact ⟨h0, b.new0 h0, h.2⟩
theorem Mod.entry {P : PM K} {W : Wd} {vs : List V} {ds : List D} {N : List Str} (b : Bas P W) (r : RpAll K P.G W.Hi vs ds) : Mod (P.at W b) (start N vs) W (startD N ds) := by
  have hl := r.length
  have slots : ∀ (i : Nat) e, (startD N ds)[i]? = some (some e) → ∃ v d, e = .val d ∧ (start N vs)[i]? = some (some v) ∧ Rp K P.G W.Hi v d := fun i e h => by
    unfold startD at h
    by_cases hi : i < ds.length
    · rw [List.getElem?_append_left (by simpa using hi)] at h
      obtain ⟨v, d, h1, h2, h3⟩ := r.slots h
      refine ⟨v, d, h1, ?_, h3⟩
      unfold L2.start
      rw [List.getElem?_append_left (by simpa using hl ▸ hi)]
      exact h2
    · rw [List.getElem?_append_right (by simpa using hi)] at h
      rcases Nat.lt_or_ge (i - (ds.map fun d => some (EE.val d)).length) (N.length - ds.length) with z | z
      · rw [List.getElem?_replicate, if_pos z] at h
        cases h
      · rw [List.getElem?_replicate, if_neg (by omega)] at h
        cases h
  refine ⟨b.at0, ?_, fun i e h => ?_, fun i j o o' a h _ _ _ => ?_⟩
  · unfold startD L2.start
    rw [List.length_append, List.length_append, List.length_map, List.length_map, List.length_replicate, List.length_replicate, hl]
  · obtain ⟨v, d, rfl, h2, h3⟩ := slots i e h
    exact ⟨v, h2, h3⟩
  · obtain ⟨v, d, e, _⟩ := slots i _ h
    cases e
/-- a def by its body, said over the layer's readings -/
theorem fnG_of {CX : CXT} {x qual : Str} {st : Stmt} {f : Addr} {fd : FuncData} {N ps : List Str} {k : Nat} {sp : Sp} {pa : Arguments} {dvs : List V} {kws : List (Str × V)} (F : FunD K x qual pa (defBody st) (defScope st) dvs kws f fd) (S : FnScope N ps (defScope st)) (size : ∀ vs H Q E, sp vs H Q E → vs.length = ps.length)
    (body : ∀ (cdv : Value) (A : Around) (outer : List PySem.Env) (s : Shared) (H : Hp) (vs : List V) (Q : VK) (E : XK), (A.deeper (envOfC qual (defScope st) s.heap.objs.size f cdv)).guards = some [] → Room k (A.deeper (envOfC qual (defScope st) s.heap.objs.size f cdv)) → sp vs H Q E →
      ∃ t, PSs (cxOf CX P w K mg base N qual (defScope st) f cdv A outer s H E) (defBody st) t ∧ t { nx := fun _ H' => Q .non H', rt := Q } (L2.start N vs) H) : FnG P w K mg base CX (k + 1) f fd ps sp := by
  obtain ⟨oc, od, dV, kV, doc, pm, an, cdv, ct, osl, efd, lk, codeOk, _, _⟩ := F.ex
  subst efd
  constructor
  · exact size
  intro A outer s H args us vs Q E gu ro e0 bi rv want
  have n := size _ _ _ _ want
  have old : ∀ b o, base.get? b = some o → s.heap.get? b = some o := fun b o e => (e0.bs b o e).1
  have inK : K.In s.heap := e0.mod.kin.keeps old
  have noLim : s.heap.NoLimit := e0.mod.nolimit.keeps old
  apply codeAny_call_function ro.depth (inK _ _ lk) rfl S.co S.gen rfl (PySem.W.codeRec_of inK codeOk)
  apply bi
  apply wpAny_newFunctionEnv_cells S.kind
  · rintro ⟨y, u⟩ hy
    cases S.par y (List.of_mem_zip hy).1 with
    | inl q => exact Or.inl q
    | inr q => exact Or.inr ⟨q, PySem.W.cellsFrom_some _ _ _ (.inl q)⟩
  intro env he s1 inCall
  subst he
  constructor
  · exact noLim.keeps inCall.toInCall.keep
  apply codeAny_func
  obtain ⟨t, steps, q⟩ := body cdv A outer s H vs Q E gu (ro.deeper _) want
  have J := inv_start (CX := CX) (P := P) (w := w) (mg := mg) (qual := qual) (f := f) (cd := cdv) (E := E) S ro.hd e0 n rv inCall
  have go := steps.run [] s1 (L2.start N vs) H _ J q
  refine wpAny_mono go ?_ fun _ _ z => z
  intro fl s2 z
  match fl, z with
  | .ret u, ⟨v, σ2, H2, J2, r2, q2⟩ => exact ⟨v, H2, J2.os, J2.bare, J2.base, J2.hok, r2, q2⟩
  | .next, ⟨σ2, H2, J2, q2⟩ => exact ⟨V.non, H2, J2.os, J2.bare, J2.base, J2.hok, rfl, q2⟩
  | .brk, ⟨_, _, _, q2⟩ => exact (show False from q2).elim
  | .cont, ⟨_, _, _, q2⟩ => exact (show False from q2).elim
/-- THE RULE for a def (no exception leaves it) -/
theorem fn_hd {x qual : Str} {st : Stmt} {f : Addr} {fd : FuncData} {N ps : List Str} {k : Nat} {sp : SpD} {b : WS} {pa : Arguments} {dvs : List V} {kws : List (Str × V)} (F : FunD K x qual pa (defBody st) (defScope st) dvs kws f fd) (S : FnScope N ps (defScope st)) (len : ∀ ds kt kx, sp ds kt kx → ds.length = ps.length)
    (hb : Bdy P w K mg base N qual st f k b) (hw : ∀ ds kt, sp ds kt (fun _ => False) → b { nx := fun _ => kt (.val .non), rt := kt } (startD N ds)) (hx : ∀ ds kt kx, sp ds kt kx → sp ds kt (fun _ => False)) : FnG P w K mg base CX0 (k + 1) f fd ps (toSp K sp) := by
  refine fnG_of F S (fun vs H Q E h => ?_) (fun cdv A outer s H vs Q E gu hr h => ?_)
  · obtain ⟨P, W, ds, kt, kx, rfl, b, r, hs, _⟩ := h
    rw [r.length]
    exact len _ _ _ hs
  · obtain ⟨P, W, ds, kt, kx, rfl, b, r, hs, hk, _⟩ := h
    refine ⟨_, PSs.nox (hb cdv A outer s W.H E gu hr), ?_⟩
    refine ⟨P.at W b, W, _, _, rfl, Mod.entry b r, hw _ _ (hx _ _ _ hs), ⟨fun ρ' q σ' W' l M' => ?_, fun e q v W' l b' rr => ?_, fun _ q => q.elim, fun _ q => q.elim, fun σ' x ρ' q => q.elim⟩⟩
    · exact hk _ q .non W' (b.back M'.bas) (show Rp K P.G _ _ _ from .non)
    · refine hk _ q v W' (b.back b') ?_
      cases e with
      | val d => exact rr
      | own o =>
        obtain ⟨a, e, h⟩ := rr
        obtain ⟨h1, h2⟩ := h.back b
        exact ⟨a, e, h1, h2⟩
end
end HD

namespace HD
open PySem L2

/- ### plain data: equality, size, the library's form -/
mutual
def D.eqv : D → D → Bool
  | .non, .non => true
  | .bl a, .bl b => a == b
  | .bl a, .int j => (if a then 1 else 0) == j
  | .int i, .bl b => i == (if b then 1 else 0)
  | .int i, .int j => i == j
  | .str x, .str y => decide (x = y)
  | .list xs, .list ys => D.eqvs xs ys
  | .tup xs, .tup ys => D.eqvs xs ys
  | _, _ => false
def D.eqvs : List D → List D → Bool
  | [], [] => true
  | x :: xs, y :: ys => D.eqv x y && D.eqvs xs ys
  | _, _ => false
end
mutual
/-- plain, nested at most n deep, its texts of Unicode -/
def D.fits : D → Nat → Bool
  | .non, _ => true
  | .bl _, _ => true
  | .int _, _ => true
  | .str x, _ => x.cps.all (· < 0x110000)
  | .list xs, n + 1 => D.fitss xs n
  | .tup xs, n + 1 => D.fitss xs n
  | _, _ => false
def D.fitss : List D → Nat → Bool
  | [], _ => true
  | x :: xs, n => D.fits x n && D.fitss xs n
end
mutual
def D.py : D → PyData
  | .non => .none
  | .bl b => .bool b
  | .int i => .int i
  | .str x => .str x
  | .list xs => .list (D.pys xs)
  | .tup xs => .tuple (D.pys xs)
  | _ => .none
def D.pys : List D → List PyData
  | [] => []
  | x :: xs => D.py x :: D.pys xs
end
mutual
theorem D.py_eqv : ∀ (a b : D) (n m : Nat), a.fits n = true → b.fits m = true → PyData.eqv a.py b.py = a.eqv b
  | .non, b, _, _, _, hb => by cases b <;> first | rfl | (cases hb)
  | .bl x, b, _, _, _, hb => by cases b <;> first | rfl | (cases hb)
  | .int x, b, _, _, _, hb => by cases b <;> first | rfl | (cases hb)
  | .str x, b, _, _, _, hb => by
    cases b <;> first | rfl | (cases hb)
  | .list xs, b, 0, _, ha, _ => by cases ha
  | .tup xs, b, 0, _, ha, _ => by cases ha
  | .list xs, b, n + 1, m, ha, hb => by
    cases b <;> first | rfl | (cases hb) | skip
    rename_i ys
    cases m with
    | zero => cases hb
    | succ m =>
      simp only [D.fits] at ha hb
      simp only [D.py, PyData.eqv, D.eqv]
      exact D.py_eqvs xs ys n m ha hb
  | .tup xs, b, n + 1, m, ha, hb => by
    cases b <;> first | rfl | (cases hb) | skip
    rename_i ys
    cases m with
    | zero => cases hb
    | succ m =>
      simp only [D.fits] at ha hb
      simp only [D.py, PyData.eqv, D.eqv]
      exact D.py_eqvs xs ys n m ha hb
  | .dict _, _, _, _, ha, _ => by cases ha
  | .obj _ _, _, _, _, ha, _ => by cases ha
  | .hnd _, _, _, _, ha, _ => by cases ha
  | .ty _, _, _, _, ha, _ => by cases ha
  | .cls _, _, _, _, ha, _ => by cases ha
theorem D.py_eqvs : ∀ (a b : List D) (n m : Nat), D.fitss a n = true → D.fitss b m = true → PyData.eqvAll (D.pys a) (D.pys b) = D.eqvs a b
  | [], [], _, _, _, _ => by simp only [D.pys, PyData.eqvAll, D.eqvs]
  | [], _ :: _, _, _, _, _ => by simp [D.pys, PyData.eqvAll, D.eqvs]
  | _ :: _, [], _, _, _, _ => by simp [D.pys, PyData.eqvAll, D.eqvs]
  | x :: xs, y :: ys, n, m, ha, hb => by
    rw [D.fitss, Bool.and_eq_true] at ha hb
    simp only [D.pys, PyData.eqvAll, D.eqvs]
    rw [D.py_eqv x y n m ha.1 hb.1, D.py_eqvs xs ys n m ha.2 hb.2]
end
mutual
theorem D.py_can : ∀ (a : D) (n : Nat), a.fits n = true → a.py.canLay0 = true
  | .non, _, _ => rfl
  | .bl _, _, _ => rfl
  | .int _, _, _ => rfl
  | .str x, _, h => by
    simp only [D.fits] at h
    simp only [D.py, PyData.canLay0]
    exact h
  | .list xs, 0, h => by cases h
  | .tup xs, 0, h => by cases h
  | .list xs, n + 1, h => by
    simp only [D.fits] at h
    simp only [D.py, PyData.canLay0]
    exact D.pys_can xs n h
  | .tup xs, n + 1, h => by
    simp only [D.fits] at h
    simp only [D.py, PyData.canLay0]
    exact D.pys_can xs n h
  | .dict _, _, h => by cases h
  | .obj _ _, _, h => by cases h
  | .hnd _, _, h => by cases h
  | .ty _, _, h => by cases h
  | .cls _, _, h => by cases h
theorem D.pys_can : ∀ (a : List D) (n : Nat), D.fitss a n = true → PyData.canLayAll0 (D.pys a) = true
  | [], _, _ => by simp only [D.pys, PyData.canLayAll0]
  | x :: xs, n, h => by
    rw [D.fitss, Bool.and_eq_true] at h
    simp only [D.pys, PyData.canLayAll0, D.py_can x n h.1, D.pys_can xs n h.2, Bool.and_self]
end
mutual
theorem D.py_depth : ∀ (a : D) (n : Nat), a.fits n = true → a.py.depth ≤ n
  | .non, _, _ => Nat.zero_le _
  | .bl _, _, _ => Nat.zero_le _
  | .int _, _, _ => Nat.zero_le _
  | .str x, _, h => Nat.zero_le _
  | .list xs, 0, h => by cases h
  | .tup xs, 0, h => by cases h
  | .list xs, n + 1, h => by
    simp only [D.fits] at h
    simp only [D.py, PyData.depth]
    exact Nat.succ_le_succ (D.pys_depth xs n h)
  | .tup xs, n + 1, h => by
    simp only [D.fits] at h
    simp only [D.py, PyData.depth]
    exact Nat.succ_le_succ (D.pys_depth xs n h)
  | .dict _, _, h => by cases h
  | .obj _ _, _, h => by cases h
  | .hnd _, _, h => by cases h
  | .ty _, _, h => by cases h
  | .cls _, _, h => by cases h
theorem D.pys_depth : ∀ (a : List D) (n : Nat), D.fitss a n = true → PyData.depthAll (D.pys a) ≤ n
  | [], _, _ => Nat.zero_le _
  | x :: xs, n, h => by
    rw [D.fitss, Bool.and_eq_true] at h
    simp only [D.pys, PyData.depthAll]
    exact Nat.max_le.mpr ⟨D.py_depth x n h.1, D.pys_depth xs n h.2⟩
end
theorem D.py_shaped {a : D} {n : Nat} (h : a.fits n = true) (hn : n ≤ 60) : SeqAt.shaped a.py = true := by
  unfold SeqAt.shaped
  rw [D.py_can a n h, Bool.true_and]
  exact decide_eq_true (Nat.le_trans (D.py_depth a n h) (by omega))

section
variable {K : PySem.W.Frag} {G : Sg} {Hi H : Hp}
mutual
theorem Rp.dp (hl : ∀ a vs, Hi a = some (.lst vs) → H a = some (.lst vs)) (ht : ∀ a vs, SqT K Hi a vs → SqT K H a vs) : ∀ {v : V} {d : D} {n : Nat}, d.fits n = true → Rp K G Hi v d → Dp K H v d.py
  | _, _, _, _, .non => .non
  | _, _, _, _, .bl b => .bl b
  | _, _, _, _, .int i => .int i
  | _, _, _, _, .str x => .str x
  | _, _, 0, h, .lst _ _ => by cases h
  | _, _, n + 1, h, .lst e r => .lst (SqL.of (hl _ _ e)) (RpAll.dp hl ht (n := n) (by simp only [D.fits] at h; exact h) r)
  | _, _, 0, h, .tup _ _ => by cases h
  | _, _, n + 1, h, .tup e r => .tup (ht _ _ e) (RpAll.dp hl ht (n := n) (by simp only [D.fits] at h; exact h) r)
theorem RpAll.dp (hl : ∀ a vs, Hi a = some (.lst vs) → H a = some (.lst vs)) (ht : ∀ a vs, SqT K Hi a vs → SqT K H a vs) : ∀ {v : List V} {d : List D} {n : Nat}, D.fitss d n = true → RpAll K G Hi v d → DpAll K H v (D.pys d)
  | _, _, _, _, .nil => .nil
  | _, _, n, h, .cons e r => by
    rw [D.fitss, Bool.and_eq_true] at h
    exact .cons (Rp.dp hl ht h.1 e) (RpAll.dp hl ht h.2 r)
end
end
section
variable {K : PySem.W.Frag} {P : PM K} {W : Wd} {v : V} {d : D}
theorem Bas.hl (b : Bas P W) : ∀ a vs, W.Hi a = some (.lst vs) → W.H a = some (.lst vs) := fun a vs e => by
  rcases b.sub a _ e with h | ⟨_, z, _⟩
  · exact h
  · cases z
theorem Bas.ht (b : Bas P W) : ∀ a vs, SqT K W.Hi a vs → SqT K W.H a vs := fun a vs e => by
  rcases e with (h | ⟨o, h⟩) | h
  · rcases b.sub a _ h with h | ⟨_, z, _⟩
    · exact .inl (.inl h)
    · cases z
  · rcases b.sub a _ h with h | ⟨_, z, _⟩
    · exact .inl (.inr ⟨o, h⟩)
    · cases z
  · exact .inr h
theorem RdD.dp (b : Bas P W) {n : Nat} (f : d.fits n = true) (h : RdD P W v d) : Dp K W.H v d.py := by
  rcases h with h | ⟨a, o, rfl, rfl, h⟩
  · exact h.dp b.hl b.ht f
  · cases o with
    | dct kvs => cases n <;> cases f
    | lst xs =>
      obtain ⟨_, _, vs, h1, r⟩ := h
      cases n with
      | zero => cases f
      | succ n =>
        refine .lst (SqL.of h1) (r.dp b.hl b.ht (n := n) ?_)
        simp only [O.toD, D.fits] at f
        exact f
end

abbrev OpS := D → D → (EE → Prop) → Prop
section
variable {X : Cx}
theorem OpD.mk {f : Value → Value → Sem Value} {op : OpS} (h : ∀ (pins : List (Addr × Obj)) (s : Shared) (σ : St) (P : PM X.K) (W : Wd) (x y : V) (v u : Value) (d1 d2 : D) (kt : EE → Prop) (Q : VK), Inv X pins σ W.H s → RelV x v → RelV y u → Bas P W → RdD P W x d1 → RdD P W y d2 → op d1 d2 kt →
    (∀ e, kt e → ∀ v W', Alc P W W' → RelN P W W' v e → Q v W'.H) → wpAny (model X.prog X.w) X.A (f v u) (EP X pins σ Q) X.xe s) : OpD X f op := by
  intro pins s σ H x y v u Q I rx ry q
  obtain ⟨P, W, d1, d2, kt, rfl, b, r1, r2, q, hk⟩ := q
  exact h pins s σ P W x y v u d1 d2 kt Q I rx ry b r1 r2 q hk
def oEq : OpS := fun a b k => a.fits 60 = true ∧ b.fits 60 = true ∧ k (.val (.bl (a.eqv b)))
def oNe : OpS := fun a b k => a.fits 60 = true ∧ b.fits 60 = true ∧ k (.val (.bl (!a.eqv b)))
theorem od_eq (hu : X.A.units + 64 < cLine) : OpD X (compareOp .Eq) oEq := OpD.mk fun pins s σ P W x y v u d1 d2 kt Q I rx ry b r1 r2 q hk => by
  obtain ⟨f1, f2, q⟩ := q
  refine op_eqD hu pins s σ W.H x y v u Q I rx ry ⟨_, _, r1.dp b f1, r2.dp b f2, D.py_shaped f1 (by omega), D.py_shaped f2 (by omega), ?_⟩
  rw [D.py_eqv d1 d2 60 60 f1 f2]
  exact hk _ q _ W (.refl b) (Rp.bl _)
theorem od_ne (hu : X.A.units + 64 < cLine) : OpD X (compareOp .NotEq) oNe := OpD.mk fun pins s σ P W x y v u d1 d2 kt Q I rx ry b r1 r2 q hk => by
  obtain ⟨f1, f2, q⟩ := q
  refine op_neD hu pins s σ W.H x y v u Q I rx ry ⟨_, _, r1.dp b f1, r2.dp b f2, D.py_shaped f1 (by omega), D.py_shaped f2 (by omega), ?_⟩
  rw [D.py_eqv d1 d2 60 60 f1 f2]
  exact hk _ q _ W (.refl b) (Rp.bl _)
theorem rd_int {K : PySem.W.Frag} {P : PM K} {W : Wd} {v : V} {i : Int} (h : RdD P W v (.int i)) : v = .int i := by cases rd_flat h (fun o => by cases o <;> (intro z; cases z)); rfl
theorem rd_str {K : PySem.W.Frag} {P : PM K} {W : Wd} {v : V} {i : Str} (h : RdD P W v (.str i)) : v = .str i := by cases rd_flat h (fun o => by cases o <;> (intro z; cases z)); rfl
theorem rd_bl {K : PySem.W.Frag} {P : PM K} {W : Wd} {v : V} {i : Bool} (h : RdD P W v (.bl i)) : v = .bl i := by cases rd_flat h (fun o => by cases o <;> (intro z; cases z)); rfl
theorem rd_non {K : PySem.W.Frag} {P : PM K} {W : Wd} {v : V} (h : RdD P W v .non) : v = .non := by cases rd_flat h (fun o => by cases o <;> (intro z; cases z)); rfl
theorem rd_ty {K : PySem.W.Frag} {P : PM K} {W : Wd} {v : V} {n : String} (h : RdD P W v (.ty n)) : v = .ty n := by cases rd_flat h (fun o => by cases o <;> (intro z; cases z)); rfl
/-- ints and texts compared -/
def oLt : OpS := fun a b k => match a, b with
  | .int i, .int j => k (.val (.bl (decide (i < j))))
  | .str x, .str y => k (.val (.bl (decide (x.cps.toList < y.cps.toList))))
  | _, _ => False
def oLe : OpS := fun a b k => match a, b with
  | .int i, .int j => k (.val (.bl (decide (i ≤ j))))
  | .str x, .str y => k (.val (.bl (!decide (y.cps.toList < x.cps.toList))))
  | _, _ => False
def oGt : OpS := fun a b k => match a, b with
  | .int i, .int j => k (.val (.bl (decide (j < i))))
  | _, _ => False
def oGe : OpS := fun a b k => match a, b with
  | .int i, .int j => k (.val (.bl (decide (j ≤ i))))
  | _, _ => False
theorem od_lt : OpD X (compareOp .Lt) oLt := OpD.mk fun pins s σ P W x y v u d1 d2 kt Q I rx ry b r1 r2 q hk => by
  cases d1 <;> cases d2 <;> first | exact q.elim | skip
  · cases rd_int r1; cases rd_int r2
    exact op_lt pins s σ W.H _ _ v u Q I rx ry ⟨_, _, rfl, rfl, hk _ q _ W (.refl b) (Rp.bl _)⟩
  · cases rd_str r1; cases rd_str r2
    exact op_lt_str pins s σ W.H _ _ v u Q I rx ry ⟨_, _, rfl, rfl, hk _ q _ W (.refl b) (Rp.bl _)⟩
theorem od_le : OpD X (compareOp .LtE) oLe := OpD.mk fun pins s σ P W x y v u d1 d2 kt Q I rx ry b r1 r2 q hk => by
  cases d1 <;> cases d2 <;> first | exact q.elim | skip
  · cases rd_int r1; cases rd_int r2
    exact op_le pins s σ W.H _ _ v u Q I rx ry ⟨_, _, rfl, rfl, hk _ q _ W (.refl b) (Rp.bl _)⟩
  · cases rd_str r1; cases rd_str r2
    exact op_le_str pins s σ W.H _ _ v u Q I rx ry ⟨_, _, rfl, rfl, hk _ q _ W (.refl b) (Rp.bl _)⟩
theorem od_gt : OpD X (compareOp .Gt) oGt := OpD.mk fun pins s σ P W x y v u d1 d2 kt Q I rx ry b r1 r2 q hk => by
  cases d1 <;> cases d2 <;> first | exact q.elim | skip
  cases rd_int r1; cases rd_int r2
  exact op_gt pins s σ W.H _ _ v u Q I rx ry ⟨_, _, rfl, rfl, hk _ q _ W (.refl b) (Rp.bl _)⟩
theorem od_ge : OpD X (compareOp .GtE) oGe := OpD.mk fun pins s σ P W x y v u d1 d2 kt Q I rx ry b r1 r2 q hk => by
  cases d1 <;> cases d2 <;> first | exact q.elim | skip
  cases rd_int r1; cases rd_int r2
  exact op_ge pins s σ W.H _ _ v u Q I rx ry ⟨_, _, rfl, rfl, hk _ q _ W (.refl b) (Rp.bl _)⟩
def oIs : OpS := fun a b k => b.eqv .non = true ∧ k (.val (.bl (a.eqv .non)))
def oIsNot : OpS := fun a b k => b.eqv .non = true ∧ k (.val (.bl (!a.eqv .non)))
theorem eqv_non {b : D} (h : b.eqv .non = true) : b = .non := by cases b <;> first | rfl | (simp [D.eqv] at h)
theorem rd_isnon {K : PySem.W.Frag} {P : PM K} {W : Wd} {v : V} {d : D} (h : RdD P W v d) : decide (v = .non) = d.eqv .non := by
  rcases h with h | ⟨a, o, rfl, rfl, h⟩
  · cases h <;> simp [D.eqv]
  · cases o <;> simp [D.eqv, O.toD]
theorem od_is : OpD X (compareOp .Is) oIs := OpD.mk fun pins s σ P W x y v u d1 d2 kt Q I rx ry b r1 r2 q hk => by
  cases eqv_non q.1
  cases rd_non r2
  refine op_isN pins s σ W.H _ _ v u Q I rx ry ⟨rfl, ?_⟩
  rw [rd_isnon r1]
  exact hk _ q.2 _ W (.refl b) (Rp.bl _)
theorem od_isnot : OpD X (compareOp .IsNot) oIsNot := OpD.mk fun pins s σ P W x y v u d1 d2 kt Q I rx ry b r1 r2 q hk => by
  cases eqv_non q.1
  cases rd_non r2
  refine op_notN pins s σ W.H _ _ v u Q I rx ry ⟨rfl, ?_⟩
  rw [rd_isnon r1]
  exact hk _ q.2 _ W (.refl b) (Rp.bl _)
def oAdd : OpS := fun a b k => match a, b with
  | .int i, .int j => k (.val (.int (i + j)))
  | .str x, .str y => x.length + y.length ≤ sizeLine ∧ k (.val (.str (x ++ y)))
  | .list xs, .list ys => xs.length + ys.length ≤ sizeLine ∧ k (.own (.lst (xs ++ ys)))
  | .tup xs, .tup ys => xs.length + ys.length ≤ sizeLine ∧ k (.val (.tup (xs ++ ys)))
  | _, _ => False
theorem od_add : OpD X (binaryOp .Add) oAdd := OpD.mk fun pins s σ P W x y v u d1 d2 kt Q I rx ry b r1 r2 q hk => by
  cases d1 <;> cases d2 <;> first | exact q.elim | skip
  · cases rd_int r1; cases rd_int r2
    exact op_add pins s σ W.H _ _ v u Q I rx ry ⟨_, _, rfl, rfl, hk _ q _ W (.refl b) (Rp.int _)⟩
  · cases rd_str r1; cases rd_str r2
    exact op_add_str pins s σ W.H _ _ v u Q I rx ry ⟨_, _, rfl, rfl, q.1, hk _ q.2 _ W (.refl b) (Rp.str _)⟩
  · obtain ⟨p1, xs, rfl, h1, a1⟩ := sqL_own r1 b
    obtain ⟨p2, ys, rfl, h2, a2⟩ := sqL_own r2 b
    refine op_cat pins s σ W.H _ _ v u Q I rx ry ⟨p1, p2, xs, ys, rfl, rfl, h1, h2, by rw [a1.length, a2.length]; exact q.1, fun p hp => ?_⟩
    have A := Alc.newOwn b hp (.lst (xs ++ ys))
    exact hk _ q.2 _ _ A ⟨p, rfl, hp, b.new0 hp, b.hiNone hp, _, upd_same, a1.append a2⟩
  · obtain ⟨p1, xs, rfl, h1, a1⟩ := sqT_rd r1 b
    obtain ⟨p2, ys, rfl, h2, a2⟩ := sqT_rd r2 b
    have lift1 : ∀ {a : Addr} {zs : List V} {ds : List D}, RdD P W (.ref a) (.tup ds) → SqT X.K W.H a zs → RpAll X.K P.G W.Hi zs ds → Rp X.K P.G W.Hi (.ref a) (.tup ds) := fun r _ _ => rd_flat r fun o => by cases o <;> (intro z; cases z)
    refine op_catA pins s σ W.H _ _ v u Q I rx ry ⟨p1, p2, xs, ys, rfl, rfl, h1, h2, by rw [a1.length, a2.length]; exact q.1, fun e => ?_, fun _ e => ?_, fun _ _ p hp => ?_⟩
    · subst e
      cases a1
      exact hk _ q.2 _ W (.refl b) (lift1 r2 h2 a2)
    · subst e
      cases a2
      exact hk _ q.2 _ W (.refl b) (by show Rp X.K P.G W.Hi _ (.tup (_ ++ [])); rw [List.append_nil]; exact lift1 r1 h1 a1)
    · have A := Alc.newVal b hp (.tup (xs ++ ys))
      exact hk _ q.2 _ _ A (Rp.tup (.inl (.inl upd_same)) ((a1.append a2).mono A.le))
def oSub : OpS := fun a b k => match a, b with
  | .int i, .int j => k (.val (.int (i - j)))
  | _, _ => False
theorem od_sub : OpD X (binaryOp .Sub) oSub := OpD.mk fun pins s σ P W x y v u d1 d2 kt Q I rx ry b r1 r2 q hk => by
  cases d1 <;> cases d2 <;> first | exact q.elim | skip
  cases rd_int r1; cases rd_int r2
  exact op_sub pins s σ W.H _ _ v u Q I rx ry ⟨_, _, rfl, rfl, hk _ q _ W (.refl b) (Rp.int _)⟩
def oMul : OpS := fun a b k => match a, b with
  | .int i, .int j => CMul i j ∧ k (.val (.int (i * j)))
  | .list xs, .int j => -(2 ^ 63) ≤ j ∧ j < 2 ^ 63 ∧ xs.length * j.toNat ≤ sizeLine ∧ k (.own (.lst (List.replicate j.toNat xs).flatten))
  | _, _ => False
theorem RpAll.rep {K : PySem.W.Frag} {G : Sg} {Hi : Hp} {vs : List V} {ds : List D} (r : RpAll K G Hi vs ds) : ∀ n : Nat, RpAll K G Hi (List.replicate n vs).flatten (List.replicate n ds).flatten
  | 0 => .nil
  | n + 1 => by
    rw [List.replicate_succ, List.replicate_succ, List.flatten_cons, List.flatten_cons]
    exact r.append (RpAll.rep r n)
theorem od_mul : OpD X (binaryOp .Mult) oMul := OpD.mk fun pins s σ P W x y v u d1 d2 kt Q I rx ry b r1 r2 q hk => by
  cases d1 <;> cases d2 <;> first | exact q.elim | skip
  · cases rd_int r1; cases rd_int r2
    exact op_mul pins s σ W.H _ _ v u Q I rx ry ⟨_, _, rfl, rfl, q.1, hk _ q.2 _ W (.refl b) (Rp.int _)⟩
  · rename_i ds j
    obtain ⟨p1, xs, rfl, h1, a1⟩ := sqL_own r1 b
    cases rd_int r2
    obtain ⟨q1, q2, q3, q⟩ := q
    refine op_rep pins s σ W.H _ _ v u Q I rx ry ⟨p1, _, xs, rfl, rfl, h1, q1, q2, by rw [a1.length]; exact q3, fun p hp => ?_⟩
    have A := Alc.newOwn b hp (.lst (List.replicate j.toNat xs).flatten)
    exact hk _ q _ _ A ⟨p, rfl, hp, b.new0 hp, b.hiNone hp, _, upd_same, a1.rep _⟩
def oMod : OpS := fun a b k => match a, b with
  | .int i, .int j => 0 < j ∧ k (.val (.int (i % j)))
  | _, _ => False
theorem od_mod : OpD X (binaryOp .Mod) oMod := OpD.mk fun pins s σ P W x y v u d1 d2 kt Q I rx ry b r1 r2 q hk => by
  cases d1 <;> cases d2 <;> first | exact q.elim | skip
  cases rd_int r1; cases rd_int r2
  exact op_mod pins s σ W.H _ _ v u Q I rx ry ⟨_, _, rfl, rfl, q.1, hk _ q.2 _ W (.refl b) (Rp.int _)⟩
def oDiv : OpS := fun a b k => match a, b with
  | .int i, .int j => CDiv i j ∧ k (.val (.int (i / j)))
  | _, _ => False
theorem od_div : OpD X (binaryOp .FloorDiv) oDiv := OpD.mk fun pins s σ P W x y v u d1 d2 kt Q I rx ry b r1 r2 q hk => by
  cases d1 <;> cases d2 <;> first | exact q.elim | skip
  cases rd_int r1; cases rd_int r2
  exact op_fdiv pins s σ W.H _ _ v u Q I rx ry ⟨_, _, rfl, rfl, q.1, hk _ q.2 _ W (.refl b) (Rp.int _)⟩
def oPow : OpS := fun a b k => match a, b with
  | .int i, .int j => CPow i j ∧ k (.val (.int (i ^ j.toNat)))
  | _, _ => False
theorem od_pow : OpD X (binaryOp .Pow) oPow := OpD.mk fun pins s σ P W x y v u d1 d2 kt Q I rx ry b r1 r2 q hk => by
  cases d1 <;> cases d2 <;> first | exact q.elim | skip
  cases rd_int r1; cases rd_int r2
  exact op_pow pins s σ W.H _ _ v u Q I rx ry ⟨_, _, rfl, rfl, q.1, hk _ q.2 _ W (.refl b) (Rp.int _)⟩
end
end HD

namespace HD
open PySem L2

abbrev WG := D → Env → (Env → Prop) → Prop
/-- σ' is σ but for slots of js -/
def Stays (js : List Nat) (σ σ' : St) : Prop := ∀ vs : List Nat, (∀ j ∈ js, j ∈ vs) → wipe σ' vs = wipe σ vs
def liftG (K : PySem.W.Frag) (js : List Nat) (wt : WG) : TG := fun v σ H Q => ∃ (P : PM K) (W : Wd) (ρ : Env) (d : D) (k : Env → Prop), W.H = H ∧ Mod P σ W ρ ∧ Rp K P.G W.Hi v d ∧ wt d ρ k ∧
  ∀ ρ', k ρ' → ∀ σ' W', W.le W' → W'.H = W.H → Mod P σ' W' ρ' → Stays js σ σ' → Q σ' W'.H
def DG (X : Cx) (js : List Nat) (tg : Expr) (wt : WG) : Prop := PG X tg (liftG X.K js wt)
abbrev WGs := List D → Env → (Env → Prop) → Prop
def liftGs (K : PySem.W.Frag) (js : List Nat) (wt : WGs) : TGs := fun vs σ H Q => ∃ (P : PM K) (W : Wd) (ρ : Env) (ds : List D) (k : Env → Prop), W.H = H ∧ Mod P σ W ρ ∧ RpAll K P.G W.Hi vs ds ∧ wt ds ρ k ∧
  ∀ ρ', k ρ' → ∀ σ' W', W.le W' → W'.H = W.H → Mod P σ' W' ρ' → Stays js σ σ' → Q σ' W'.H
def DGs (X : Cx) (js : List Nat) (tgs : List Expr) (wt : WGs) : Prop := PGs X tgs (liftGs X.K js wt)
theorem wipe_set_notin {σ : St} {i : Nat} {x : Option V} : ∀ {vs : List Nat}, wipe (σ.set i x) vs = if i ∈ vs then wipe σ vs else (wipe σ vs).set i x
  | [] => by simp [wipe]
  | v :: vs => by
    have ih := wipe_set_notin (σ := σ) (i := i) (x := x) (vs := vs)
    show (wipe (σ.set i x) vs).set v none = _
    rw [ih]
    by_cases h1 : i ∈ vs
    · rw [if_pos h1, if_pos (List.mem_cons_of_mem _ h1)]
      rfl
    · rw [if_neg h1]
      by_cases h2 : i = v
      · subst h2
        rw [if_pos List.mem_cons_self, List.set_set]
        rfl
      · rw [if_neg (by simp [h1, h2]), List.set_comm _ _ h2]
        rfl
theorem Stays.set {σ : St} {i : Nat} {x : Option V} : Stays [i] σ (σ.set i x) := fun vs h => by
  rw [wipe_set_notin, if_pos (h i List.mem_cons_self)]
theorem Stays.refl {σ : St} {js : List Nat} : Stays js σ σ := fun _ _ => rfl
theorem Stays.trans {σ σ1 σ2 : St} {js ks : List Nat} (a : Stays js σ σ1) (b : Stays ks σ1 σ2) : Stays (js ++ ks) σ σ2 := fun vs h =>
  (b vs fun j hj => h j (List.mem_append_right _ hj)).trans (a vs fun j hj => h j (List.mem_append_left _ hj))
section
variable {X : Cx} {E : St → XK}
def gNm (i : Nat) : WG := fun d ρ k => k (ρ.set i (some (.val d)))
theorem dg_name {i : Nat} {x : Str} {pos : Pos} (hN : X.N.Nodup) (hi : X.N[i]? = some x) (hx : Loc X.env.scope x) (hf : X.fn x = true ∨ X.env.scope.names.lookup x = some .local := by first | exact .inl rfl | exact .inr rfl | assumption) : DG X [i] (.Name x pos) (gNm i) := by
  refine ⟨fun pins s σ H v u Q I r h => (pg_name (i := i) hN hi hx hf).run pins s σ H v u Q I r ?_⟩
  obtain ⟨P, W, ρ, d, k, rfl, M, rp, h, hk⟩ := h
  exact hk _ h _ W W.le_refl rfl (M.set (e := .val d) rp) .set
def gsNil : WGs := fun ds ρ k => ds = [] ∧ k ρ
def gsCons (t : WG) (u : WGs) : WGs := fun ds ρ k => match ds with
  | [] => False
  | d :: ds => t d ρ fun ρ' => u ds ρ' k
theorem dgs_nil : DGs X [] [] gsNil := by
  refine ⟨fun pins s σ H vs us Q I r h => pgs_nil.run pins s σ H vs us Q I r ?_⟩
  obtain ⟨P, W, ρ, d, k, rfl, M, rp, ⟨rfl, h⟩, hk⟩ := h
  cases rp
  exact ⟨rfl, hk _ h σ W W.le_refl rfl M .refl⟩
theorem dgs_cons {e : Expr} {es : List Expr} {t : WG} {u : WGs} {js ks : List Nat} (h1 : DG X js e t) (h2 : DGs X ks es u) (hs : (assignEach (e :: es) X.env).map (·.2) = assign e X.env :: (assignEach es X.env).map (·.2) := by rfl) : DGs X (js ++ ks) (e :: es) (gsCons t u) := by
  refine ⟨fun pins s σ H vs us Q I r h => (pgs_cons h1 h2 hs).run pins s σ H vs us Q I r ?_⟩
  obtain ⟨P, W, ρ, ds, k, rfl, M, rp, h, hk⟩ := h
  cases rp with
  | nil => exact h.elim
  | cons r1 rr =>
    refine ⟨_, _, rfl, P, W, ρ, _, _, rfl, M, r1, h, fun ρ1 q1 σ1 W1 l1 e1 M1 s1 => ?_⟩
    rw [e1]
    rw [← e1]
    exact ⟨P, W1, ρ1, _, k, rfl, M1, rr.mono l1, q1, fun ρ2 q2 σ2 W2 l2 e2 M2 s2 => hk ρ2 q2 σ2 W2 (l1.trans l2) (e2.trans e1) M2 (s1.trans s2)⟩
def gTp (n : Nat) (u : WGs) : WG := fun d ρ k => match d with
  | .tup ds => ds.length = n ∧ u ds ρ k
  | _ => False
theorem dg_tup {es : List Expr} {kk : Nat} {pos : Pos} {u : WGs} {n : Nat} {js : List Nat} (hc : X.calm = true) (h : DGs X js es u) (hn : (assignEach es X.env).length = n := by rfl) (hst : (assignEach es X.env).findIdx? (·.1) = none := by rfl) : DG X js (.Tuple es kk pos) (gTp n u) := by
  refine ⟨fun pins s σ H v uu Q I r hh => (pg_tup hc h hn hst).run pins s σ H v uu Q I r ?_⟩
  obtain ⟨P, W, ρ, d, k, rfl, M, rp, h, hk⟩ := hh
  cases d <;> first | exact h.elim | skip
  obtain ⟨a, xs, rfl, hq, ra⟩ := sqT_rd (.inl rp) M.bas
  exact ⟨a, xs, rfl, hq, ra.length.trans h.1, P, W, ρ, _, k, rfl, M, ra, h.2, hk⟩
/-- target = e -/
def sAsg (we : WE) (wt : WG) : WS := fun D ρ => we ρ (fun r ρ' => wt r.toD (r.fz ρ') D.nx) D.xk
theorem ds_asg {tg e : Expr} {we : WE} {wt : WG} {js : List Nat} {pos : Pos} (he : DE X E e we) (hg : DG X js tg wt) (hs : swapsWithSole [tg] e pos.line X.env = pure false := by rfl) (hw : swappedStores [tg] e X.env = pure none := by rfl)
    (h1 : (assignEach [tg] X.env).map (·.2) = [assign tg X.env] := by rfl) : DS X E (.Assign [tg] e pos) (sAsg we wt) := by
  refine PS.imp (ps_asg he hg hs hw h1) ?_
  rintro D σ H ⟨P, W, ρ, Dd, rfl, M, h, ok⟩
  refine ⟨P, W, ρ, _, _, rfl, M, h, fun r ρ' q v W' l M' rr => ?_, ok.xk σ⟩
  obtain ⟨W2, e2, l2, M2, r2⟩ := rr.freeze M'
  rw [← e2]
  exact ⟨P, W2, _, _, _, rfl, M2, r2, q, fun ρ3 q3 σ3 W3 l3 e3 M3 _ => ok.nx _ q3 σ3 W3 ((l.trans l2).trans l3) M3⟩
end

section
variable {K : PySem.W.Frag} {P : PM K} {σ : St} {W : Wd} {ρ : Env} {p : Addr} {u : HO} {v : V}
def PM.hold (P : PM K) (p : Addr) (u : HO) (n : P.W0.H p = none ∧ P.W0.Hi p = none) : PM K where
  G := P.G
  W0 := ⟨P.W0.Hi, upd P.W0.H p u⟩
  hv := fun a h => by
    obtain ⟨⟨o, e⟩, q⟩ := P.hv a h
    exact ⟨⟨o, by show upd P.W0.H p u a = some o; rw [upd_ne (ne_of_none e n.1)]; exact e⟩, q⟩
variable {n : P.W0.H p = none ∧ P.W0.Hi p = none}
theorem PM.hold_none {a : Addr} : (P.hold p u n).W0.H a = none ↔ a ≠ p ∧ P.W0.H a = none := by
  show upd P.W0.H p u a = none ↔ _
  constructor
  · intro h
    by_cases z : a = p
    · rw [z, upd_same] at h
      cases h
    · exact ⟨z, by rw [upd_ne z] at h; exact h⟩
  · rintro ⟨z, h⟩
    rw [upd_ne z]
    exact h
theorem PM.hold_nvol (n : P.W0.H p = none ∧ P.W0.Hi p = none) : ¬ P.vol p := fun z => by
  obtain ⟨⟨o, e⟩, _⟩ := P.hv p z
  rw [n.1] at e
  cases e
theorem OwnAt.hold {a : Addr} {o : O} (h : OwnAt P W a o) (z : a ≠ p) : OwnAt (P.hold p u n) W a o := by
  cases o with
  | lst xs => exact ⟨PM.hold_none.mpr ⟨z, h.1⟩, h.2⟩
  | dct xs => exact ⟨PM.hold_none.mpr ⟨z, h.1⟩, h.2⟩
theorem OwnAt.unhold {a : Addr} {o : O} (h : OwnAt (P.hold p u n) W a o) : a ≠ p ∧ OwnAt P W a o := by
  have q := PM.hold_none.mp h.new0
  cases o with
  | lst xs => exact ⟨q.1, q.2, h.2⟩
  | dct xs => exact ⟨q.1, q.2, h.2⟩
theorem PM.hold_some {a : Addr} {o : HO} (n : P.W0.H p = none ∧ P.W0.Hi p = none) (e : P.W0.H a = some o) : (P.hold p u n).W0.H a = some o := by
  show upd P.W0.H p u a = some o
  rw [upd_ne (ne_of_none e n.1)]
  exact e
theorem Bas.unhold (b : Bas (P.hold p u n) W) : Bas P W ∧ W.H p = some u ∧ W.Hi p = none := by
  have e0 : (P.hold p u n).W0.H p = some u := upd_same
  exact ⟨⟨b.sub, b.ext, fun a o e z => b.old a o (PM.hold_some n e) z, fun a ⟨o, e⟩ q => b.own a ⟨o, PM.hold_some n e⟩ q, b.inv⟩, b.old p u e0 (show ¬ P.vol p from PM.hold_nvol n), b.own p ⟨u, e0⟩ n.2⟩
theorem Bas.hold (b : Bas P W) (e : W.H p = some u) (hi : W.Hi p = none) : Bas (P.hold p u n) W := by
  refine ⟨b.sub, b.ext, fun a o h z => ?_, fun a ⟨o, h⟩ q => ?_, b.inv⟩
  · have h' : upd P.W0.H p u a = some o := h
    by_cases y : a = p
    · rw [y, upd_same] at h'
      cases h'
      rw [y]
      exact e
    · rw [upd_ne y] at h'
      exact b.old a o h' z
  · have h' : upd P.W0.H p u a = some o := h
    by_cases y : a = p
    · rw [y]
      exact hi
    · rw [upd_ne y] at h'
      exact b.own a ⟨o, h'⟩ q
/-- no name's own object stands at p -/
def NotOwn (σ : St) (ρ : Env) (p : Addr) : Prop := ∀ (i : Nat) o', ρ[i]? = some (some (.own o')) → σ[i]? ≠ some (some (.ref p))
theorem Mod.hold (M : Mod P σ W ρ) (e : W.H p = some u) (hi : W.Hi p = none) (no : NotOwn σ ρ p) : Mod (P.hold p u n) σ W ρ := by
  refine ⟨M.bas.hold e hi, M.len, fun i e h => ?_, M.sep⟩
  obtain ⟨v, h1, h2⟩ := M.slot i e h
  refine ⟨v, h1, ?_⟩
  cases e with
  | val d => exact h2
  | own o =>
    obtain ⟨a, rfl, h3⟩ := h2
    exact ⟨a, rfl, h3.hold fun z => no i o h (z ▸ h1)⟩
theorem Mod.unhold (M : Mod (P.hold p u n) σ W ρ) : Mod P σ W ρ ∧ W.H p = some u ∧ W.Hi p = none ∧ NotOwn σ ρ p := by
  obtain ⟨b, h1, h2⟩ := M.bas.unhold
  refine ⟨⟨b, M.len, fun i e h => ?_, M.sep⟩, h1, h2, fun i o' h z => (M.ownAt h z).unhold.1 rfl⟩
  obtain ⟨v, h1, h2⟩ := M.slot i e h
  refine ⟨v, h1, ?_⟩
  cases e with
  | val d => exact h2
  | own o =>
    obtain ⟨a, rfl, h3⟩ := h2
    exact ⟨a, rfl, h3.unhold.2⟩
theorem RelR.unhold {r : R} (h : RelR (P.hold p u n) σ W ρ v r) : RelR P σ W ρ v r ∧ ∀ o, r = .own o → v ≠ .ref p := by
  cases r with
  | val d => exact ⟨h, fun _ z => by cases z⟩
  | own o =>
    obtain ⟨a, rfl, h1, h2⟩ := h
    obtain ⟨h3, h4⟩ := h1.unhold
    exact ⟨⟨a, rfl, h4, h2⟩, fun _ _ z => h3 (V.ref.inj z)⟩
  | brw i o => exact ⟨h, fun _ z => by cases z⟩
theorem Exc.hold {E : XK} {kx : D → Env → Prop} (h : Exc P σ E W kx) : Exc (P.hold p u n) σ E W kx := fun x ρ' q cls dd W' l M rx => h x ρ' q cls dd W' l M.unhold.1 (by
  cases x <;> first | exact rx | skip)
theorem Bas.holdN (b : Bas P W) (h0 : P.W0.H p = none) (hi : W.Hi p = none) : P.W0.H p = none ∧ P.W0.Hi p = none := ⟨h0, by
  cases e : P.W0.Hi p with
  | none => rfl
  | some o =>
    have := b.ext p o e
    rw [hi] at this
    cases this⟩
theorem OwnAt.at {o : O} (h : OwnAt P W p o) : ∃ u, W.H p = some u ∧ ∀ W', W.le W' → W'.H p = some u → W'.Hi p = none → OwnAt P W' p o := by
  obtain ⟨u, hu⟩ := h.there
  exact ⟨u, hu, fun W' l e n => h.keep l (e.trans hu.symm) n⟩
end

section
variable {X : Cx} {E : St → XK}
/-- a, b = x, y (plain locals, stored at once) -/
def sPar (i j : Nat) (wa wb : WE) : WS := fun D ρ => wa ρ (fun r1 ρ1 => wb (r1.entF ρ1) (fun r2 ρ2 => D.nx (((r2.entF ρ2).set i (some r1.ent)).set j (some r2.ent))) D.xk) D.xk
theorem ds_par {i j : Nat} {x y : Str} {a b : Expr} {wa wb : WE} {px py pt pos : Pos} {kt k2 : Nat} {pt2 : Pos} (hc : X.calm = true) (hN : X.N.Nodup) (hi : X.N[i]? = some x) (hj : X.N[j]? = some y) (hij : i ≠ j)
    (hx : X.env.scope.names.lookup x = some .local) (hy : X.env.scope.names.lookup y = some .local) (ha : DE X E a wa) (hb : DE X E b wb)
    (hw : swappedStores [.Tuple [.Name x px, .Name y py] kt pt] (.Tuple [a, b] k2 pt2) X.env = pure (some [x, y])) (hs1 : starEach [a, b] X.env = (false, eval a X.env) :: starEach [b] X.env := by rfl) (hs2 : starEach [b] X.env = (false, eval b X.env) :: starEach [] X.env := by rfl)
    (hs : swapsWithSole [.Tuple [.Name x px, .Name y py] kt pt] (.Tuple [a, b] k2 pt2) pos.line X.env = pure false := by rfl) :
    DS X E (.Assign [.Tuple [.Name x px, .Name y py] kt pt] (.Tuple [a, b] k2 pt2) pos) (sPar i j wa wb) := by
  refine PS.imp (ps_par hc hN hi hj hij hx hy (pa_cons ha (pa_cons hb pa_nil hs2) hs1) hw hs) ?_
  rintro D σ H ⟨P, W, ρ, Dd, rfl, M, h, ok⟩
  refine ⟨P, W, ρ, _, _, rfl, M, h, fun r1 ρ1 q1 v1 W1 l1 M1 rr1 => ?_, ok.xk σ⟩
  obtain ⟨W2, e2, l2, M2, s1⟩ := rr1.ent M1
  rw [← e2]
  -- the end, where both values are ready
  have fin : ∀ {e2 : EE} {ρ4 : Env} {v2 : V} {W4 : Wd}, W2.le W4 → Mod P σ W4 ρ4 → RelR P σ W4 ρ4 v2 e2.toR → RelR P σ W4 ρ4 v1 r1.ent.toR → (∀ o o', r1.ent = .own o → e2 = .own o' → v1 ≠ v2) → Dd.nx ((ρ4.set i (some r1.ent)).set j (some e2)) →
      D.nx ((σ.set i (some v1)).set j (some v2)) W4.H := fun {e2 ρ4 v2 W4} l4 M4 s2 t2 ne q => by
    have M5 := M4.set (i := i) t2
    have s3 : RelR P (σ.set i (some v1)) W4 (ρ4.set i (some r1.ent)) v2 e2.toR := by
      cases e2 with
      | val d => exact s2
      | own o2 =>
        obtain ⟨a2, rfl, h2, no2⟩ := s2
        refine ⟨a2, rfl, h2, fun k o' z y => ?_⟩
        rcases getElem?_set_some z with ⟨rfl, y2⟩ | ⟨nk, y2⟩
        · rcases getElem?_set_some y with ⟨_, y3⟩ | ⟨y3, _⟩
          · exact ne o' o2 (Option.some.inj y2).symm rfl (Option.some.inj y3).symm
          · exact y3 rfl
        · rw [List.getElem?_set_ne nk] at y
          exact no2 k o' y2 y
    exact ok.nx _ q _ W4 ((l1.trans l2).trans l4) (M5.set (i := j) s3)
  cases er : r1.ent with
  | val d =>
    refine ⟨P, W2, _, _, _, rfl, M2, q1, fun r2 ρ3 q2 v2 W3 l3 M3 rr2 => ?_, (ok.xk σ).le (l1.trans l2)⟩
    obtain ⟨W4, e4, l4, M4, s2⟩ := rr2.ent M3
    rw [← e4]
    refine ⟨v1, v2, rfl, fin (l3.trans l4) M4 s2 ?_ (fun o o' z => by rw [er] at z; cases z) q2⟩
    rw [er] at s1 ⊢
    exact Rp.mono (l3.trans l4) s1
  | own o =>
    rw [er] at s1
    obtain ⟨p, rfl, hp, no⟩ := s1
    obtain ⟨u, hu, back⟩ := hp.at
    have n := M2.bas.holdN hp.new0 hp.hi
    refine ⟨P.hold p u n, W2, _, _, _, rfl, M2.hold hu hp.hi no, q1, fun r2 ρ3 q2 v2 W3 l3 M3 rr2 => ?_, ((ok.xk σ).le (l1.trans l2)).hold⟩
    obtain ⟨W4, e4, l4, M4, s2⟩ := rr2.ent M3
    rw [← e4]
    obtain ⟨M4', g1, g2, g3⟩ := M4.unhold
    obtain ⟨s2', g4⟩ := s2.unhold
    refine ⟨.ref p, v2, rfl, fin (l3.trans l4) M4' s2' ?_ (fun o1 o' z z2 y => ?_) q2⟩
    · rw [er]
      exact ⟨p, rfl, back W4 (l3.trans l4) g1 g2, g3⟩
    · exact g4 o' (by rw [z2]; rfl) y.symm
end
end HD

namespace HD
open PySem L2

/-- behind W the walk J yields ds (as long as an own object that is walked stands) -/
def IterOk {K : PySem.W.Frag} (P : PM K) (σ : St) (J : It) (W : Wd) (ds : List D) (ho : Option (Nat × O)) : Prop :=
  ∀ W1, W.le W1 → Bas P W1 → (∀ i o, ho = some (i, o) → ∃ a, σ[i]? = some (some (.ref a)) ∧ OwnAt P W1 a o) → ∀ i : Nat,
    (i < ds.length → J.go i W1.H ∧ ∀ x H', J.yld i W1.H x H' → ∃ W2, W2.H = H' ∧ Alc P W1 W2 ∧ ∃ d, ds[i]? = some d ∧ Rp K P.G W2.Hi x d) ∧ (i = ds.length → J.stop i W1.H)
abbrev WI := Env → (List D → Option (Nat × O) → Env → Prop) → (D → Env → Prop) → Prop
def liftI (K : PySem.W.Frag) (E : St → XK) (wi : WI) : TI := fun σ H R => ∃ (P : PM K) (W : Wd) (ρ : Env) (k : List D → Option (Nat × O) → Env → Prop) (kx : D → Env → Prop), W.H = H ∧ Mod P σ W ρ ∧ wi ρ k kx ∧
  (∀ ds ho ρ', k ds ho ρ' → ∀ J W', W.le W' → Mod P σ W' ρ' → IterOk P σ J W' ds ho → R J W'.H) ∧ Exc P σ (E σ) W kx
def DI (X : Cx) (E : St → XK) (tg iter : Expr) (wi : WI) : Prop := PI X tg iter (liftI X.K E wi)
def iAny (K : PySem.W.Frag) (te : TE) : TI := fun σ H R => te σ H fun v H1 => (∃ a, v = .ref a ∧ (∃ xs, SqL K H1 a xs) ∧ R (Itl K a) H1) ∨ (∃ a, v = .ref a ∧ (∃ xs, SqT K H1 a xs) ∧ R (Itt K a) H1) ∨ ∃ x, v = .str x ∧ R (Its x) H1
section
open PySem.Spec PyProof.Rows
variable {X : Cx} {tg e : Expr} {te : TE}
/-- a list, a tuple, a text is walked -/
theorem pi_any (he : PE X e te) : PI X tg e (iAny X.K te) := by
  constructor
  intro pins s σ H R J h
  apply thn (he.run pins s σ H _ J h)
  rintro v s1 ⟨y, H1, J1, rv, q⟩
  have grown : ∀ o : Obj, L2.Inv X pins σ H1 { s1 with heap := s1.heap.push o } := fun o => J1.kept (t' := s1.toks) fun b u z => Heap.get?_push_of_some _ z
  have own1 : ∀ b ∈ [s1.heap.objs.size], FpOk X pins H1 b := fun b hb => by
    have z : b = s1.heap.objs.size := by simpa using hb
    rw [z]
    exact J1.fpOk (Nat.le_refl _) (J1.hok.fresh (Nat.le_refl _))
  rcases q with ⟨a, z, ⟨xs, sq⟩, q⟩ | ⟨a, z, ⟨xs, sq⟩, q⟩ | ⟨x, z, q⟩
  · subst z
    cases rv
    obtain ⟨its, _, pl, _⟩ := J1.list sq
    apply wpAny_pyIter_list pl.isList
    exact ⟨_, _, _, _, H1, rfl, grown _, turn_list a _, ⟨_, Heap.get?_push_size _ rfl, rfl, rfl⟩, own1, q⟩
  · subst z
    cases rv
    obtain ⟨its, _, tp, _⟩ := J1.tuple sq
    apply wpAny_pyIter_tuple (show s1.heap.IsTuple a its.toArray from tp)
    exact ⟨_, _, _, _, H1, rfl, grown _, turn_tuple a _, ⟨_, Heap.get?_push_size _ rfl, rfl, rfl⟩, own1, q⟩
  · subst z
    obtain ⟨t, rfl⟩ := rv
    cases asc : x.cps.all (· < 128) with
    | false =>
      apply wpAny_pyIter_wide asc
      exact ⟨_, _, _, _, H1, rfl, grown _, turn_str _ x t "str_iterator" (.inr rfl), ⟨_, Heap.get?_push_size _ rfl, rfl, rfl⟩, own1, q⟩
    | true =>
      apply wpAny_pyIter_ascii asc
      exact ⟨_, _, _, _, H1, rfl, grown _, turn_str _ x t "str_ascii_iterator" (.inl rfl), ⟨_, Heap.get?_push_size _ rfl, rfl, rfl⟩, own1, q⟩
end
/-- the items that a value yields -/
def itemsD : D → Option (List D)
  | .list xs => some xs
  | .tup xs => some xs
  | .str x => some (x.cps.toList.map fun c => .str ⟨#[c]⟩)
  | _ => none
def R.ho : R → Option (Nat × O)
  | .brw i o => some (i, o)
  | _ => none
def wIt (we : WE) : WI := fun ρ k kx => we ρ (fun r ρ1 => match itemsD r.toD with
  | some ds => k ds r.ho ρ1
  | none => False) kx
section
variable {X : Cx} {E : St → XK} {tg e : Expr} {we : WE}
theorem iter_lst {K : PySem.W.Frag} {P : PM K} {σ : St} {W : Wd} {a : Addr} {ds : List D} {ho : Option (Nat × O)} (h : ∀ W1, W.le W1 → Bas P W1 → (∀ i o, ho = some (i, o) → ∃ a, σ[i]? = some (some (.ref a)) ∧ OwnAt P W1 a o) → ∃ vs, SqL K W1.H a vs ∧ RpAll K P.G W1.Hi vs ds) : IterOk P σ (Itl K a) W ds ho := by
  intro W1 l b hh i
  obtain ⟨vs, sq, r⟩ := h W1 l b hh
  refine ⟨fun hi => ?_, fun hi => ⟨vs, sq, by rw [hi, r.length]; exact Nat.le_refl _⟩⟩
  obtain ⟨v, hv, rv⟩ := r.getD (List.getElem?_eq_getElem hi)
  refine ⟨⟨vs, v, sq, hv⟩, fun x H' y => ?_⟩
  obtain ⟨rfl, y⟩ := y
  have e := y vs sq
  rw [hv] at e
  cases e
  exact ⟨W1, rfl, .refl b, _, List.getElem?_eq_getElem hi, rv⟩
theorem iter_tup {K : PySem.W.Frag} {P : PM K} {σ : St} {W : Wd} {a : Addr} {ds : List D} {vs : List V} (sq : SqT K W.Hi a vs) (r : RpAll K P.G W.Hi vs ds) : IterOk P σ (Itt K a) W ds none := by
  intro W1 l b hh i
  have sq := b.ht _ _ (sqT_same l sq)
  have r := r.mono l
  refine ⟨fun hi => ?_, fun hi => ⟨vs, sq, by rw [hi, r.length]; exact Nat.le_refl _⟩⟩
  obtain ⟨v, hv, rv⟩ := r.getD (List.getElem?_eq_getElem hi)
  refine ⟨⟨vs, v, sq, hv⟩, fun x H' y => ?_⟩
  obtain ⟨rfl, y⟩ := y
  have e := y vs sq
  rw [hv] at e
  cases e
  exact ⟨W1, rfl, .refl b, _, List.getElem?_eq_getElem hi, rv⟩
theorem iter_str {K : PySem.W.Frag} {P : PM K} {σ : St} {W : Wd} {x : Str} : IterOk P σ (Its x) W (x.cps.toList.map fun c => .str ⟨#[c]⟩) none := by
  intro W1 l b hh i
  refine ⟨fun hi => ⟨(show i < x.cps.size by simpa using hi), fun v H' y => ?_⟩, fun hi => by show x.cps.size ≤ i; rw [hi]; simp⟩
  obtain ⟨rfl, c, e, rfl⟩ := y
  exact ⟨W1, rfl, .refl b, .str ⟨#[c]⟩, by simp [e], .str _⟩
theorem di_any (he : DE X E e we) : DI X E tg e (wIt we) := by
  refine ⟨fun pins s σ H R I h => (pi_any he).run pins s σ H R I ?_⟩
  obtain ⟨P, W, ρ, k, kx, rfl, M, h, hk, hx⟩ := h
  refine ⟨P, W, ρ, _, kx, rfl, M, h, fun r ρ1 h1 v W1 l1 M1 rr => ?_, hx⟩
  have h1' : (match itemsD r.toD with
    | some ds => k ds r.ho ρ1
    | none => False) := h1
  -- a new object of its own is known from now on
  have data : ∀ {W2 : Wd} {d : D}, W2.H = W1.H → W1.le W2 → Mod P σ W2 ρ1 → Rp X.K P.G W2.Hi v d → r.toD = d → r.ho = none → (∃ a, v = .ref a ∧ (∃ xs, SqL X.K W1.H a xs) ∧ R (Itl X.K a) W1.H) ∨ (∃ a, v = .ref a ∧ (∃ xs, SqT X.K W1.H a xs) ∧ R (Itt X.K a) W1.H) ∨ ∃ x, v = .str x ∧ R (Its x) W1.H := fun {W2 d} e2 l2 M2 rp ed en => by
    rw [ed, en] at h1'
    rw [← e2]
    cases rp with
    | lst z ra =>
      exact .inl ⟨_, rfl, ⟨_, SqL.of (M2.bas.hl _ _ z)⟩, hk _ _ _ h1' _ W2 (l1.trans l2) M2 (iter_lst fun W3 l3 b3 _ => ⟨_, SqL.of (b3.hl _ _ (l3 _ _ z)), ra.mono l3⟩)⟩
    | tup z ra => exact .inr (.inl ⟨_, rfl, ⟨_, M2.bas.ht _ _ z⟩, hk _ _ _ h1' _ W2 (l1.trans l2) M2 (iter_tup z ra)⟩)
    | str x => exact .inr (.inr ⟨_, rfl, hk _ _ _ h1' _ W2 (l1.trans l2) M2 iter_str⟩)
    | non => exact h1'.elim
    | bl b => exact h1'.elim
    | int b => exact h1'.elim
    | dic _ _ => exact h1'.elim
    | obj _ _ _ => exact h1'.elim
    | hnd _ => exact h1'.elim
    | ty _ => exact h1'.elim
    | cls _ => exact h1'.elim
  cases r with
  | val d => exact data rfl W1.le_refl M1 rr rfl rfl
  | own o =>
    obtain ⟨W2, e2, l2, M2, rp⟩ := RelR.freeze M1 rr
    exact data e2 l2 M2 rp rfl rfl
  | brw i o =>
    obtain ⟨a, u, z, h3⟩ : ∃ a, ∃ _ : True, v = .ref a ∧ OwnAt P W1 a o := by
      obtain ⟨v', g1, a, g2, g3⟩ := M1.slot i _ rr.2
      rw [rr.1] at g1
      cases g1
      exact ⟨a, True.intro, g2, g3⟩
    subst z
    cases o with
    | dct kvs => exact h1'.elim
    | lst xs =>
      obtain ⟨_, _, vs, h4, ra⟩ := id h3
      refine .inl ⟨a, rfl, ⟨vs, SqL.of h4⟩, hk _ _ _ h1' _ W1 l1 M1 (iter_lst fun W3 l3 b3 hh => ?_)⟩
      obtain ⟨c, g1, g2⟩ := hh i (.lst xs) rfl
      rw [rr.1] at g1
      cases g1
      obtain ⟨_, _, vs', g3, g4⟩ := g2
      exact ⟨vs', SqL.of g3, g4⟩
/-- range(..) -/
def wRng1 (we : WE) : WI := fun ρ k kx => we ρ (fun r ρ1 => match r with
  | .val (.int j) => (-(2 ^ 62) ≤ j ∧ j < 2 ^ 62) ∧ k ((List.range j.toNat).map fun i => .int (i : Nat)) none ρ1
  | _ => False) kx
theorem iter_rng {K : PySem.W.Frag} {P : PM K} {σ : St} {W : Wd} {lo : Int} {n : Nat} : IterOk P σ (Itr lo n) W ((List.range n).map fun (i : Nat) => .int (lo + i)) none := by
  intro W1 l b hh i
  refine ⟨fun hi => ⟨(show i < n by simpa using hi), fun v H' y => ?_⟩, fun hi => by show n ≤ i; rw [hi]; simp⟩
  obtain ⟨rfl, rfl⟩ := y
  exact ⟨W1, rfl, .refl b, .int (lo + i), by
    rw [List.getElem?_map, List.getElem?_range (by simpa using hi)]
    rfl, .int _⟩
theorem di_range1 {a : Expr} {wa : WE} {p pos : Pos} (hg : Gl X "range") (hm : X.mg "range" = none) (ha : DE X E a wa) (hs : starEach [a] X.env = [(false, eval a X.env)] := by rfl) : DI X E tg (.Call (.Name "range" p) [a] [] pos) (wRng1 wa) := by
  refine ⟨fun pins s σ H R I h => (pi_range1 hg hm (pa_cons ha pa_nil (by rw [hs]; rfl)) hs).run pins s σ H R I ?_⟩
  obtain ⟨P, W, ρ, k, kx, rfl, M, h, hk, hx⟩ := h
  refine ⟨P, W, ρ, _, kx, rfl, M, h, fun r ρ1 h1 v W1 l1 M1 rr => ?_, hx⟩
  cases r with
  | own o => exact h1.elim
  | brw i o => exact h1.elim
  | val d =>
    cases d <;> first | exact h1.elim | skip
    rename_i j
    cases rd_int (.inl rr)
    obtain ⟨⟨b1, b2⟩, h1⟩ := h1
    refine ⟨j, rfl, b1, b2, hk _ _ _ h1 _ W1 l1 M1 ?_⟩
    have := iter_rng (P := P) (σ := σ) (W := W1) (lo := 0) (n := j.toNat)
    simpa using this

def loopF (wt : WG) (b : WS) (D : Eds) : List HD.D → Env → Prop
  | [], ρ => D.nx ρ
  | d :: ds, ρ => wt d ρ fun ρ2 => b { D with nx := loopF wt b D ds, ct := loopF wt b D ds, bk := D.nx } ρ2
def sFor (wi : WI) (wt : WG) (b : WS) : WS := fun D ρ => wi ρ (fun ds ho ρ1 => ho = none ∧ loopF wt b D ds ρ1) D.xk
/-- .. over a name's own object: it is data from then on -/
def wFz (wi : WI) : WI := fun ρ k kx => wi ρ (fun ds ho ρ1 => match ho with
  | some (i, o) => k ds none (ρ1.set i (some (.val o.toD)))
  | none => k ds none ρ1) kx
theorem drop_cons {α : Type} {l : List α} {i : Nat} {x : α} (h : l[i]? = some x) : l.drop i = x :: l.drop (i + 1) := by
  obtain ⟨hi, e⟩ := List.getElem?_eq_some_iff.mp h
  rw [List.drop_eq_getElem_cons hi, e]
theorem ds_for {iter : Expr} {body : List Stmt} {wi : WI} {wt : WG} {b : WS} {js : List Nat} {pos : Pos} (hp : PassesOwn (model X.prog X.w) X.A X.env X.xe) (hc : X.calm = true) (hi : DI X E tg iter wi) (hg : DG X js tg wt) (hb : DSs X E body b)
    (hs : ∀ x, foldedSetIterable iter X.env x = pure x := by intro _; rfl) : DS X E (.For tg iter body [] pos) (sFor wi wt b) := by
  refine PS.imp (ps_for hp hc hi hg hb hs) ?_
  rintro D σ H ⟨P, W, ρ, Dd, rfl, M, h, ok⟩
  refine ⟨P, W, ρ, _, _, rfl, M, h, fun ds ho ρ1 q J W1 l1 M1 it => ?_, ok.xk σ⟩
  obtain ⟨rfl, q⟩ := q
  -- no own object is walked, so the walk hangs on no slot
  have it' : ∀ (σ' : St), IterOk P σ' J W1 ds none := fun σ' W2 l2 b2 _ i => it W2 l2 b2 (fun _ _ z => by cases z) i
  refine ⟨fun i m σ' H' => m = ds.length - i ∧ i ≤ ds.length ∧ ∃ W' ρ', W'.H = H' ∧ W1.le W' ∧ Mod P σ' W' ρ' ∧ loopF wt b Dd (ds.drop i) ρ', ⟨ds.length, by simp, Nat.zero_le _, W1, ρ1, rfl, W1.le_refl, M1, q⟩, ?_⟩
  rintro i m σ' H' ⟨rfl, hle, W', ρ', rfl, l', M', q'⟩
  obtain ⟨g, st⟩ := it' σ' W' l' M'.bas (fun _ _ z => by cases z) i
  by_cases hlt : i < ds.length
  · obtain ⟨go, step⟩ := g hlt
    refine .inr ⟨go, fun σ2 H2 => ∃ W2 ρ2, W2.H = H2 ∧ W1.le W2 ∧ Mod P σ2 W2 ρ2 ∧ loopF wt b Dd (ds.drop (i + 1)) ρ2, fun σ2 H2 ⟨W2, ρ2, a1, a2, a3, a4⟩ => ⟨ds.length - (i + 1), by omega, rfl, hlt, W2, ρ2, a1, a2, a3, a4⟩, fun x H2 y => ?_⟩
    obtain ⟨W2, rfl, A, d, hd, rp⟩ := step x H2 y
    rw [drop_cons hd] at q'
    have lW := l'.trans A.le
    refine ⟨P, W2, ρ', d, _, rfl, M'.alc A, rp, q', fun ρ3 q3 σ3 W3 l3 e3 M3 _ => ?_⟩
    refine ⟨P, W3, ρ3, _, rfl, M3, q3, ⟨fun ρ4 q4 σ4 W4 l4 M4 => ⟨W4, ρ4, rfl, (lW.trans l3).trans l4, M4, q4⟩, fun e q4 v W4 l4 b4 r4 => ok.rt e q4 v W4 (((l1.trans lW).trans l3).trans l4) b4 r4, fun ρ4 q4 σ4 W4 l4 M4 => ok.nx ρ4 q4 σ4 W4 (((l1.trans lW).trans l3).trans l4) M4, fun ρ4 q4 σ4 W4 l4 M4 => ⟨W4, ρ4, rfl, (lW.trans l3).trans l4, M4, q4⟩, fun σ4 => (ok.xk σ4).le ((l1.trans lW).trans l3)⟩⟩
  · have e : i = ds.length := by omega
    subst e
    rw [List.drop_length] at q'
    exact .inl ⟨st rfl, ok.nx _ q' σ' W' (l1.trans l') M'⟩

def loopW (c : WT) (b : WS) (D : Eds) : Nat → Env → Prop
  | 0, _ => False
  | n + 1, ρ => c ρ (fun v ρ1 => if v = true then b { D with nx := loopW c b D n, ct := loopW c b D n, bk := D.nx } ρ1 else D.nx ρ1) D.xk
def sWhile (c : WT) (b : WS) : WS := fun D ρ => ∃ n, loopW c b D n ρ
theorem ds_while {c : Expr} {body : List Stmt} {wc : WT} {b : WS} {pos : Pos} (hp : PassesOwn (model X.prog X.w) X.A X.env X.xe) (hc : DT X E c wc) (hb : DSs X E body b) : DS X E (.While c body [] pos) (sWhile wc b) := by
  refine PS.imp (ps_while hp hc hb) ?_
  rintro D σ H ⟨P, W, ρ, Dd, rfl, M, ⟨n, h⟩, ok⟩
  refine ⟨fun m σ' H' => ∃ W' ρ', W'.H = H' ∧ W.le W' ∧ Mod P σ' W' ρ' ∧ loopW wc b Dd m ρ', ⟨n, W, ρ, rfl, W.le_refl, M, h⟩, ?_⟩
  rintro m σ' H' ⟨W', ρ', rfl, l', M', q'⟩
  cases m with
  | zero => exact q'.elim
  | succ m =>
    refine ⟨P, W', ρ', _, _, rfl, M', q', fun v ρ1 q1 W1 l1 M1 => ?_, (ok.xk σ').le l'⟩
    cases v with
    | false => exact ok.nx _ q1 σ' W1 (l'.trans l1) M1
    | true =>
      refine ⟨fun σ2 H2 => ∃ W2 ρ2, W2.H = H2 ∧ W.le W2 ∧ Mod P σ2 W2 ρ2 ∧ loopW wc b Dd m ρ2, fun σ2 H2 z => ⟨m, Nat.lt_succ_self m, z⟩, ?_⟩
      refine ⟨P, W1, ρ1, _, rfl, M1, q1, ⟨fun ρ4 q4 σ4 W4 l4 M4 => ⟨W4, ρ4, rfl, (l'.trans l1).trans l4, M4, q4⟩, fun e q4 v W4 l4 b4 r4 => ok.rt e q4 v W4 ((l'.trans l1).trans l4) b4 r4, fun ρ4 q4 σ4 W4 l4 M4 => ok.nx ρ4 q4 σ4 W4 ((l'.trans l1).trans l4) M4, fun ρ4 q4 σ4 W4 l4 M4 => ⟨W4, ρ4, rfl, (l'.trans l1).trans l4, M4, q4⟩, fun σ4 => (ok.xk σ4).le (l'.trans l1)⟩⟩

def wipeE (ρ : Env) : List Nat → Env
  | [] => ρ
  | v :: vs => (wipeE ρ vs).set v none
/-- a turn: kn if the test fails, ky with the item if not -/
def turnC (vs : List Nat) (wt : WG) (c : WT) (el : WE) (ρ : Env) (d : D) (kn : Prop) (ky : D → Prop) : Prop :=
  wt d (wipeE ρ vs) fun ρ2 => wipeE ρ2 vs = wipeE ρ vs ∧ c ρ2 (fun v ρ3 => ρ3 = ρ2 ∧ if v = true then el ρ2 (fun r ρ4 => ρ4 = ρ2 ∧ r.ho = none ∧ ky r.toD) (fun _ _ => False) else kn) fun _ _ => False
def loopC (vs : List Nat) (wt : WG) (c : WT) (el : WE) (ρ : Env) (k : List D → Prop) : List D → List D → Prop
  | [], acc => k acc
  | d :: ds, acc => acc.length < sizeLine ∧ turnC vs wt c el ρ d (loopC vs wt c el ρ k ds acc) fun e => loopC vs wt c el ρ k ds (acc ++ [e])
/-- no name of vs bears an own object -/
def NoOwn (ρ : Env) : List Nat → Prop
  | [] => True
  | v :: vs => (match ρ[v]? with | some (some (.own _)) => False | _ => True) ∧ NoOwn ρ vs
def wLc (vs : List Nat) (wi : WI) (wt : WG) (c : WT) (el : WE) : WE := fun ρ k kx => wi ρ (fun ds ho ρ1 => (match ho with
  | some (i, o) => ρ1[i]? = some (some (.own o))
  | none => True) ∧ NoOwn ρ1 vs ∧ loopC vs wt c el ρ1 (fun acc => k (.own (.lst acc)) ρ1) ds []) kx
def tYesD : WT := fun ρ k _ => k true ρ
theorem Mod.wipe {K : PySem.W.Frag} {P : PM K} {σ : St} {W : Wd} {ρ : Env} (M : Mod P σ W ρ) : ∀ vs : List Nat, Mod P (wipe σ vs) W (wipeE ρ vs)
  | [] => M
  | _ :: vs => (Mod.wipe M vs).wipe1
end
end HD

namespace HD
open PySem L2
section
variable {K : PySem.W.Frag} {P : PM K} {σ σ2 : St} {W W' : Wd} {ρ ρ2 : Env} {p : Addr} {u : HO} {v : V}
theorem Bas.updAt (b : Bas P W) (h0 : P.W0.H p = none) (hi : W.Hi p = none) : Bas P ⟨W.Hi, upd W.H p u⟩ := by
  have nv : ¬ P.vol p := fun z => by
    obtain ⟨⟨o, e⟩, _⟩ := P.hv p z
    rw [h0] at e
    cases e
  refine ⟨fun a o e => ?_, b.ext, fun a o e z => ?_, b.own, P.hI _ _ (fun a z => upd_ne fun y => nv (y ▸ z)) b.inv⟩
  · have z : a ≠ p := ne_of_none e hi
    show upd W.H p u a = _ ∨ ∃ ks, o = .dK ks ∧ ∃ ob, upd W.H p u a = _
    rw [upd_ne z]
    exact b.sub a o e
  · show upd W.H p u a = some o
    rw [upd_ne (ne_of_none e h0)]
    exact b.old a o e z
/-- an object that no name owns is changed -/
theorem Mod.updAt (M : Mod P σ W ρ) (h0 : P.W0.H p = none) (hi : W.Hi p = none) (no : NotOwn σ ρ p) : Mod P σ ⟨W.Hi, upd W.H p u⟩ ρ := by
  refine ⟨M.bas.updAt h0 hi, M.len, fun i e h => ?_, M.sep⟩
  obtain ⟨v, h1, h2⟩ := M.slot i e h
  refine ⟨v, h1, ?_⟩
  cases e with
  | val d => exact h2
  | own o =>
    obtain ⟨a, rfl, h3⟩ := h2
    exact ⟨a, rfl, h3.keep (fun _ _ e => e) (upd_ne fun z => no i o h (z ▸ h1)) h3.hi⟩
theorem wipeE_length (ρ : Env) : ∀ vs, (wipeE ρ vs).length = ρ.length
  | [] => rfl
  | v :: vs => by unfold wipeE; rw [List.length_set, wipeE_length ρ vs]
theorem wipeE_out {i : Nat} : ∀ {vs : List Nat}, i ∉ vs → (wipeE ρ vs)[i]? = ρ[i]?
  | [], _ => rfl
  | v :: vs, h => by
    unfold wipeE
    rw [List.getElem?_set_ne fun z => h (by rw [z]; exact List.mem_cons_self)]
    exact wipeE_out fun z => h (List.mem_cons_of_mem _ z)
theorem wipe_in {i : Nat} {x : V} {vs : List Nat} (h : i ∈ vs) : (wipe σ vs)[i]? ≠ some (some x) := fun e => (wipe_some e).2 h
theorem wipe_twice : ∀ {vs ws : List Nat}, (∀ v ∈ vs, v ∈ ws) → wipe (wipe σ vs) ws = wipe σ ws
  | [], _, _ => rfl
  | v :: vs, ws, h => by
    show wipe ((wipe σ vs).set v none) ws = _
    rw [wipe_set_notin, if_pos (h v List.mem_cons_self)]
    exact wipe_twice fun x hx => h x (List.mem_cons_of_mem _ hx)
theorem NoOwn.at : ∀ {vs : List Nat}, NoOwn ρ vs → ∀ i ∈ vs, ∀ o, ρ[i]? ≠ some (some (.own o))
  | v :: vs, h, i, m, o, e => by
    rcases List.mem_cons.mp m with z | z
    · subst z
      have := h.1
      rw [e] at this
      exact this
    · exact NoOwn.at h.2 i z o e
/-- behind the block -/
theorem Mod.unwipe {vs : List Nat} (M0 : Mod P σ W ρ) (no : NoOwn ρ vs) (M2 : Mod P σ2 W' ρ2) (l : W.le W') (es : L2.wipe σ2 vs = L2.wipe σ vs) (er : wipeE ρ2 vs = wipeE ρ vs) : Mod P σ W' ρ := by
  have M3 := Mod.wipe M2 vs
  rw [es, er] at M3
  have out : ∀ {i o}, ρ[i]? = some (some (.own o)) → i ∉ vs := fun e z => no.at _ z _ e
  refine ⟨M2.bas, M0.len, fun i e h => ?_, M0.sep⟩
  by_cases z : i ∈ vs
  · obtain ⟨v, h1, h2⟩ := M0.slot i e h
    refine ⟨v, h1, ?_⟩
    cases e with
    | val d => exact Rp.mono l h2
    | own o => exact (out h z).elim
  · obtain ⟨v, h1, h2⟩ := M3.slot i e (by rw [wipeE_out z]; exact h)
    rw [wipe_out z] at h1
    exact ⟨v, h1, h2⟩
theorem NotOwn.unwipe {vs : List Nat} (no : NoOwn ρ vs) (h : NotOwn σ2 ρ2 p) (es : wipe σ2 vs = wipe σ vs) (er : wipeE ρ2 vs = wipeE ρ vs) : NotOwn σ ρ p := fun i o e z => by
  have hi : i ∉ vs := fun y => no.at _ y _ e
  have e2 : ρ2[i]? = some (some (.own o)) := by rw [← wipeE_out (ρ := ρ2) hi, er, wipeE_out hi]; exact e
  refine h i o e2 ?_
  rw [← wipe_out (σ := σ2) hi, es, wipe_out hi]
  exact z
end

/-- a judgement in a comprehension's block -/
abbrev EB : St → XK := fun _ _ _ _ => False
def BE (X : Cx) (scope : Scope) (e : Expr) (w : WE) : Prop := ∀ (s : Shared) (H : Hp) (C : Addr) (cl : List (Str × Addr)) (fp : List Addr), DE (X.blk s H scope (compEnvC scope cl C X.env) fp) EB e w
def BG (X : Cx) (scope : Scope) (js : List Nat) (e : Expr) (w : WG) : Prop := ∀ (s : Shared) (H : Hp) (C : Addr) (cl : List (Str × Addr)) (fp : List Addr), DG (X.blk s H scope (compEnvC scope cl C X.env) fp) js e w
def DTs (X : Cx) (E : St → XK) (ifs : List Expr) (w : WT) : Prop := PTs X ifs (liftT X.K E w)
def BTs (X : Cx) (scope : Scope) (ifs : List Expr) (w : WT) : Prop := ∀ (s : Shared) (H : Hp) (C : Addr) (cl : List (Str × Addr)) (fp : List Addr), DTs (X.blk s H scope (compEnvC scope cl C X.env) fp) EB ifs w
section
variable {X : Cx} {E : St → XK}
theorem dts_nil : DTs X E [] tYesD := by
  refine ⟨fun pins s σ H Q I h => pts_nil.run pins s σ H Q I ?_⟩
  obtain ⟨P, W, ρ, k, kx, rfl, M, h, hk, _⟩ := h
  exact hk _ _ h W W.le_refl M
theorem dts_one {c : Expr} {w : WT} (h : DT X E c w) : DTs X E [c] w := pts_one h
theorem lc_lift {K : PySem.W.Frag} {wi : WI} {wt : WG} {c : WT} {el : WE} {vs js : List Nat} (hj : ∀ j ∈ js, j ∈ vs) {σ : St} {H : Hp} {Q : VK} (h : lift K E (wLc vs wi wt c el) σ H Q) : tLc (liftI K E wi) (liftG K js wt) (liftT K EB c) (lift K EB el) vs σ H Q := by
  obtain ⟨P, W, ρ, k, kx, rfl, M, h, hk, hx⟩ := h
  refine ⟨P, W, ρ, _, kx, rfl, M, h, fun ds ho ρ1 q J W1 l1 M1 it D hD => ?_, hx⟩
  obtain ⟨hho, no, q⟩ := q
  have walk : ∀ W', W1.le W' → Mod P σ W' ρ1 → ∀ i : Nat, (i < ds.length → J.go i W'.H ∧ ∀ x H', J.yld i W'.H x H' → ∃ W2, W2.H = H' ∧ Alc P W' W2 ∧ ∃ d, ds[i]? = some d ∧ Rp K P.G W2.Hi x d) ∧ (i = ds.length → J.stop i W'.H) := fun W' l' M' => it W' l' M'.bas fun i o e => by
    subst e
    obtain ⟨v, h1, a, rfl, h3⟩ := M'.slot i _ hho
    exact ⟨a, h1, h3⟩
  have A0 := Alc.newOwn M1.bas hD (.lst [])
  refine ⟨fun i m H' => m = ds.length - i ∧ i ≤ ds.length ∧ ∃ W' acc, W'.H = H' ∧ W1.le W' ∧ Mod P σ W' ρ1 ∧ NotOwn σ ρ1 D ∧ OwnAt P W' D (.lst acc) ∧ loopC vs wt c el ρ1 (fun acc => k (.own (.lst acc)) ρ1) (ds.drop i) acc, ⟨ds.length, by simp, Nat.zero_le _, ⟨W1.Hi, upd W1.H D (.lst [])⟩, [], rfl, A0.le, M1.alc A0, fun i o e z => ?_, ⟨M1.bas.new0 hD, M1.bas.hiNone hD, [], upd_same, .nil⟩, q⟩, ?_⟩
  · obtain ⟨o', h'⟩ := (M1.ownAt e z).there
    rw [hD] at h'
    cases h'
  rintro i m H' ⟨rfl, hle, W', acc, rfl, l', M', nD, oD, q'⟩
  obtain ⟨g, st⟩ := walk W' l' M' i
  by_cases hlt : i < ds.length
  · obtain ⟨go, step⟩ := g hlt
    refine .inr ⟨go, fun H2 => ∃ W2 acc2, W2.H = H2 ∧ W1.le W2 ∧ Mod P σ W2 ρ1 ∧ NotOwn σ ρ1 D ∧ OwnAt P W2 D (.lst acc2) ∧ loopC vs wt c el ρ1 (fun acc => k (.own (.lst acc)) ρ1) (ds.drop (i + 1)) acc2, fun H2 ⟨W2, acc2, z⟩ => ⟨ds.length - (i + 1), by omega, rfl, hlt, W2, acc2, z⟩, fun x H2 y => ?_⟩
    obtain ⟨W2, rfl, A, d, hd, rp⟩ := step x H2 y
    rw [drop_cons hd] at q'
    obtain ⟨hsz, q'⟩ := q'
    have M2 := M'.alc A
    have o2 := oD.alc A
    obtain ⟨u, hu, back⟩ := o2.at
    have n := M2.bas.holdN o2.new0 o2.hi
    have Mh : Mod (P.hold D u n) σ W2 ρ1 := M2.hold hu o2.hi nD
    have lW := l'.trans A.le
    -- what is reached from a world behind the turn
    have fin : ∀ {σ3 : St} {W3 : Wd} {ρ3 : Env}, W2.le W3 → Mod (P.hold D u n) σ3 W3 ρ3 → wipe σ3 vs = wipe σ vs → wipeE ρ3 vs = wipeE ρ1 vs → Mod P σ W3 ρ1 ∧ NotOwn σ ρ1 D ∧ OwnAt P W3 D (.lst acc) := fun {σ3 W3 ρ3} l3 M3 es er => by
      obtain ⟨a1, a2, a3, a4⟩ := M3.unhold
      exact ⟨Mod.unwipe M2 no a1 l3 es er, NotOwn.unwipe no a4 es er, back W3 l3 a2 a3⟩
    refine ⟨P.hold D u n, W2, wipeE ρ1 vs, d, _, rfl, Mod.wipe Mh vs, rp, q', fun ρ2 q2 σ2 W3 l3 e3 M3 hst => ?_⟩
    obtain ⟨er2, q2⟩ := q2
    have es2 : wipe σ2 vs = wipe σ vs := by
      rw [hst vs hj, wipe_twice fun _ z => z]
    refine ⟨es2, P.hold D u n, W3, ρ2, _, _, rfl, M3, q2, fun b ρ3 q3 W4 l4 M4 => ?_, fun _ _ z => z.elim⟩
    obtain ⟨rfl, q3⟩ := q3
    cases b with
    | false =>
      obtain ⟨a1, a2, a3⟩ := fin (l3.trans l4) M4 es2 er2
      exact ⟨W4, acc, rfl, (lW.trans l3).trans l4, a1, a2, a3, q3⟩
    | true =>
      refine ⟨P.hold D u n, W4, ρ3, _, _, rfl, M4, q3, fun r ρ4 q4 v W5 l5 M5 rr => ?_, fun _ _ z => z.elim⟩
      obtain ⟨rfl, hr, q4⟩ := q4
      obtain ⟨W6, e6, l6, M6, r6⟩ := RelR.freeze M5 rr
      have efz : r.fz ρ4 = ρ4 := by
        cases r with
        | val d => rfl
        | own o => rfl
        | brw i o => cases hr
      rw [efz] at M6
      obtain ⟨a1, a2, a3⟩ := fin (((l3.trans l4).trans l5).trans l6) M6 es2 er2
      obtain ⟨b1, b2, vs6, b3, b4⟩ := a3
      rw [← e6]
      refine ⟨vs6, b3, ?_, ⟨W6.Hi, upd W6.H D (.lst (vs6 ++ [v]))⟩, acc ++ [r.toD], rfl, (((lW.trans l3).trans l4).trans l5).trans l6, a1.updAt b1 b2 a2, a2, ⟨b1, b2, _, upd_same, b4.append (.one r6)⟩, q4⟩
      rw [b4.length]
      exact hsz
  · have e : i = ds.length := by omega
    subst e
    rw [List.drop_length] at q'
    exact .inl ⟨st rfl, hk _ _ q' _ W' (l1.trans l') M' ⟨D, rfl, oD, nD⟩⟩
theorem de_lc {elt tg iter : Expr} {ifs : List Expr} {scope : Scope} {own : List (Str × Nat)} {pos : Pos} {wi : WI} {wt : WG} {c : WT} {el : WE} {js : List Nat} (hc : X.calm = true) (hN : X.N.Nodup) (hi : DI X E tg iter wi) (ok : BlkOk X.N X.env.scope scope own)
    (hj : ∀ j ∈ js, j ∈ own.map (·.2)) (hg : BG X scope js tg wt) (ht : BTs X scope ifs c) (he : BE X scope elt el) (hs : ∀ x, foldedSetIterable iter X.env x = pure x := by intro _; rfl) :
    DE X E (.ListComp elt [⟨tg, iter, ifs, 0⟩] scope pos) (wLc (own.map (·.2)) wi wt c el) :=
  PE.imp (pe_lc (g := liftG X.K js wt) (tt := liftT X.K EB c) (te := lift X.K EB el) hc hN hi ok hg ht he hs) fun σ H Q h => lc_lift hj h
theorem ds_setLc {i : Nat} {y : Str} {py : Pos} {elt tg iter : Expr} {ifs : List Expr} {scope : Scope} {own : List (Str × Nat)} {pos spos : Pos} {wi : WI} {wt : WG} {c : WT} {el : WE} {js : List Nat} (hc : X.calm = true) (hN : X.N.Nodup) (hy : X.N[i]? = some y) (hyl : X.env.scope.names.lookup y = some .local)
    (hsw : swapsWith (.ListComp elt [⟨tg, iter, ifs, 0⟩] scope pos) (some (.Name y py)) spos.line X.env = pure true) (hi : DI X E tg iter wi) (ok : BlkOk X.N X.env.scope scope own)
    (hj : ∀ j ∈ js, j ∈ own.map (·.2)) (hg : BG X scope js tg wt) (ht : BTs X scope ifs c) (he : BE X scope elt el) (hs : ∀ x, foldedSetIterable iter X.env x = pure x := by intro _; rfl) :
    DS X E (.Assign [.Name y py] (.ListComp elt [⟨tg, iter, ifs, 0⟩] scope pos) spos) (sSet i (wLc (own.map (·.2)) wi wt c el)) := by
  refine PS.imp (ps_setLc (g := liftG X.K js wt) (tt := liftT X.K EB c) (te := lift X.K EB el) hc hN hy hyl hsw hi ok hg ht he hs) ?_
  rintro D σ H ⟨P, W, ρ, Dd, rfl, M, h, ok⟩
  refine lc_lift (K := X.K) (E := E) hj ⟨P, W, ρ, _, _, rfl, M, h, fun r ρ' q v W' l M' rr => ?_, ok.xk σ⟩
  obtain ⟨W2, e2, l2, M2, r2⟩ := rr.ent M'
  have := ok.nx _ q (σ.set i (some v)) W2 (l.trans l2) (M2.set r2)
  rw [e2] at this
  exact this
end
end HD

namespace HD
open PySem L2
theorem rd_tup {K : PySem.W.Frag} {P : PM K} {W : Wd} {v : V} {xs : List D} (h : RdD P W v (.tup xs)) : Rp K P.G W.Hi v (.tup xs) := rd_flat h fun o => by cases o <;> (intro z; cases z)
theorem RpAll.atI {K : PySem.W.Frag} {G : Sg} {Hi : Hp} {vs : List V} {ds : List D} (r : RpAll K G Hi vs ds) {i : Int} {d : D} (h : L2.atI ds i = some d) : ∃ v, L2.atI vs i = some v ∧ Rp K G Hi v d := by
  unfold L2.atI at h ⊢
  rw [r.length]
  cases e : ixN ds.length i with
  | none => rw [e] at h; cases h
  | some j =>
    rw [e] at h
    exact r.getD h
def inD (a b : D) (k : Bool → Prop) : Prop := match b with
  | .str z => (match a with
    | .str x => x.cps.toList.length = 1 ∧ k (decide (x.cps.toList.headD 0 ∈ z.cps.toList))
    | _ => False)
  | .list ds => a.fits 60 = true ∧ D.fitss ds 59 = true ∧ k (ds.any fun z => z.eqv a)
  | .tup ds => a.fits 60 = true ∧ D.fitss ds 59 = true ∧ k (ds.any fun z => z.eqv a)
  | _ => False
def oIn : OpS := fun a b k => inD a b fun c => k (.val (.bl c))
def oNotIn : OpS := fun a b k => inD a b fun c => k (.val (.bl (!c)))
theorem any_py {a : D} {n : Nat} (ha : a.fits n = true) : ∀ {ds : List D} {m : Nat}, D.fitss ds m = true → ((D.pys ds).any fun z => PyData.eqv z a.py) = ds.any fun z => z.eqv a
  | [], _, _ => rfl
  | d :: ds, m, h => by
    rw [D.fitss, Bool.and_eq_true] at h
    show (PyData.eqv d.py a.py || (D.pys ds).any fun z => PyData.eqv z a.py) = (d.eqv a || ds.any fun z => z.eqv a)
    rw [D.py_eqv d a m n h.1 ha, any_py ha h.2]
section
variable {X : Cx} {E : St → XK}
theorem one_sign {x : Str} (h : x.cps.toList.length = 1) : x = ⟨#[x.cps.toList.headD 0]⟩ := by
  obtain ⟨⟨l⟩⟩ := x
  cases l with
  | nil => cases h
  | cons c l =>
    cases l with
    | nil => rfl
    | cons _ _ => cases h
theorem op_inT (hu : X.A.units + 65 < cLine) : OpR X (compareOp .In) (fun x y H Q => ∃ d ds, Dp X.K H x d ∧ Dp X.K H y (.tuple ds) ∧ SeqAt.shaped d = true ∧ SeqAt.shaped (.tuple ds) = true ∧ Q (.bl (ds.any fun z => PyData.eqv z d)) H) := by
  intro pins s σ H x y v u Q I rx ry h
  obtain ⟨d, ds, hd, he, sd, se, q⟩ := h
  obtain ⟨as, r1⟩ := Dp.reads I d x v hd rx
  obtain ⟨bs, r2⟩ := Dp.reads I (.tuple ds) y u he ry
  exact SeqAt.in_tuple_reads r2 r1 (SeqAt.canLay_of_shaped se) (SeqAt.canLay_of_shaped sd) (PyProof.Rows.room_in_shaped sd hu) ⟨.bl _, H, I, rfl, q⟩
theorem op_notInT (hu : X.A.units + 65 < cLine) : OpR X (compareOp .NotIn) (fun x y H Q => ∃ d ds, Dp X.K H x d ∧ Dp X.K H y (.tuple ds) ∧ SeqAt.shaped d = true ∧ SeqAt.shaped (.tuple ds) = true ∧ Q (.bl (!ds.any fun z => PyData.eqv z d)) H) := by
  intro pins s σ H x y v u Q I rx ry h
  obtain ⟨d, ds, hd, he, sd, se, q⟩ := h
  obtain ⟨as, r1⟩ := Dp.reads I d x v hd rx
  obtain ⟨bs, r2⟩ := Dp.reads I (.tuple ds) y u he ry
  exact SeqAt.notIn_tuple_reads r2 r1 (SeqAt.canLay_of_shaped se) (SeqAt.canLay_of_shaped sd) (PyProof.Rows.room_in_shaped sd hu) ⟨.bl _, H, I, rfl, q⟩
theorem od_in (hu : X.A.units + 65 < cLine) : OpD X (compareOp .In) oIn := OpD.mk fun pins s σ P W x y v u d1 d2 kt Q I rx ry b r1 r2 q hk => by
  cases d2 <;> first | exact q.elim | skip
  · cases d1 <;> first | exact q.elim | skip
    cases rd_str r1; cases rd_str r2
    obtain ⟨q1, q⟩ := q
    refine op_in_sign pins s σ W.H _ _ v u Q I rx ry ⟨_, _, congrArg V.str (one_sign q1), rfl, hk _ q _ W (.refl b) (Rp.bl _)⟩
  · obtain ⟨q1, q2, q⟩ := q
    rename_i ds
    have q3 : (D.list ds).fits 60 = true := q2
    refine op_inD hu pins s σ W.H x y v u Q I rx ry ⟨_, D.pys ds, r1.dp b q1, r2.dp b q3, D.py_shaped q1 (by omega), D.py_shaped q3 (by omega), ?_⟩
    rw [any_py q1 q2]
    exact hk _ q _ W (.refl b) (Rp.bl _)
  · obtain ⟨q1, q2, q⟩ := q
    rename_i ds
    have q3 : (D.tup ds).fits 60 = true := q2
    refine op_inT hu pins s σ W.H x y v u Q I rx ry ⟨_, D.pys ds, r1.dp b q1, r2.dp b q3, D.py_shaped q1 (by omega), D.py_shaped q3 (by omega), ?_⟩
    rw [any_py q1 q2]
    exact hk _ q _ W (.refl b) (Rp.bl _)
theorem od_notin (hu : X.A.units + 65 < cLine) : OpD X (compareOp .NotIn) oNotIn := OpD.mk fun pins s σ P W x y v u d1 d2 kt Q I rx ry b r1 r2 q hk => by
  cases d2 <;> first | exact q.elim | skip
  · cases d1 <;> first | exact q.elim | skip
    cases rd_str r1; cases rd_str r2
    obtain ⟨q1, q⟩ := q
    refine op_notIn_sign pins s σ W.H _ _ v u Q I rx ry ⟨_, _, congrArg V.str (one_sign q1), rfl, hk _ q _ W (.refl b) (Rp.bl _)⟩
  · obtain ⟨q1, q2, q⟩ := q
    rename_i ds
    have q3 : (D.list ds).fits 60 = true := q2
    refine op_notInD hu pins s σ W.H x y v u Q I rx ry ⟨_, D.pys ds, r1.dp b q1, r2.dp b q3, D.py_shaped q1 (by omega), D.py_shaped q3 (by omega), ?_⟩
    rw [any_py q1 q2]
    exact hk _ q _ W (.refl b) (Rp.bl _)
  · obtain ⟨q1, q2, q⟩ := q
    rename_i ds
    have q3 : (D.tup ds).fits 60 = true := q2
    refine op_notInT hu pins s σ W.H x y v u Q I rx ry ⟨_, D.pys ds, r1.dp b q1, r2.dp b q3, D.py_shaped q1 (by omega), D.py_shaped q3 (by omega), ?_⟩
    rw [any_py q1 q2]
    exact hk _ q _ W (.refl b) (Rp.bl _)
def oIx : OpS := fun a b k => match a, b with
  | .list ds, .int i => ∃ d, atI ds i = some d ∧ k (.val d)
  | .tup ds, .int i => ∃ d, atI ds i = some d ∧ k (.val d)
  | .str z, .int i => z.length ≤ sizeLine ∧ ∃ c, atI z.cps.toList i = some c ∧ k (.val (.str ⟨#[c]⟩))
  | _, _ => False
theorem ix_d : IxR X (rOp X.K oIx) := by
  intro value slice pins s σ H x y v u Q I rx ry q hs
  obtain ⟨P, W, d1, d2, kt, rfl, b, r1, r2, q, hk⟩ := q
  cases d1 <;> cases d2 <;> first | exact q.elim | skip
  · cases rd_str r1; cases rd_int r2
    obtain ⟨hz, c, hc, q⟩ := q
    exact ix_str value slice pins s σ W.H _ _ v u Q I rx ry ⟨_, _, c, rfl, rfl, hz, hc, hk _ q _ W (.refl b) (Rp.str _)⟩ hs
  · cases rd_int r2
    obtain ⟨d, hd, q⟩ := q
    obtain ⟨p, xs, rfl, h1, a1⟩ := sqL_own r1 b
    obtain ⟨w, hw, rw'⟩ := a1.atI hd
    exact ix_list value slice pins s σ W.H _ _ v u Q I rx ry ⟨_, _, _, w, rfl, rfl, SqL.of h1, hw, hk _ q _ W (.refl b) rw'⟩ hs
  · cases rd_int r2
    obtain ⟨d, hd, q⟩ := q
    obtain ⟨p, xs, rfl, h1, a1⟩ := sqT_rd r1 b
    obtain ⟨w, hw, rw'⟩ := a1.atI hd
    exact ix_tup value slice pins s σ W.H _ _ v u Q I rx ry ⟨_, _, _, w, rfl, rfl, h1, hw, hk _ q _ W (.refl b) rw'⟩ hs
theorem de_ix {a b : Expr} {wa wb : WE} {pos : Pos} (ha : DE X E a wa) (hb : DE X E b wb) (hs : PlainIx b := by intro _ _; rfl) : DE X E (.Subscript a b pos) (wBin oIx wa wb) := PE.imp (pe_ix ix_d ha hb hs) fun _ _ _ h => lift_bin h
def cutD (xs : List D) (lo hi : Option Int) : List D := (xs.drop (HT.sIx xs.length 0 lo)).take (HT.sIx xs.length xs.length hi - HT.sIx xs.length 0 lo)
theorem RpAll.cut {K : PySem.W.Frag} {G : Sg} {Hi : Hp} {vs : List V} {ds : List D} (r : RpAll K G Hi vs ds) (lo hi : Option Int) : RpAll K G Hi (cutV vs lo hi) (cutD ds lo hi) := by
  unfold cutV cutD
  rw [r.length]
  exact (r.drop _).take _
def oSl (d : D) (lo hi : Option Int) (k : EE → Prop) : Prop := match d with
  | .list ds => k (.own (.lst (cutD ds lo hi)))
  | .tup ds => k (.val (.tup (cutD ds lo hi)))
  | .str z => z.length ≤ sizeLine ∧ k (.val (.str (cutS z lo hi)))
  | _ => False
def rSlD (K : PySem.W.Frag) : V → Option Int → Option Int → Hp → VK → Prop := fun x lo hi H Q => ∃ (P : PM K) (W : Wd) (d : D) (kt : EE → Prop), W.H = H ∧ Bas P W ∧ RdD P W x d ∧ oSl d lo hi kt ∧ ∀ e, kt e → ∀ v W', Alc P W W' → RelN P W W' v e → Q v W'.H
theorem sl_d : SlR X (rSlD X.K) := by
  intro pins s σ H x v vl vu lo hi sl Q I rx hs pl pu h
  obtain ⟨P, W, d, kt, rfl, b, r, q, hk⟩ := h
  cases d <;> first | exact q.elim | skip
  · cases rd_str r
    exact sl_str pins s σ W.H _ v vl vu lo hi sl Q I rx hs pl pu ⟨_, rfl, q.1, hk _ q.2 _ W (.refl b) (Rp.str _)⟩
  · obtain ⟨p, xs, rfl, h1, a1⟩ := sqL_own r b
    refine sl_list pins s σ W.H _ v vl vu lo hi sl Q I rx hs pl pu ⟨p, xs, rfl, SqL.of h1, fun a ha => ?_⟩
    have A := Alc.newOwn b ha (.lst (cutV xs lo hi))
    exact hk _ q _ _ A ⟨a, rfl, ha, b.new0 ha, b.hiNone ha, _, upd_same, (a1.cut lo hi).mono A.le⟩
  · obtain ⟨p, xs, rfl, h1, a1⟩ := sqT_rd r b
    refine sl_tupA pins s σ W.H _ v vl vu lo hi sl Q I rx hs pl pu ⟨p, xs, rfl, h1, fun e => ?_, fun _ a ha => ?_⟩
    · refine hk _ q _ W (.refl b) ?_
      rename_i ds
      have e2 : cutD ds lo hi = ds := by
        unfold cutD
        rw [← a1.length, e.1, e.2, Nat.sub_zero, List.drop_zero, a1.length, List.take_length]
      show Rp X.K P.G W.Hi _ (.tup (cutD ds lo hi))
      rw [e2]
      exact rd_tup r
    · have A := Alc.newVal b ha (.tup (cutV xs lo hi))
      exact hk _ q _ _ A (Rp.tup (.inl (.inl upd_same)) ((a1.cut lo hi).mono A.le))
abbrev WO := Env → (Option Int → Env → Prop) → (D → Env → Prop) → Prop
def liftO (K : PySem.W.Frag) (E : St → XK) (w : WO) : TO := fun σ H Q => ∃ (P : PM K) (W : Wd) (ρ : Env) (k : Option Int → Env → Prop) (kx : D → Env → Prop), W.H = H ∧ Mod P σ W ρ ∧ w ρ k kx ∧
  (∀ b ρ', k b ρ' → ∀ W', W.le W' → Mod P σ W' ρ' → Q b W'.H) ∧ Exc P σ (E σ) W kx
def DO (X : Cx) (E : St → XK) (e : Option Expr) (w : WO) : Prop := PO X e (liftO X.K E w)
def wNoP : WO := fun ρ k _ => k none ρ
def wP (we : WE) : WO := fun ρ k kx => we ρ (fun r ρ1 => match r with
  | .val (.int i) => k (some i) ρ1
  | _ => False) kx
theorem PO.imp {e : Option Expr} {t t' : TO} (h : PO X e t) (i : ∀ σ H Q, t' σ H Q → t σ H Q) : PO X e t' := ⟨fun pins s σ H Q I q => h.run pins s σ H Q I (i σ H Q q)⟩
theorem do_none : DO X E none wNoP := by
  refine PO.imp po_none ?_
  rintro σ H Q ⟨P, W, ρ, k, kx, rfl, M, h, hk, _⟩
  exact hk _ _ h W W.le_refl M
theorem do_some {e : Expr} {we : WE} (he : DE X E e we) : DO X E (some e) (wP we) := by
  refine PO.imp (po_some he) ?_
  rintro σ H Q ⟨P, W, ρ, k, kx, rfl, M, h, hk, hx⟩
  refine ⟨P, W, ρ, _, kx, rfl, M, h, fun r ρ1 h1 v1 W1 l1 M1 rr1 => ?_, hx⟩
  cases r with
  | own o => exact h1.elim
  | brw i o => exact h1.elim
  | val d =>
    cases d <;> first | exact h1.elim | skip
    rename_i i
    have rr : Rp X.K P.G W1.Hi v1 (.int i) := rr1
    cases rr
    exact ⟨i, rfl, hk _ _ h1 W1 l1 M1⟩
def wSl (we : WE) (wl wh : WO) : WE := fun ρ k kx => we ρ (fun r ρ1 => wl ρ1 (fun lo ρ2 => wh ρ2 (fun hi ρ3 => r.hold ρ3 ∧ oSl r.toD lo hi (fun e => k e.toR ρ3)) kx) kx) kx
theorem de_sl {e : Expr} {lo hi : Option Expr} {we : WE} {wl wh : WO} {p2 pos : Pos} (he : DE X E e we) (hl : DO X E lo wl) (hh : DO X E hi wh) : DE X E (.Subscript e (.Slice lo hi none p2) pos) (wSl we wl wh) := by
  refine PE.imp (pe_slice sl_d he hl hh) ?_
  rintro σ H Q ⟨P, W, ρ, k, kx, rfl, M, h, hk, hx⟩
  refine ⟨P, W, ρ, _, kx, rfl, M, h, fun r ρ1 h1 v1 W1 l1 M1 rr1 => ?_, hx⟩
  obtain ⟨W2, e2, l2, M2, a1⟩ := rr1.nown M1
  refine ⟨P, W2, ρ1, _, kx, e2, M2, h1, fun i ρ2 h2 W3 l3 M3 => ?_, hx.le (l1.trans l2)⟩
  refine ⟨P, W3, ρ2, _, kx, rfl, M3, h2, fun j ρ3 h3 W4 l4 M4 => ?_, hx.le ((l1.trans l2).trans l3)⟩
  have x1 := (a1.le (l3.trans l4)).rd M4 (hold_nown h3.1)
  rw [R.nown_toD] at x1
  exact ⟨P, W4, _, _, rfl, M4.bas, x1, h3.2, fun e he v W' A rn => hk _ _ he v W' ((((l1.trans l2).trans l3).trans l4).trans A.le) (M4.alc A) (rn.toR M4 A)⟩
theorem CallD.mk {f : Value} {cl : List D → (EE → Prop) → Prop} (h : ∀ (pins : List (Addr × Obj)) (s : Shared) (σ : St) (P : PM X.K) (W : Wd) (xs : List V) (us : List Value) (ds : List D) (kt : EE → Prop) (Q : VK), Inv X pins σ W.H s → Vals xs us → Bas P W → RdAll P W xs ds → cl ds kt →
    (∀ e, kt e → ∀ v W', Alc P W W' → RelN P W W' v e → Q v W'.H) → wpAny (model X.prog X.w) X.A (call f us) (EP X pins σ Q) X.xe s) : CallD X f cl := by
  intro pins s σ H xs us Q I rx q
  obtain ⟨P, W, ds, kt, rfl, b, r, q, hk⟩ := q
  exact h pins s σ P W xs us ds kt Q I rx b r q hk
theorem RdAll.one {K : PySem.W.Frag} {P : PM K} {W : Wd} {vs : List V} {d : D} (h : RdAll P W vs [d]) : ∃ v, vs = [v] ∧ RdD P W v d := by
  cases h with
  | cons h r => cases r; exact ⟨_, rfl, h⟩
theorem RdAll.two {K : PySem.W.Frag} {P : PM K} {W : Wd} {vs : List V} {d e : D} (h : RdAll P W vs [d, e]) : ∃ v u, vs = [v, u] ∧ RdD P W v d ∧ RdD P W u e := by
  cases h with
  | cons h r => obtain ⟨u, rfl, g⟩ := r.one; exact ⟨_, _, rfl, h, g⟩
def cLen : List D → (EE → Prop) → Prop := fun ds k => match ds with
  | [.hnd 1] => ∀ n : Nat, n ≤ 63 → k (.val (.int n))
  | [.str x] => x.length ≤ sizeLine ∧ k (.val (.int x.length))
  | [.list xs] => k (.val (.int xs.length))
  | [.tup xs] => k (.val (.int xs.length))
  | _ => False
theorem cd_len : CallD X (.builtin "len") cLen := CallD.mk fun pins s σ P W xs us ds kt Q I rv b r q hk => by
  unfold cLen at q
  split at q <;> first | exact q.elim | skip
  · obtain ⟨v, rfl, r1⟩ := r.one
    cases rd_flat r1 (fun o => by cases o <;> (intro z; cases z)) with
    | hnd _ on =>
      have h := b.inv.2 on
      obtain ⟨h63, h⟩ := h
      have hs : SqL X.K W.H (P.G.hd 1) (P.G.ns.map V.int) := by
        split at h
        · obtain ⟨ob, h⟩ := h
          exact .inl (.inr ⟨ob, h⟩)
        · exact h _
      exact call_len pins s σ W.H _ us Q I rv ⟨_, P.G.ns.length, rfl, .inl ⟨_, hs, by rw [List.length_map]⟩, hk _ (q _ h63) _ W (.refl b) (Rp.int _)⟩
  · obtain ⟨v, rfl, r1⟩ := r.one
    cases rd_str r1
    exact call_len pins s σ W.H _ us Q I rv ⟨_, _, rfl, ⟨q.1, rfl⟩, hk _ q.2 _ W (.refl b) (Rp.int _)⟩
  · obtain ⟨v, rfl, r1⟩ := r.one
    obtain ⟨p, vs, rfl, h1, a1⟩ := sqL_own r1 b
    refine call_len pins s σ W.H _ us Q I rv ⟨_, vs.length, rfl, .inl ⟨_, SqL.of h1, rfl⟩, ?_⟩
    rw [a1.length]
    exact hk _ q _ W (.refl b) (Rp.int _)
  · obtain ⟨v, rfl, r1⟩ := r.one
    obtain ⟨p, vs, rfl, h1, a1⟩ := sqT_rd r1 b
    refine call_len pins s σ W.H _ us Q I rv ⟨_, vs.length, rfl, .inr ⟨_, h1, rfl⟩, ?_⟩
    rw [a1.length]
    exact hk _ q _ W (.refl b) (Rp.int _)
def boolsD : List D → Option (List Bool)
  | [] => some []
  | .bl b :: ds => (boolsD ds).map (b :: ·)
  | _ => none
theorem boolsD_rp {K : PySem.W.Frag} {G : Sg} {Hi : Hp} : ∀ {ds : List D} {vs : List V} {bs : List Bool}, boolsD ds = some bs → RpAll K G Hi vs ds → vs = bs.map V.bl
  | [], _, _, e, .nil => by cases e; rfl
  | .bl b :: ds, _, _, e, .cons h r => by
    have e' : (boolsD ds).map (b :: ·) = some _ := e
    cases z : boolsD ds with
    | none => rw [z] at e'; cases e'
    | some bs =>
      rw [z] at e'
      cases e'
      cases h
      rw [boolsD_rp z r]
      rfl
def cAll : List D → (EE → Prop) → Prop := fun ds k => match ds with
  | [.list xs] => ∃ bs, boolsD xs = some bs ∧ k (.val (.bl (bs.all id)))
  | _ => False
def cAny : List D → (EE → Prop) → Prop := fun ds k => match ds with
  | [.list xs] => ∃ bs, boolsD xs = some bs ∧ k (.val (.bl (bs.any id)))
  | _ => False
theorem cd_all (hc : X.calm = true) : CallD X (.builtin "all") cAll := CallD.mk fun pins s σ P W xs us ds kt Q I rv b r q hk => by
  unfold cAll at q
  split at q <;> first | exact q.elim | skip
  obtain ⟨v, rfl, r1⟩ := r.one
  obtain ⟨bs, e, q⟩ := q
  obtain ⟨p, vs, rfl, h1, a1⟩ := sqL_own r1 b
  rw [boolsD_rp e a1] at h1
  exact cr_all hc pins s σ W.H _ us Q I rv ⟨p, bs, rfl, SqL.of h1, hk _ q _ W (.refl b) (Rp.bl _)⟩
theorem cd_any (hc : X.calm = true) : CallD X (.builtin "any") cAny := CallD.mk fun pins s σ P W xs us ds kt Q I rv b r q hk => by
  unfold cAny at q
  split at q <;> first | exact q.elim | skip
  obtain ⟨v, rfl, r1⟩ := r.one
  obtain ⟨bs, e, q⟩ := q
  obtain ⟨p, vs, rfl, h1, a1⟩ := sqL_own r1 b
  rw [boolsD_rp e a1] at h1
  exact cr_any hc pins s σ W.H _ us Q I rv ⟨p, bs, rfl, SqL.of h1, hk _ q _ W (.refl b) (Rp.bl _)⟩
/-- a value's built-in type -/
def tyN : D → Option String
  | .non => some "NoneType"
  | .bl _ => some "bool"
  | .int _ => some "int"
  | .str _ => some "str"
  | .list _ => some "list"
  | .tup _ => some "tuple"
  | .dict _ => some "dict"
  | _ => none
theorem tyX_of {K : PySem.W.Frag} {P : PM K} {W : Wd} {v : V} {d : D} {n : String} (b : Bas P W) (r : RdD P W v d) (h : tyN d = some n) : TyX K W.H v (.type n) := by
  cases d <;> first | (cases h; done) | (cases h; skip)
  · cases rd_non r; exact .base .non
  · cases rd_bl r; exact .base (.bl _)
  · cases rd_int r; exact .base (.int _)
  · cases rd_str r; exact .base (.str _)
  · obtain ⟨p, vs, rfl, h1, _⟩ := sqL_own r b; exact .base (.lst h1)
  · obtain ⟨p, vs, rfl, h1, _⟩ := sqT_rd r b
    rcases h1 with (h1 | ⟨o, h1⟩) | ⟨o, its, n, e1, e2, _⟩
    · exact .base (.tup h1)
    · exact .fTuple h1
    · exact .kTuple e1 e2
  · obtain ⟨p, vs, rfl, h1, _⟩ := dct_rd r b
    rcases h1 with h1 | ⟨o, h1⟩
    · exact .base (.dK h1)
    · exact .fDict h1
def cIsi : List D → (EE → Prop) → Prop := fun ds k => match ds with
  | [d, .ty n] => ∃ m c, tyN d = some m ∧ kitB m n = some c ∧ k (.val (.bl c))
  | _ => False
theorem cd_isi : CallD X (.builtin "isinstance") cIsi := CallD.mk fun pins s σ P W xs us ds kt Q I rv b r q hk => by
  unfold cIsi at q
  split at q <;> first | exact q.elim | skip
  obtain ⟨v, u, rfl, r1, r2⟩ := r.two
  cases rd_ty r2
  obtain ⟨m, c, e1, e2, q⟩ := q
  exact call_isi pins s σ W.H _ us Q I rv ⟨v, .ty _, .type m, .type _, c, rfl, .ty _, tyX_of b r1 e1, kit_ty e2, hk _ q _ W (.refl b) (Rp.bl _)⟩
def cAbs : List D → (EE → Prop) → Prop := fun ds k => match ds with
  | [.int i] => k (.val (.int (if i < 0 then -i else i)))
  | _ => False
theorem cd_abs : CallD X (.builtin "abs") cAbs := CallD.mk fun pins s σ P W xs us ds kt Q I rv b r q hk => by
  unfold cAbs at q
  split at q <;> first | exact q.elim | skip
  obtain ⟨v, rfl, r1⟩ := r.one
  cases rd_int r1
  exact call_abs pins s σ W.H _ us Q I rv ⟨_, rfl, hk _ q _ W (.refl b) (Rp.int _)⟩
def cInt : List D → (EE → Prop) → Prop := fun ds k => match ds with
  | [.int i] => k (.val (.int i))
  | _ => False
theorem cd_int : CallD X (.type "int") cInt := CallD.mk fun pins s σ P W xs us ds kt Q I rv b r q hk => by
  unfold cInt at q
  split at q <;> first | exact q.elim | skip
  obtain ⟨v, rfl, r1⟩ := r.one
  cases rd_int r1
  exact call_int1 pins s σ W.H _ us Q I rv (.inl ⟨_, rfl, hk _ q _ W (.refl b) (Rp.int _)⟩)
def cMin : List D → (EE → Prop) → Prop := fun ds k => match ds with
  | [.int i, .int j] => k (.val (.int (if j < i then j else i)))
  | _ => False
def cMax : List D → (EE → Prop) → Prop := fun ds k => match ds with
  | [.int i, .int j] => k (.val (.int (if j > i then j else i)))
  | _ => False
theorem cd_min (hc : X.calm = true) : CallD X (.builtin "min") cMin := CallD.mk fun pins s σ P W xs us ds kt Q I rv b r q hk => by
  unfold cMin at q
  split at q <;> first | exact q.elim | skip
  obtain ⟨v, u, rfl, r1, r2⟩ := r.two
  cases rd_int r1
  cases rd_int r2
  exact call_min2 hc pins s σ W.H _ us Q I rv ⟨_, _, rfl, hk _ q _ W (.refl b) (Rp.int _)⟩
theorem cd_max (hc : X.calm = true) : CallD X (.builtin "max") cMax := CallD.mk fun pins s σ P W xs us ds kt Q I rv b r q hk => by
  unfold cMax at q
  split at q <;> first | exact q.elim | skip
  obtain ⟨v, u, rfl, r1, r2⟩ := r.two
  cases rd_int r1
  cases rd_int r2
  exact call_max2 hc pins s σ W.H _ us Q I rv ⟨_, _, rfl, hk _ q _ W (.refl b) (Rp.int _)⟩
def strsD : List D → Option (List Str)
  | [] => some []
  | .str b :: ds => (strsD ds).map (b :: ·)
  | _ => none
theorem strsD_rp {K : PySem.W.Frag} {G : Sg} {Hi : Hp} : ∀ {ds : List D} {vs : List V} {bs : List Str}, strsD ds = some bs → RpAll K G Hi vs ds → vs = bs.map V.str
  | [], _, _, e, .nil => by cases e; rfl
  | .str b :: ds, _, _, e, .cons h r => by
    have e' : (strsD ds).map (b :: ·) = some _ := e
    cases z : strsD ds with
    | none => rw [z] at e'; cases e'
    | some bs =>
      rw [z] at e'
      cases e'
      cases h
      rw [strsD_rp z r]
      rfl
def wJoin (wo we : WE) : WE := fun ρ k kx => wo ρ (fun r ρ1 => match r with
  | .val (.str a) => we ρ1 (fun r2 ρ2 => ∃ ys, (match r2.toD with
      | .list ds => strsD ds
      | .tup ds => strsD ds
      | _ => none) = some ys ∧ (ys.map (·.length)).sum + ys.length * a.length ≤ 16777216 ∧ k (.val (.str (Txt.join a ys))) ρ2) kx
  | _ => False) kx
theorem de_join {o e : Expr} {wo we : WE} {apos pos : Pos} (ho : DE X E o wo) (he : DE X E e we) (hs : starEach [e] X.env = [(false, eval e X.env)] := by rfl) (hbase : attributeBase o "join" X.env (eval o X.env) = eval o X.env := by rfl) (hline : (apos.endLine == pos.line) = true := by rfl) :
    DE X E (.Call (.Attribute o "join" apos) [e] [] pos) (wJoin wo we) := by
  refine PE.imp (pe_join ho he hs hbase hline) ?_
  rintro σ H Q ⟨P, W, ρ, k, kx, rfl, M, h, hk, hx⟩
  refine ⟨P, W, ρ, _, kx, rfl, M, h, fun r ρ1 h1 v1 W1 l1 M1 rr1 => ?_, hx⟩
  cases r with
  | own o => exact h1.elim
  | brw i o => exact h1.elim
  | val d =>
    cases d <;> first | exact h1.elim | skip
    rename_i a
    have rr : Rp X.K P.G W1.Hi v1 (.str a) := rr1
    cases rr
    refine ⟨⟨a, rfl⟩, P, W1, ρ1, _, kx, rfl, M1, h1, fun r2 ρ2 h2 v2 W2 l2 M2 rr2 => ?_, hx.le l1⟩
    obtain ⟨ys, e, hz, q⟩ := h2
    have rd := rr2.rd M2
    have fin := hk _ _ q (.str (Txt.join a ys)) W2 (l1.trans l2) M2 (Rp.str _)
    cases ed : r2.toD <;> rw [ed] at e rd <;> first | (cases e; done) | skip
    · obtain ⟨p, vs, rfl, g1, g2⟩ := sqL_own rd M2.bas
      rw [strsD_rp e g2] at g1
      exact ⟨a, p, ys, rfl, rfl, .inl (SqL.of g1), hz, fin⟩
    · obtain ⟨p, vs, rfl, g1, g2⟩ := sqT_rd rd M2.bas
      rw [strsD_rp e g2] at g1
      exact ⟨a, p, ys, rfl, rfl, .inr g1, hz, fin⟩
end
end HD

namespace HD
open PySem L2
/-- a number below n is drawn -/
def spTake : SpD := fun ds kt _ => ∃ n : Int, ds = [.hnd 0, .int n] ∧ 0 < n ∧ n ≤ 16777216 ∧ ∀ r : Int, 0 ≤ r → r < n → kt (.val (.int r))
section
variable {K : PySem.W.Frag} {P : PM K} {W : Wd} {H' : Hp}
theorem Bas.hiVol (b : Bas P W) {a : Addr} (z : P.vol a) : W.Hi a = none := b.own a (P.hv a z).1 (P.hv a z).2
theorem Alc.vol (b : Bas P W) (h : ∀ a, ¬ P.vol a → H' a = W.H a) (i : P.HI H') : Alc P W ⟨W.Hi, H'⟩ := by
  refine ⟨fun _ _ e => e, ⟨fun a o e => ?_, b.ext, fun a o e z => (h a z).trans (b.old a o e z), b.own, i⟩, fun a o e z => (h a z).trans e, fun _ _ n => n⟩
  have nv : ¬ P.vol a := fun z => by
    rw [show W.Hi a = none from b.hiVol z] at e
    cases e
  show H' a = _ ∨ ∃ ks, o = .dK ks ∧ ∃ ob, H' a = _
  rw [h a nv]
  exact b.sub a o e
end
abbrev mdR : R2 := rI (fun _ j => 0 < j) fun i j => .int (i % j)
abbrev inR : List V → Hp → VK → Prop := fun xs H Q => (∃ i, xs = [.int i] ∧ Q (.int i) H) ∨ ∃ k, xs = [.bl k] ∧ Q (.int (if k then 1 else 0)) H
abbrev lnR (K : PySem.W.Frag) : List V → Hp → VK → Prop := fun xs H Q => ∃ x n, xs = [x] ∧ LenV K x H n ∧ Q (.int n) H
abbrev adR : R2 := rI0 fun i j => .int (i + j)
abbrev mlR : R2 := rI CMul fun i j => .int (i * j)
abbrev fdR : R2 := rI CDiv fun i j => .int (i / j)
abbrev pwR : R2 := rI CPow fun i j => .int (i ^ j.toNat)
abbrev geR : R2 := rI0 fun i j => .bl (decide (j ≤ i))
/-- the steps of _law_take: draw, size, cells, at, cell, mixed -/
def tTake (K : PySem.W.Frag) : TS :=
  tSeq (tAsg (tOp (rIxL K) (tVar 0) (tC (.int 0))) (gName 2))
  (tSeq (tAsg (tOp mdR (tCB inR (tCons (tOp (rIxL K) (tVar 0) (tC (.int 1))) tNil)) (tCB (lnR K) (tCons (tVar 2) tNil))) (gName 3))
  (tSeq (tAsg (tOp (rIxL K) (tVar 2) (tVar 3)) (gName 4))
  (tSeq (tIfS (tTest (tOp geR (tVar 4) (tOp pwR (tC (.int 10)) (tC (.int 18))))) (tSeq (tAsg (tOp fdR (tVar 4) (tVar 1)) (gSub (tVar 2) (tVar 3) rSetL)) (tRet (tOp mdR (tCB inR (tCons (tVar 4) tNil)) (tVar 1)))) tNext)
  (tSeq (tAsg (tOp adR (tOp (rIxL K) (tVar 0) (tC (.int 1))) (tC (.int 1))) (gSub (tVar 0) (tC (.int 1)) rSetL))
  (tSeq (tAsg (tOp adR (tOp (rIxL K) (tVar 0) (tC (.int 3))) (tC (.int 1))) (gSub (tVar 0) (tC (.int 3)) rSetL))
  (tSeq (tAsg (tOp mdR (tCB inR (tCons (tOp adR (tOp adR (tOp adR (tOp mlR (tOp (rIxL K) (tVar 0) (tC (.int 2))) (tC (.int 48271))) (tVar 4)) (tOp mlR (tC (.int 7919)) (tOp (rIxL K) (tVar 0) (tC (.int 3))))) (tC (.int 12345))) tNil)) (tC (.int 2147483647))) (gSub (tVar 0) (tC (.int 2)) rSetL))
  (tSeq (tAsg (tOp mdR (tCB inR (tCons (tOp mlR (tOp (rIxL K) (tVar 0) (tC (.int 2))) (tOp (rIxL K) (tVar 0) (tC (.int 2)))) tNil)) (tC (.int 2147483629))) (gName 5))
  (tRet (tOp mdR (tCB inR (tCons (tOp fdR (tVar 5) (tC (.int 16))) tNil)) (tVar 1))))))))))
theorem take_raw {K : PySem.W.Frag} {D : Ends} {H : Hp} {d c : Addr} {n : Int} (dr : DrawAt H d c) (h0 : 0 < n) (h1 : n ≤ 16777216)
    (q : ∀ r H', 0 ≤ r → r < n → DrawAt H' d c → (∀ a, a ≠ d → a ≠ c → H' a = H a) → D.rt (.int r) H') : tTake K D [some (.ref d), some (.int n), none, none, none, none] H := by
  obtain ⟨ns, at_, m, t, e1, e2, ne, h63, hp, ha, hm, hm2, ht, dc⟩ := dr
  have hl : 0 < ns.length := List.length_pos_iff.mpr ne
  have i0 : 0 ≤ at_ % (ns.length : Int) := Int.emod_nonneg _ (by omega)
  have i1 : at_ % (ns.length : Int) < ns.length := Int.emod_lt_of_pos _ (by omega)
  generalize hj : (at_ % (ns.length : Int)).toNat = j
  have ej : at_ % (ns.length : Int) = (j : Int) := by omega
  have jl : j < ns.length := by omega
  have hc : atI (ns.map V.int) (at_ % (ns.length : Int)) = some (V.int ns[j]) := by rw [ej]; exact atI_nat (by simp [jl])
  have hix : ixN (ns.map V.int).length (at_ % (ns.length : Int)) = some j := by
    rw [ej]
    unfold ixN
    rw [List.length_map, if_pos (by omega), if_pos (by omega)]
    rfl
  have hcell : 0 ≤ ns[j] := hp _ (List.getElem_mem jl)
  generalize ecell : ns[j] = cell at hc hcell
  unfold tTake
  refine ⟨_, rfl, d, _, 0, .ref c, rfl, rfl, SqL.of e1, rfl, ?_⟩
  refine ⟨_, rfl, d, _, 1, .int at_, rfl, rfl, SqL.of e1, rfl, .inl ⟨_, rfl, ?_⟩⟩
  refine ⟨.ref c, rfl, .ref c, ns.length, rfl, .inl ⟨_, SqL.of e2, by rw [List.length_map]⟩, at_, ns.length, rfl, rfl, by omega, ?_⟩
  refine ⟨.ref c, rfl, _, rfl, c, _, _, .int cell, rfl, rfl, SqL.of e2, hc, ?_⟩
  refine ⟨.int cell, rfl, 10, 18, rfl, rfl, ⟨by decide, by decide, by decide⟩, cell, _, rfl, rfl, _, rfl, ?_⟩
  by_cases hb : decide ((10 : Int) ^ (18 : Int).toNat ≤ cell) = true
  · show if decide ((10 : Int) ^ (18 : Int).toNat ≤ cell) = true then _ else _
    rw [if_pos hb]
    refine ⟨.int cell, rfl, .int n, rfl, cell, n, rfl, rfl, ⟨h0, by omega⟩, ?_⟩
    refine ⟨.ref c, rfl, _, rfl, c, _, _, j, rfl, rfl, e2, hix, ?_⟩
    refine ⟨.int cell, rfl, .inl ⟨cell, rfl, .int n, rfl, cell, n, rfl, rfl, h0, ?_⟩⟩
    refine q _ _ (Int.emod_nonneg _ (by omega)) (Int.emod_lt_of_pos _ h0) ⟨ns.set j (cell / n), at_, m, t, ?_, ?_, ?_, ?_, ?_, ha, hm, hm2, ht, dc⟩ fun a _ z2 => upd_ne z2
    · rw [upd_ne dc]; exact e1
    · rw [upd_same, List.map_set]
    · intro z
      rw [← List.length_eq_zero_iff, List.length_set] at z
      omega
    · rw [List.length_set]; exact h63
    · intro x hx
      rcases List.mem_or_eq_of_mem_set hx with hx | rfl
      · exact hp x hx
      · exact Int.ediv_nonneg hcell (by omega)
  · show if decide ((10 : Int) ^ (18 : Int).toNat ≤ cell) = true then _ else _
    rw [if_neg hb]
    refine ⟨_, rfl, d, _, 1, .int at_, rfl, rfl, SqL.of e1, rfl, at_, 1, rfl, rfl, ?_⟩
    refine ⟨_, rfl, d, _, 1, 1, rfl, rfl, e1, rfl, ?_⟩
    have u1 : upd H d (.lst [.ref c, .int (at_ + 1), .int m, .int t]) d = some (.lst [.ref c, .int (at_ + 1), .int m, .int t]) := upd_same
    refine ⟨_, rfl, d, _, 3, .int t, rfl, rfl, SqL.of u1, rfl, t, 1, rfl, rfl, ?_⟩
    refine ⟨_, rfl, d, _, 3, 3, rfl, rfl, u1, rfl, ?_⟩
    have u2 : upd (upd H d (.lst [.ref c, .int (at_ + 1), .int m, .int t])) d (.lst [.ref c, .int (at_ + 1), .int m, .int (t + 1)]) d = some (.lst [.ref c, .int (at_ + 1), .int m, .int (t + 1)]) := upd_same
    refine ⟨_, rfl, d, _, 2, .int m, rfl, rfl, SqL.of u2, rfl, m, 48271, rfl, rfl, .inr ⟨by decide, by decide⟩, ?_⟩
    refine ⟨.int cell, rfl, _, cell, rfl, rfl, ?_⟩
    refine ⟨_, rfl, d, _, 3, .int (t + 1), rfl, rfl, SqL.of u2, rfl, 7919, t + 1, rfl, rfl, .inl ⟨by decide, by decide⟩, ?_⟩
    refine ⟨_, _, rfl, rfl, _, 12345, rfl, rfl, .inl ⟨_, rfl, _, 2147483647, rfl, rfl, (show (0 : Int) < 2147483647 by decide), ?_⟩⟩
    have x0 : 0 ≤ ((m * 48271 + cell + 7919 * (t + 1) + 12345) % 2147483647) :=  Int.emod_nonneg _ (by decide)
    have x1 : ((m * 48271 + cell + 7919 * (t + 1) + 12345) % 2147483647) < 2147483647 :=  Int.emod_lt_of_pos _ (by decide)
    refine ⟨_, rfl, d, _, 2, 2, rfl, rfl, u2, rfl, ?_⟩
    have u3 : upd (upd (upd H d (.lst [.ref c, .int (at_ + 1), .int m, .int t])) d (.lst [.ref c, .int (at_ + 1), .int m, .int (t + 1)])) d (.lst [.ref c, .int (at_ + 1), .int ((m * 48271 + cell + 7919 * (t + 1) + 12345) % 2147483647), .int (t + 1)]) d = some (.lst [.ref c, .int (at_ + 1), .int ((m * 48271 + cell + 7919 * (t + 1) + 12345) % 2147483647), .int (t + 1)]) := upd_same
    refine ⟨_, rfl, d, _, 2, .int ((m * 48271 + cell + 7919 * (t + 1) + 12345) % 2147483647), rfl, rfl, SqL.of u3, rfl, ?_⟩
    refine ⟨_, rfl, d, _, 2, .int ((m * 48271 + cell + 7919 * (t + 1) + 12345) % 2147483647), rfl, rfl, SqL.of u3, rfl, ((m * 48271 + cell + 7919 * (t + 1) + 12345) % 2147483647), ((m * 48271 + cell + 7919 * (t + 1) + 12345) % 2147483647), rfl, rfl, .inl ⟨by omega, by omega⟩, .inl ⟨_, rfl, _, 2147483629, rfl, rfl, (show (0 : Int) < 2147483629 by decide), ?_⟩⟩
    refine ⟨_, rfl, _, 16, rfl, rfl, ⟨by decide, by decide⟩, .inl ⟨_, rfl, .int n, rfl, _, n, rfl, rfl, h0, ?_⟩⟩
    refine q _ _ (Int.emod_nonneg _ (by omega)) (Int.emod_lt_of_pos _ h0) ⟨ns, at_ + 1, ((m * 48271 + cell + 7919 * (t + 1) + 12345) % 2147483647), t + 1, u3, ?_, ne, h63, hp, by omega, x0, x1, by omega, dc⟩ fun a z1 _ => ?_
    · rw [upd_ne (Ne.symm dc), upd_ne (Ne.symm dc), upd_ne (Ne.symm dc)]; exact e2
    · rw [upd_ne z1, upd_ne z1, upd_ne z1]
theorem take_run {K : PySem.W.Frag} {N : List Str} (hN : N.length = 6) {vs : List V} {H : Hp} {Q : VK} {E : XK} (h : toSp K spTake vs H Q E) : tTake K { nx := fun _ H' => Q .non H', rt := Q } (L2.start N vs) H := by
  obtain ⟨P, W, ds, kt, kx, rfl, b, r, ⟨n, rfl, h0, h1, hk⟩, q, _⟩ := h
  cases r with
  | cons r0 r =>
  cases r with
  | cons r1 r =>
  cases r
  cases r0 with
  | hnd _ on =>
  cases r1
  have dr := b.inv.1 on
  have es : L2.start N [V.ref (P.G.hd 0), V.int n] = [some (V.ref (P.G.hd 0)), some (V.int n), none, none, none, none] := by
    unfold L2.start
    rw [hN]
    rfl
  rw [es]
  refine take_raw dr h0 h1 fun r H' r0 r1 dr' same => ?_
  refine q _ (hk r r0 r1) (.int r) ⟨W.Hi, H'⟩ (Alc.vol b (fun a z => same a (fun e => z (.inl ⟨on, .inl e⟩)) fun e => z (.inl ⟨on, .inr e⟩)) ⟨fun _ => dr', fun o1 => ?_⟩) (Rp.int r)
  have s := b.inv.2 o1
  unfold ScriptAt at s ⊢
  refine ⟨s.1, ?_⟩
  have s := s.2
  split at s
  · rename_i tk
    rw [if_pos tk]
    obtain ⟨ob, s⟩ := s
    obtain ⟨_, _, _, _, e1, e2, _⟩ := dr
    exact ⟨ob, (same _ (fun e => by rw [e, e1] at s; cases s) fun e => by rw [e, e2] at s; cases s).trans s⟩
  · rename_i tk
    rw [if_neg tk]
    exact s
end HD

namespace HD
open PySem L2
/-- a script is read, a draw is made -/
def spBegin (K : PySem.W.Frag) : Sp := fun vs H Q _ => ∃ (a : Addr) (ns : List Int), vs = [.ref a] ∧ SqL K H a (ns.map V.int) ∧ ns.length ≤ 63 ∧ ∀ d c H', H d = none → H c = none → (∀ b o, H b = some o → H' b = some o) → DrawAt H' d c → Q (.ref d) H'
abbrev abR : List V → Hp → VK → Prop := fun xs H Q => ∃ i, xs = [.int i] ∧ Q (.int (if i < 0 then -i else i)) H
/-- the steps of _law_begin: script, cell -/
def tBegin (K : PySem.W.Frag) : TS :=
  tRet (tLst (tCons (tOrT K (tLc (iAny K (tSl (rSlL K) (tVar 0) tNoPart (tPart (tC (.int 63))))) (gName 1) tYes (tCB abR (tCons (tVar 1) tNil)) [1]) (tLst (tCons (tC (.int 7)) tNil))) (tCons (tC (.int 0)) (tCons (tC (.int 1)) (tCons (tC (.int 0)) tNil)))))
def absI (i : Int) : Int := if i < 0 then -i else i
theorem cut_ints (ns : List Int) (lo hi : Option Int) : ∃ ms : List Int, cutV (ns.map V.int) lo hi = ms.map V.int ∧ ms.length ≤ ns.length := by
  refine ⟨(ns.drop (HT.sIx ns.length 0 lo)).take (HT.sIx ns.length ns.length hi - HT.sIx ns.length 0 lo), ?_, ?_⟩
  · unfold cutV
    rw [List.length_map, List.map_take, List.map_drop]
  · rw [List.length_take, List.length_drop]
    omega
theorem begin_raw {K : PySem.W.Frag} {D : Ends} {H : Hp} {a : Addr} {ns : List Int} (hS : SqL K H a (ns.map V.int)) (h63 : ns.length ≤ 63)
    (q : ∀ d c H', H d = none → H c = none → (∀ b o, H b = some o → H' b = some o) → DrawAt H' d c → D.rt (.ref d) H') : tBegin K D [some (.ref a), none] H := by
  have hz : sizeLine = 16777216 := sizeLine_eq
  obtain ⟨ms, em, hm⟩ := cut_ints ns none (some 63)
  -- the outer list, from the inner one at c
  have fin : ∀ (c : Addr) (H2 : Hp) (zs : List Int), H c = none → (∀ b o, H b = some o → H2 b = some o) → H2 c = some (.lst (zs.map V.int)) → zs ≠ [] → zs.length ≤ 63 → (∀ n ∈ zs, 0 ≤ n) → ∀ p, H2 p = none → D.rt (.ref p) (upd H2 p (.lst [.ref c, .int 0, .int 1, .int 0])) :=
    fun c H2 zs hc keep e ne hl h0 p hp => by
      have pc : p ≠ c := fun z => by rw [z, e] at hp; cases hp
      refine q p c _ ?_ hc (fun b o eb => ?_) ⟨zs, 0, 1, 0, upd_same, (upd_ne (Ne.symm pc)).trans e, ne, hl, h0, by decide, by decide, by decide, by decide, pc⟩
      · cases z : H p with
        | none => rfl
        | some o => rw [keep p o z] at hp; cases hp
      · rw [upd_ne fun z => by rw [z] at eb; rw [keep p o eb] at hp; cases hp]
        exact keep b o eb
  unfold tBegin
  refine ⟨.ref a, rfl, 63, rfl, a, ns.map V.int, rfl, hS, fun p hp => .inl ⟨p, rfl, ⟨_, SqL.of upd_same⟩, fun L hL => ?_⟩⟩
  rw [em] at hL ⊢
  have pL : L ≠ p := fun z => by rw [z, upd_same] at hL; cases hL
  have keep1 : ∀ b o, H b = some o → upd H p (.lst (ms.map V.int)) b = some o := fun b o e => by rw [upd_ne (ne_of_none e hp)]; exact e
  have hLn : H L = none := by rw [upd_ne pL] at hL; exact hL
  refine lc_list (K := K) (a := p) (xs := ms.map V.int) (fun i H' => H' L = some (.lst (((ms.map absI).take i).map V.int)) ∧ H' p = some (.lst (ms.map V.int)) ∧ ∀ b o, H b = some o → H' b = some o) ⟨upd_same, by rw [upd_ne (Ne.symm pL)]; exact upd_same, fun b o e => by rw [upd_ne (ne_of_none (keep1 b o e) hL)]; exact keep1 b o e⟩ (fun i H' _ z => SqL.of z.2.1) (fun i x H' hx z => ?_) fun H' z => ?_
  · obtain ⟨z1, z2, z3⟩ := z
    obtain ⟨n, hn, rfl⟩ : ∃ n, ms[i]? = some n ∧ V.int n = x := by
      rw [List.getElem?_map, Option.map_eq_some_iff] at hx
      exact hx
    have hi : i < ms.length := (List.getElem?_eq_some_iff.mp hn).1
    refine ⟨rfl, .int n, rfl, n, rfl, _, z1, ?_, ?_, ?_, fun b o e => ?_⟩
    · rw [List.length_map, List.length_take, List.length_map]; omega
    · rw [upd_same]
      have e1 : (ms.map absI).take (i + 1) = (ms.map absI).take i ++ [absI n] := by
        rw [List.take_succ, List.getElem?_map, hn]
        rfl
      rw [e1, List.map_append]
      rfl
    · rw [upd_ne (Ne.symm pL)]; exact z2
    · rw [upd_ne (ne_of_none e hLn)]; exact z3 b o e
  · obtain ⟨z1, z2, z3⟩ := z
    rw [List.length_map, List.take_of_length_le (by rw [List.length_map]; omega)] at z1
    refine ⟨!(ms.map absI).isEmpty, .inl ⟨_, SqL.of z1, ?_⟩, ?_⟩
    · cases ms <;> rfl
    · cases hms : ms with
      | cons m ms' =>
        rw [hms] at z1
        show _ ≤ sizeLine ∧ _
        refine ⟨by rw [hz]; exact (by decide : 4 ≤ 16777216), fin L H' _ hLn z3 z1 (by simp) ?_ ?_⟩
        · rw [List.length_map, ← hms]; omega
        · intro x hx
          obtain ⟨y, _, rfl⟩ := List.mem_map.mp hx
          unfold absI
          split <;> omega
      | nil =>
        refine ⟨by rw [hz]; decide, fun c hc => ?_⟩
        show _ ≤ sizeLine ∧ _
        have hcn : H c = none := by
          cases z : H c with
          | none => rfl
          | some o => rw [z3 c o z] at hc; cases hc
        refine ⟨by rw [hz]; exact (by decide : 4 ≤ 16777216), fin c _ [7] hcn (fun b o e => ?_) upd_same (by simp) (by decide) (by simp)⟩
        rw [upd_ne (ne_of_none (z3 b o e) hc)]
        exact z3 b o e
theorem begin_run {K : PySem.W.Frag} {N : List Str} (hN : N.length = 2) {vs : List V} {H : Hp} {Q : VK} {E : XK} (h : spBegin K vs H Q E) : tBegin K { nx := fun _ H' => Q .non H', rt := Q } (L2.start N vs) H := by
  obtain ⟨a, ns, rfl, hS, hl, q⟩ := h
  have es : L2.start N [V.ref a] = [some (V.ref a), none] := by
    unfold L2.start
    rw [hN]
    rfl
  rw [es]
  exact begin_raw hS hl q

/-- the script at a law's start -/
def ScrAt (K : PySem.W.Frag) (H : Hp) (a : Addr) (ns : List Int) : Prop := (∃ ob, H a = some (.frz ob (.lst (ns.map V.int)))) ∨ ∀ H', SqL K H' a (ns.map V.int)
theorem ScrAt.sq {K : PySem.W.Frag} {H : Hp} {a : Addr} {ns : List Int} (h : ScrAt K H a ns) : SqL K H a (ns.map V.int) := by
  rcases h with ⟨ob, h⟩ | h
  · exact .inl (.inr ⟨ob, h⟩)
  · exact h H
/-- what a law's def is to keep -/
def spLaw (K : PySem.W.Frag) : Sp := fun vs H Q _ => ∃ (a : Addr) (ns : List Int), vs = [.ref a] ∧ ScrAt K H a ns ∧ ns.length ≤ 63 ∧ ∀ H', Q (.bl true) H'
/-- the environment behind the first statement -/
def startL (N : List Str) : Env := some (.val (.hnd 1)) :: some (.val (.hnd 0)) :: List.replicate (N.length - 2) none
theorem rest_run {K : PySem.W.Frag} {N : List Str} (hN : 2 ≤ N.length) {w : WS} (cl : Str → Option Addr) (hw : w { nx := fun _ => False, rt := fun e => e = .val (.bl true) } (startL N)) {vs : List V} {H : Hp} {Q : VK} {E : XK} {t : TS} (ht : t = liftS K (fun _ => E0) w) (h : spLaw K vs H Q E) :
    tSeq (tAsg (tCall (spBegin K) [] E0 (tCons (tVar 0) tNil)) (gName 1)) t { nx := fun _ H' => Q .non H', rt := Q } (L2.start N vs) H := by
  obtain ⟨a, ns, rfl, hS, hl, q⟩ := h
  subst ht
  obtain ⟨m, hm⟩ : ∃ m, N.length = m + 2 := ⟨N.length - 2, by omega⟩
  have es : L2.start N [V.ref a] = some (V.ref a) :: none :: List.replicate m none := by
    unfold L2.start
    rw [hm]
    rfl
  rw [es]
  refine ⟨.ref a, rfl, a, ns, rfl, hS.sq, hl, fun d c H' hd hc keep dr => ?_⟩
  have el : startL N = some (.val (.hnd 1)) :: some (.val (.hnd 0)) :: List.replicate m none := by
    unfold startL
    rw [hm]
    rfl
  rw [el] at hw
  -- the script is told by the heap, or it stands in the written part
  have key : ∀ tk : Bool, (if tk = true then ∃ ob, H' a = some (.frz ob (.lst (ns.map V.int))) else ∀ H2, SqL K H2 a (ns.map V.int)) → liftS K (fun _ => E0) w { nx := fun _ H' => Q .non H', rt := Q } (some (V.ref a) :: some (V.ref d) :: List.replicate m none) H' := fun tk hk => by
    let G : Sg := ⟨fun n => if n = 0 then d else if n = 1 then a else c, fun n => n == 0 || n == 1, tk, ns, cl⟩
    let W : Wd := ⟨fun _ => none, H'⟩
    have inv : (G.on 0 = true → DrawAt H' (G.hd 0) (G.hd 2)) ∧ (G.on 1 = true → ScriptAt K G H') := ⟨fun _ => dr, fun _ => ⟨hl, hk⟩⟩
    let P : PM K := ⟨G, W, fun b z => ⟨PM.hx ⟨G, ⟨fun _ => none, fun _ => some (.lst [])⟩, fun _ _ => ⟨⟨_, rfl⟩, rfl⟩⟩ H' inv b z, rfl⟩⟩
    have bas : Bas P W := ⟨fun _ _ e => (by cases e), Same.refl _, fun _ _ e _ => e, fun _ _ _ => rfl, inv⟩
    have noE : ∀ (i : Nat) e, (List.replicate m (none : Option EE))[i]? = some (some e) → False := fun i e h => by
      rcases Nat.lt_or_ge i m with z | z
      · rw [List.getElem?_replicate, if_pos z] at h; cases h
      · rw [List.getElem?_replicate, if_neg (by omega)] at h; cases h
    refine ⟨P, W, _, _, rfl, ⟨bas, by simp, fun i e h => ?_, fun i j o o' b h _ _ _ => ?_⟩, hw, ⟨fun _ z => z.elim, fun e z v W' l b r => ?_, fun _ z => z.elim, fun _ z => z.elim, fun σ' x ρ' z => z.elim⟩⟩
    · match i with
      | 0 => cases h; exact ⟨_, rfl, Rp.hnd (G := G) 1 rfl⟩
      | 1 => cases h; exact ⟨_, rfl, Rp.hnd (G := G) 0 rfl⟩
      | i + 2 => exact (noE i e (by simpa using h)).elim
    · match i with
      | 0 => cases h
      | 1 => cases h
      | i + 2 => exact (noE i _ (by simpa using h)).elim
    · cases z
      have r' : Rp K P.G W'.Hi v (.bl true) := r
      cases r'
      exact q _
  rcases hS with ⟨ob, e⟩ | e
  · exact key true ⟨ob, keep _ _ e⟩
  · exact key false e
section
open PySem.Spec PyProof.Rows
variable {P : Program} {w : World} {K : PySem.W.Frag} {mg : Str → Option Value}
/-- a law's def over its rest's reading -/
theorem law_hd {base : Heap} {x qual : Str} {st : Stmt} {f : Addr} {fd : FuncData} {N ps : List Str} {k : Nat} {b : WS} {pa : Arguments} {dvs : List V} {kws : List (Str × V)} (F : FunD K x qual pa (defBody st) (defScope st) dvs kws f fd) (S : FnScope N ps (defScope st)) (hps : ps.length = 1) (hN : 2 ≤ N.length) (cl : Str → Option Addr)
    (hb : ∀ (cdv : Value) (A : Around) (outer : List PySem.Env) (s : Shared) (H : Hp) (E : XK), (CxB P w K mg base N qual st f cdv A outer s H E).A.guards = some [] → Room k (CxB P w K mg base N qual st f cdv A outer s H E).A →
      ∃ st1 rest, defBody st = st1 :: rest ∧ PS (CxB P w K mg base N qual st f cdv A outer s H E) st1 (tAsg (tCall (spBegin K) [] E0 (tCons (tVar 0) tNil)) (gName 1)) ∧ DSs (CxB P w K mg base N qual st f cdv A outer s H E) (fun _ => E0) rest b)
    (hw : b { nx := fun _ => False, rt := fun e => e = .val (.bl true) } (startL N)) : FnG P w K mg base CX0 (k + 1) f fd ps (spLaw K) := by
  refine fnG_of F S (fun vs H Q E h => ?_) (fun cdv A outer s H vs Q E gu hr h => ?_)
  · obtain ⟨a, ns, rfl, _⟩ := h
    exact hps.symm
  · obtain ⟨st1, rest, e, h1, h2⟩ := hb cdv A outer s H E gu hr
    refine ⟨_, PSs.nox ?_, rest_run hN cl hw rfl h⟩
    rw [e]
    exact pss_cons h1 h2
/-- the call of a law's def from outside -/
theorem end_call {mb : Str → Option Value} {k : Nat} {fa a : Addr} {fd : FuncData} {x : Str} {s₁ : Shared} {vs : List Value} {ns : List Int} (inK : K.In s₁.heap) (gl : s₁.heap.Ns mainGlobals mg) (bl : s₁.heap.Ns builtinsNs mb) (bb : ∀ x : Str, x ≠ "__name__" → mb x = bootBuiltins x)
    (lim : s₁.heap.NoLimit) (gens : s₁.gens = #[]) (at_ : s₁.heap.get? a = some { cls := .type "list", data := .seq vs.toArray }) (iv : IntsAre vs ns) (h63 : ns.length ≤ 63) (room : Room k callerA)
    (F : ∀ base : Heap, K.In base → base.Ns mainGlobals mg → FnG P w K mg base CX0 k fa fd [x] (spLaw K)) (bind : ∀ (s : Shared) (u : Value), BindsTo s fd ⟨[u], []⟩ [(x, u)]) :
    codeAny (model P w) callerA (.call (.ref fa) ⟨[.ref a], []⟩) (fun r s' => r = .ok (.ret (.bool true)) ∧ OldK s₁.heap s'.heap ∧ s'.os = s₁.os ∧ AllBare s'.gens) s₁ := by
  let ob : Obj := { cls := .type "list", data := .seq vs.toArray }
  let u : HO := .frz ob (.lst (ns.map V.int))
  -- the script alone is told, and only where the written part does not tell it
  let H : Hp := fun b => if b = a ∧ K.lookup a = none then some u else none
  have only : ∀ b o, H b = some o → b = a ∧ K.lookup a = none ∧ o = u := fun b o e => by
    by_cases z : b = a ∧ K.lookup a = none
    · rw [show H b = some u from if_pos z] at e
      exact ⟨z.1, z.2, (Option.some.inj e).symm⟩
    · rw [show H b = none from if_neg z] at e
      cases e
  have rel := vals_ints iv
  have hsz : ns.length ≤ sizeLine := by rw [sizeLine_eq]; omega
  have ok : HOk P w H s₁.heap := fun b o e => by
    obtain ⟨rfl, _, rfl⟩ := only b o e
    exact ⟨at_, by rw [List.length_map]; exact hsz, vs, _, rel, at_⟩
  have scr : ScrAt K H a ns := by
    cases e : K.lookup a with
    | none => exact .inl ⟨ob, if_pos ⟨rfl, e⟩⟩
    | some o =>
      have eo := inK a o e
      rw [at_] at eo
      cases eo
      exact .inr fun _ => .inr ⟨_, vs.toArray, _, e, rfl, rfl, rfl, by rw [List.size_toArray, iv.length]; exact hsz, by simpa using rel⟩
  have free : ∀ {b : Addr} {o : Obj}, s₁.heap.get? b = some o → ((∃ es ep, o.data = .dict es ep) ∨ K.lookup b = some o) → H b = none := fun {b o} e z => by
    cases q : H b with
    | none => rfl
    | some o' =>
      obtain ⟨rfl, kn, _⟩ := only b o' q
      rcases z with ⟨es, ep, z⟩ | z
      · rw [at_] at e
        cases e
        cases z
      · rw [kn] at z
        cases z
  have ns2 : ∀ {b : Addr} {m : Str → Option Value}, s₁.heap.Ns b m → (hidT s₁.heap H).Ns b m := fun ⟨o, es, ep, e, d, r⟩ => ⟨o, es, ep, hidT_get e (free e (.inl ⟨es, ep, d⟩)), d, r⟩
  have inB : K.In (hidT s₁.heap H) := fun b o e => hidT_get (inK b o e) (free (inK b o e) (.inr e))
  obtain ⟨mc, lim1, lim2⟩ := lim
  have e0 : Env0 P w K mg (hidT s₁.heap H) callerA [] s₁ H := ⟨rfl, ⟨inB, ns2 gl, ⟨mb, ns2 bl, bb⟩, ⟨mc, ns2 lim1, lim2⟩⟩, fun b o e => of_hidT e, Nat.le_of_eq (hidT_size _ _), trivial, fun b hb => (by cases hb), ok, .of_eq gens⟩
  refine codeAny_mono ((F _ inB (ns2 gl)).go callerA [] s₁ H _ [.ref a] [.ref a] (fun v _ => v = .bl true) (fun _ _ _ => False) rfl room e0 (bind s₁ (.ref a)) (.cons rfl .nil) ⟨a, ns, rfl, scr, h63, fun _ => rfl⟩) fun r s' h => ?_
  match r, h with
  | .ok (.ret y), ⟨v, H', os, bare, un, ok', ry, q⟩ =>
    cases (show v = V.bl true from q)
    cases (show y = Value.bool true from ry)
    refine ⟨rfl, OldK.of_keep fun b o e => ?_, os, bare⟩
    cases q : H b with
    | none => exact un.keep b o e q (fun z => by cases z) (by simp)
    | some o' =>
      obtain ⟨rfl, _, rfl⟩ := only b o' q
      have g := (ok' _ _ (un.frzs _ _ _ q)).1
      rw [at_] at e
      cases e
      exact g
/-- the goal that a head leaves -/
theorem end_walk {l : PySem.W.OpenLaw} {k : Nat} {q : Program} {loose : List Str} {XP : (Str → Option Value) → Heap → Prop} {YP : World → Heap → Prop} {d : DefRec} {x : Str} (hn : l.most = some 63) (hd : d.params.defaults = []) (room : Room k callerA)
    (F : ∀ (w : World) (mg : Str → Option Value) (fa : Addr) (h : Heap), YP w h → h.Ns mainGlobals mg → mg d.name = some (.ref fa) →
      ∃ (K : PySem.W.Frag) (fd : FuncData), K.In h ∧ (∀ (s : Shared) (u : Value), BindsTo s fd ⟨[u], []⟩ [(x, u)]) ∧ ∀ base : Heap, K.In base → base.Ns mainGlobals mg → FnG l.prog w K mg base CX0 k fa fd [x] (spLaw K)) :
    PySem.W.WalkO q loose XP YP l.row.toRowW d [] (fun f vs => PySem.call f vs) := by
  refine Att.attach_call hn hd fun w s₀ s₁ mg mb fa o pm cd doc a vs ns G Y ho hd hcd hmg hobj hints hlen hg => ?_
  obtain ⟨K, fd, inK, bind, hF⟩ := F w mg fa _ Y G.T.g hmg
  exact end_call inK G.T.g G.T.b G.T.builtins G.T.nolimit hg hobj hints hlen room hF bind
end
end HD

namespace HD
open PySem L2
theorem loopC_fm {vs : List Nat} {wt : WG} {c : WT} {el : WE} {ρ : Env} {k : List D → Prop} (f : D → Option D) : ∀ {ds acc : List D}, (∀ d ∈ ds, ∀ (kn : Prop) (ky : D → Prop), (match f d with
    | none => kn
    | some e => ky e) → turnC vs wt c el ρ d kn ky) → acc.length + ds.length ≤ sizeLine → k (acc ++ ds.filterMap f) → loopC vs wt c el ρ k ds acc
  | [], acc, _, _, q => by simpa [loopC] using q
  | d :: ds, acc, h, hz, q => by
    rw [List.length_cons] at hz
    refine ⟨by omega, h d List.mem_cons_self _ _ ?_⟩
    have rest := fun d' hd' => h d' (List.mem_cons_of_mem _ hd')
    rw [List.filterMap_cons] at q
    cases e : f d with
    | none =>
      rw [e] at q
      exact loopC_fm f rest (by omega) q
    | some y =>
      rw [e] at q
      refine loopC_fm f rest (by rw [List.length_append, List.length_singleton]; omega) ?_
      rw [List.append_assoc]
      exact q
theorem loopC_map {vs : List Nat} {wt : WG} {c : WT} {el : WE} {ρ : Env} {k : List D → Prop} (f : D → D) {ds acc : List D} (h : ∀ d ∈ ds, ∀ (kn : Prop) (ky : D → Prop), ky (f d) → turnC vs wt c el ρ d kn ky) (hz : acc.length + ds.length ≤ sizeLine) (q : k (acc ++ ds.map f)) : loopC vs wt c el ρ k ds acc := by
  refine loopC_fm (fun d => some (f d)) (fun d hd kn ky z => h d hd kn ky z) hz ?_
  rw [List.filterMap_eq_map']
  exact q
/-- items that are drawn: each turn gives one that keeps p -/
theorem loopC_all {vs : List Nat} {wt : WG} {c : WT} {el : WE} {ρ : Env} {k : List D → Prop} (p : D → Prop) : ∀ {ds acc : List D}, (∀ d ∈ ds, ∀ (kn : Prop) (ky : D → Prop), (∀ e, p e → ky e) → turnC vs wt c el ρ d kn ky) → acc.length + ds.length ≤ sizeLine →
    (∀ es, es.length = ds.length → (∀ e ∈ es, p e) → k (acc ++ es)) → loopC vs wt c el ρ k ds acc
  | [], acc, _, _, q => by
    have := q [] rfl (fun _ z => by cases z)
    simpa [loopC] using this
  | d :: ds, acc, h, hz, q => by
    rw [List.length_cons] at hz
    refine ⟨by omega, h d List.mem_cons_self _ _ fun e pe => ?_⟩
    refine loopC_all p (fun d' hd' => h d' (List.mem_cons_of_mem _ hd')) (by rw [List.length_append, List.length_singleton]; omega) fun es hl hp => ?_
    rw [List.append_assoc]
    exact q (e :: es) (by rw [List.length_cons, List.length_cons, hl]) fun x hx => by
      rcases List.mem_cons.mp hx with rfl | hx
      · exact pe
      · exact hp x hx
theorem boolsD_map {α : Type} (f : α → Bool) : ∀ xs : List α, boolsD (xs.map fun x => .bl (f x)) = some (xs.map f)
  | [] => rfl
  | x :: xs => by
    show (boolsD _).map _ = _
    rw [boolsD_map f xs]
    rfl
theorem strsD_map {α : Type} (f : α → Str) : ∀ xs : List α, strsD (xs.map fun x => .str (f x)) = some (xs.map f)
  | [] => rfl
  | x :: xs => by
    show (strsD _).map _ = _
    rw [strsD_map f xs]
    rfl
end HD

namespace HD
open PySem L2
section
variable {ρ ρ' : Env} {k : R → Env → Prop} {kx : D → Env → Prop} {kb : Bool → Env → Prop} {ka : List R → Env → Prop} {ki : List D → Option (Nat × O) → Env → Prop} {ko : Option Int → Env → Prop} {kg : Env → Prop} {kt : EE → Prop} {d d1 d2 : D} {o : O} {Dd : Eds} {we wa wb wc : WE} {ws : WA} {t t1 t2 : WT} {s u : WS} {op op' : OpS} {i j : Nat} {wt : WG} {wi : WI} {lo hi : WO} {r : R} {rs : List R} {x y : Str} {m n : Int} {ds xs ys : List D} {b c : Bool} {kk : Bool → Prop}
@[simp] theorem e_toD1 : (R.val d).toD = d := rfl
@[simp] theorem e_toD2 : (R.own o).toD = o.toD := rfl
@[simp] theorem e_toD3 : (R.brw i o).toD = o.toD := rfl
@[simp] theorem e_otoD1 : (O.lst xs).toD = .list xs := rfl
@[simp] theorem e_otoD2 {kv : List (D × D)} : (O.dct kv).toD = .dict kv := rfl
@[simp] theorem e_etoD1 : (EE.val d).toD = d := rfl
@[simp] theorem e_etoD2 : (EE.own o).toD = o.toD := rfl
@[simp] theorem e_fz1 : (R.val d).fz ρ = ρ := rfl
@[simp] theorem e_fz2 : (R.own o).fz ρ = ρ := rfl
@[simp] theorem e_fz3 : (R.brw i o).fz ρ = ρ.set i (some (.val o.toD)) := rfl
@[simp] theorem e_hold1 : (R.val d).hold ρ = True := rfl
@[simp] theorem e_hold2 : (R.own o).hold ρ = True := rfl
@[simp] theorem e_hold3 : (R.brw i o).hold ρ = (ρ[i]? = some (some (.own o)) ∨ ρ[i]? = some (some (.val o.toD))) := rfl
@[simp] theorem e_toR1 : (EE.val d).toR = .val d := rfl
@[simp] theorem e_toR2 : (EE.own o).toR = .own o := rfl
@[simp] theorem e_nown1 : (R.val d).nown = .val d := rfl
@[simp] theorem e_nown2 : (R.own o).nown = .val o.toD := rfl
@[simp] theorem e_nown3 : (R.brw i o).nown = .brw i o := rfl
@[simp] theorem e_holds1 : R.holds [] ρ = True := rfl
@[simp] theorem e_holds2 : R.holds (r :: rs) ρ = (r.hold ρ ∧ R.holds rs ρ) := rfl
@[simp] theorem e_fzs1 : R.fzs [] ρ = ρ := rfl
@[simp] theorem e_fzs2 : R.fzs (r :: rs) ρ = R.fzs rs (r.fz ρ) := rfl
@[simp] theorem e_rt1 : (R.val d).rt = .val d := rfl
@[simp] theorem e_rt2 : (R.own o).rt = .own o := rfl
@[simp] theorem e_rt3 : (R.brw i o).rt = .own o := rfl
@[simp] theorem e_ent1 : (R.val d).ent = .val d := rfl
@[simp] theorem e_ent2 : (R.own o).ent = .own o := rfl
@[simp] theorem e_ent3 : (R.brw i o).ent = .val o.toD := rfl
@[simp] theorem e_entF1 : (R.val d).entF ρ = ρ := rfl
@[simp] theorem e_entF2 : (R.own o).entF ρ = ρ := rfl
@[simp] theorem e_entF3 : (R.brw i o).entF ρ = ρ.set i (some (.val o.toD)) := rfl
@[simp] theorem e_ho1 : (R.val d).ho = none := rfl
@[simp] theorem e_ho2 : (R.own o).ho = none := rfl
@[simp] theorem e_ho3 : (R.brw i o).ho = some (i, o) := rfl
@[simp] theorem e_brws1 : R.brws [] = false := rfl
@[simp] theorem e_brws2 : R.brws (.val d :: rs) = R.brws rs := rfl
@[simp] theorem e_brws3 : R.brws (.own o :: rs) = R.brws rs := rfl
@[simp] theorem e_brws4 : R.brws (.brw i o :: rs) = true := rfl
@[simp] theorem e_pure1 : (EE.val d).pure = d.noref := rfl
@[simp] theorem e_pure2 : (EE.own (.lst xs)).pure = D.norefAll xs := rfl
@[simp] theorem e_nr1 : D.noref .non = true := rfl
@[simp] theorem e_nr2 : D.noref (.bl b) = true := rfl
@[simp] theorem e_nr3 : D.noref (.int m) = true := rfl
@[simp] theorem e_nr4 : D.noref (.str x) = true := rfl
@[simp] theorem e_nr5 : D.noref (.tup xs) = D.norefAll xs := by rw [D.noref]
@[simp] theorem e_nr6 : D.norefAll [] = true := by rw [D.norefAll]
@[simp] theorem e_nr7 : D.norefAll (d :: ds) = (d.noref && D.norefAll ds) := by rw [D.norefAll]
@[simp] theorem e_wVar (h : ρ[i]? = some (some (.val d))) : wVar i ρ k kx = k (.val d) ρ := by
  show (match ρ[i]? with
  | some (some (.val d)) => k (.val d) ρ
  | some (some (.own o)) => k (.brw i o) ρ
  | _ => False) = _
  rw [h]
@[simp] theorem e_wVarO (h : ρ[i]? = some (some (.own o))) : wVar i ρ k kx = k (.brw i o) ρ := by
  show (match ρ[i]? with
  | some (some (.val d)) => k (.val d) ρ
  | some (some (.own o)) => k (.brw i o) ρ
  | _ => False) = _
  rw [h]
@[simp] theorem e_wC : wC d ρ k kx = k (.val d) ρ := rfl
@[simp] theorem e_wNil : wNil ρ ka kx = ka [] ρ := rfl
@[simp] theorem e_wCons : wCons wa ws ρ ka kx = wa ρ (fun r ρ1 => ws ρ1 (fun rs ρ2 => ka (r.nown :: rs) ρ2) kx) kx := rfl
@[simp] theorem e_wTup : wTup ws ρ k kx = ws ρ (fun rs ρ1 => R.holds rs ρ1 ∧ rs.length ≤ sizeLine ∧ k (.val (.tup (rs.map R.toD))) (R.fzs rs ρ1)) kx := rfl
@[simp] theorem e_wLst : wLst ws ρ k kx = ws ρ (fun rs ρ1 => R.holds rs ρ1 ∧ rs.length ≤ sizeLine ∧ k (.own (.lst (rs.map R.toD))) (R.fzs rs ρ1)) kx := rfl
@[simp] theorem e_wBin : wBin op wa wb ρ k kx = wa ρ (fun r1 ρ1 => wb ρ1 (fun r2 ρ2 => r1.hold ρ2 ∧ op r1.toD r2.toD (fun e => k e.toR ρ2)) kx) kx := rfl
def isT (r : R) (k : Bool → Prop) : Prop := match r with
  | .val (.bl b) => k b
  | _ => False
@[simp] theorem e_isT : isT (.val (.bl b)) kk = kk b := rfl
theorem e_wTst0 : wTst we ρ kb kx = we ρ (fun r ρ' => isT r fun b => kb b ρ') kx := by
  unfold wTst isT
  rfl
@[simp] theorem e_wTst : wTst we ρ kb kx = we ρ (fun r ρ' => isT r fun b => kb b ρ') kx := e_wTst0
def isTE (e : EE) (k : Bool → Prop) : Prop := match e with
  | .val (.bl b) => k b
  | _ => False
@[simp] theorem e_isTE : isTE (.val (.bl b)) kk = kk b := rfl
@[simp] theorem e_wChain : wChain op op' wa wb wc ρ k kx = wa ρ (fun r1 ρ1 => wb ρ1 (fun r2 ρ2 => r1.hold ρ2 ∧ op r1.toD r2.toD (fun e => isTE e fun b => if b = true then wc ρ2 (fun r3 ρ3 => r2.hold ρ3 ∧ op' r2.toD r3.toD (fun e' => k e'.toR ρ3)) kx else k (.val (.bl false)) ρ2)) kx) kx := by
  unfold wChain isTE
  rfl
@[simp] theorem e_tru1 : truD .non kk = kk false := rfl
@[simp] theorem e_tru2 : truD (.bl b) kk = kk b := rfl
@[simp] theorem e_tru3 : truD (.int m) kk = kk (m != 0) := rfl
@[simp] theorem e_tru4 : truD (.str x) kk = (x.length ≤ sizeLine ∧ kk ((x.length : Int) != 0)) := rfl
@[simp] theorem e_tru5 : truD (.list xs) kk = kk (!xs.isEmpty) := rfl
@[simp] theorem e_tru6 : truD (.tup xs) kk = kk (!xs.isEmpty) := rfl
@[simp] theorem e_wAnd : wAnd wa wb ρ k kx = wa ρ (fun r ρ1 => truD r.toD (fun c => if c = true then wb ρ1 k kx else k r ρ1)) kx := rfl
@[simp] theorem e_wOr : wOr wa wb ρ k kx = wa ρ (fun r ρ1 => truD r.toD (fun c => if c = true then k r ρ1 else wb ρ1 k kx)) kx := rfl
@[simp] theorem e_wNot : wNot wa ρ k kx = wa ρ (fun r ρ1 => truD r.toD (fun c => k (.val (.bl (!c))) ρ1)) kx := rfl
@[simp] theorem e_wTru : wTru wa ρ kb kx = wa ρ (fun r ρ1 => truD r.toD (fun c => kb c ρ1)) kx := rfl
@[simp] theorem e_tAnd : tAndD t1 t2 ρ kb kx = t1 ρ (fun c ρ1 => if c = true then t2 ρ1 kb kx else kb false ρ1) kx := rfl
@[simp] theorem e_tOr : tOrD t1 t2 ρ kb kx = t1 ρ (fun c ρ1 => if c = true then kb true ρ1 else t2 ρ1 kb kx) kx := rfl
@[simp] theorem e_tNot : tNotD t ρ kb kx = t ρ (fun c ρ1 => kb (!c) ρ1) kx := rfl
@[simp] theorem e_wIf : wIf t wa wb ρ k kx = t ρ (fun c ρ1 => if c = true then wa ρ1 k kx else wb ρ1 k kx) kx := rfl
@[simp] theorem e_tYes : tYesD ρ kb kx = kb true ρ := rfl
@[simp] theorem e_sNext : sNext Dd ρ = Dd.nx ρ := rfl
@[simp] theorem e_sSeq : sSeq s u Dd ρ = s { Dd with nx := u Dd } ρ := rfl
@[simp] theorem e_sBreak : sBreak Dd ρ = Dd.bk ρ := rfl
@[simp] theorem e_sCont : sCont Dd ρ = Dd.ct ρ := rfl
@[simp] theorem e_sExpr : sExpr we Dd ρ = we ρ (fun _ ρ' => Dd.nx ρ') Dd.xk := rfl
@[simp] theorem e_sRet : sRet we Dd ρ = we ρ (fun r _ => Dd.rt r.rt) Dd.xk := rfl
@[simp] theorem e_sRetN : sRetN Dd ρ = Dd.rt (.val .non) := rfl
@[simp] theorem e_sIf : sIf t s u Dd ρ = t ρ (fun c ρ' => if c = true then s Dd ρ' else u Dd ρ') Dd.xk := rfl
@[simp] theorem e_sSet : sSet i we Dd ρ = we ρ (fun r ρ' => Dd.nx ((r.entF ρ').set i (some r.ent))) Dd.xk := rfl
@[simp] theorem e_wCall {sp : SpD} {dv : List D} : wCall sp dv ws ρ k kx = ws ρ (fun rs ρ1 => R.holds rs ρ1 ∧ sp (rs.map R.toD ++ dv) (fun e => if (R.brws rs && !e.pure) = true then k e.toR (R.fzs rs ρ1) else k e.toR ρ1) (fun _ => False)) kx := rfl
@[simp] theorem e_wCB {cl : List D → (EE → Prop) → Prop} : wCB cl ws ρ k kx = ws ρ (fun rs ρ1 => R.holds rs ρ1 ∧ cl (rs.map R.toD) (fun e => k e.toR ρ1)) kx := rfl
@[simp] theorem e_start {N : List Str} : startD N ds = ds.map (fun d => some (.val d)) ++ List.replicate (N.length - ds.length) none := rfl
@[simp] theorem e_eq : oEq d1 d2 kt = (d1.fits 60 = true ∧ d2.fits 60 = true ∧ kt (.val (.bl (d1.eqv d2)))) := rfl
@[simp] theorem e_ne : oNe d1 d2 kt = (d1.fits 60 = true ∧ d2.fits 60 = true ∧ kt (.val (.bl (!d1.eqv d2)))) := rfl
@[simp] theorem e_lt1 : oLt (.int m) (.int n) kt = kt (.val (.bl (decide (m < n)))) := rfl
@[simp] theorem e_lt2 : oLt (.str x) (.str y) kt = kt (.val (.bl (decide (x.cps.toList < y.cps.toList)))) := rfl
@[simp] theorem e_le1 : oLe (.int m) (.int n) kt = kt (.val (.bl (decide (m ≤ n)))) := rfl
@[simp] theorem e_le2 : oLe (.str x) (.str y) kt = kt (.val (.bl (!decide (y.cps.toList < x.cps.toList)))) := rfl
@[simp] theorem e_gt1 : oGt (.int m) (.int n) kt = kt (.val (.bl (decide (n < m)))) := rfl
@[simp] theorem e_ge1 : oGe (.int m) (.int n) kt = kt (.val (.bl (decide (n ≤ m)))) := rfl
@[simp] theorem e_is : oIs d1 d2 kt = (d2.eqv .non = true ∧ kt (.val (.bl (d1.eqv .non)))) := rfl
@[simp] theorem e_isnot : oIsNot d1 d2 kt = (d2.eqv .non = true ∧ kt (.val (.bl (!d1.eqv .non)))) := rfl
@[simp] theorem e_add1 : oAdd (.int m) (.int n) kt = kt (.val (.int (m + n))) := rfl
@[simp] theorem e_add2 : oAdd (.str x) (.str y) kt = (x.length + y.length ≤ sizeLine ∧ kt (.val (.str (x ++ y)))) := rfl
@[simp] theorem e_add3 : oAdd (.list xs) (.list ys) kt = (xs.length + ys.length ≤ sizeLine ∧ kt (.own (.lst (xs ++ ys)))) := rfl
@[simp] theorem e_add4 : oAdd (.tup xs) (.tup ys) kt = (xs.length + ys.length ≤ sizeLine ∧ kt (.val (.tup (xs ++ ys)))) := rfl
@[simp] theorem e_sub1 : oSub (.int m) (.int n) kt = kt (.val (.int (m - n))) := rfl
@[simp] theorem e_mul1 : oMul (.int m) (.int n) kt = (CMul m n ∧ kt (.val (.int (m * n)))) := rfl
@[simp] theorem e_mul2 : oMul (.list xs) (.int n) kt = (-(2 ^ 63) ≤ n ∧ n < 2 ^ 63 ∧ xs.length * n.toNat ≤ sizeLine ∧ kt (.own (.lst (List.replicate n.toNat xs).flatten))) := rfl
@[simp] theorem e_mod1 : oMod (.int m) (.int n) kt = (0 < n ∧ kt (.val (.int (m % n)))) := rfl
@[simp] theorem e_div1 : oDiv (.int m) (.int n) kt = (CDiv m n ∧ kt (.val (.int (m / n)))) := rfl
@[simp] theorem e_pow1 : oPow (.int m) (.int n) kt = (CPow m n ∧ kt (.val (.int (m ^ n.toNat)))) := rfl
@[simp] theorem e_gNm : gNm i d ρ kg = kg (ρ.set i (some (.val d))) := rfl
@[simp] theorem e_gsNil : gsNil ds ρ kg = (ds = [] ∧ kg ρ) := rfl
@[simp] theorem e_gsCons {g : WG} {gs : WGs} : gsCons g gs (d :: ds) ρ kg = g d ρ fun ρ' => gs ds ρ' kg := rfl
@[simp] theorem e_gTp {gs : WGs} : gTp i gs (.tup ds) ρ kg = (ds.length = i ∧ gs ds ρ kg) := rfl
@[simp] theorem e_sAsg : sAsg we wt Dd ρ = we ρ (fun r ρ' => wt r.toD (r.fz ρ') Dd.nx) Dd.xk := rfl
@[simp] theorem e_sPar : sPar i j wa wb Dd ρ = wa ρ (fun r1 ρ1 => wb (r1.entF ρ1) (fun r2 ρ2 => Dd.nx (((r2.entF ρ2).set i (some r1.ent)).set j (some r2.ent))) Dd.xk) Dd.xk := rfl
def itemsK (r : R) (k : List D → Prop) : Prop := match itemsD r.toD with
  | some ds => k ds
  | none => False
@[simp] theorem e_wIt : wIt we ρ ki kx = we ρ (fun r ρ1 => itemsK r fun ds => ki ds r.ho ρ1) kx := rfl
@[simp] theorem e_items1 {kl : List D → Prop} : itemsK (.val (.list xs)) kl = kl xs := rfl
@[simp] theorem e_items2 {kl : List D → Prop} : itemsK (.val (.tup xs)) kl = kl xs := rfl
@[simp] theorem e_items3 {kl : List D → Prop} : itemsK (.val (.str x)) kl = kl (x.cps.toList.map fun c => .str ⟨#[c]⟩) := rfl
@[simp] theorem e_items4 {kl : List D → Prop} : itemsK (.own (.lst xs)) kl = kl xs := rfl
@[simp] theorem e_items5 {kl : List D → Prop} : itemsK (.brw i (.lst xs)) kl = kl xs := rfl
def rngK (r : R) (k : Int → Prop) : Prop := match r with
  | .val (.int j) => (-(2 ^ 62) ≤ j ∧ j < 2 ^ 62) ∧ k j
  | _ => False
@[simp] theorem e_rngK {kl : Int → Prop} : rngK (.val (.int m)) kl = ((-(2 ^ 62) ≤ m ∧ m < 2 ^ 62) ∧ kl m) := rfl
@[simp] theorem e_wRng1 : wRng1 we ρ ki kx = we ρ (fun r ρ1 => rngK r fun j => ki ((List.range j.toNat).map fun i => .int (i : Nat)) none ρ1) kx := by
  unfold wRng1 rngK
  congr
@[simp] theorem e_sFor : sFor wi wt s Dd ρ = wi ρ (fun ds ho ρ1 => ho = none ∧ loopF wt s Dd ds ρ1) Dd.xk := rfl
@[simp] theorem e_loopF0 : loopF wt s Dd [] ρ = Dd.nx ρ := rfl
@[simp] theorem e_loopF1 : loopF wt s Dd (d :: ds) ρ = wt d ρ fun ρ2 => s { Dd with nx := loopF wt s Dd ds, ct := loopF wt s Dd ds, bk := Dd.nx } ρ2 := rfl
def hoE (ho : Option (Nat × O)) (ρ : Env) (k : Env → Prop) : Prop := match ho with
  | some (i, o) => k (ρ.set i (some (.val o.toD)))
  | none => k ρ
@[simp] theorem e_hoE1 : hoE none ρ kg = kg ρ := rfl
@[simp] theorem e_hoE2 : hoE (some (i, o)) ρ kg = kg (ρ.set i (some (.val o.toD))) := rfl
@[simp] theorem e_wFz : wFz wi ρ ki kx = wi ρ (fun ds ho ρ1 => hoE ho ρ1 (ki ds none)) kx := by
  unfold wFz hoE
  congr
@[simp] theorem e_wipe0 : wipeE ρ [] = ρ := rfl
@[simp] theorem e_wipe1 {v : Nat} {vs : List Nat} : wipeE ρ (v :: vs) = (wipeE ρ vs).set v none := rfl
def hoP (ho : Option (Nat × O)) (ρ : Env) : Prop := match ho with
  | some (i, o) => ρ[i]? = some (some (.own o))
  | none => True
@[simp] theorem e_hoP1 : hoP none ρ = True := rfl
@[simp] theorem e_hoP2 : hoP (some (i, o)) ρ = (ρ[i]? = some (some (.own o))) := rfl
def slotOk (e : Option (Option EE)) : Prop := match e with
  | some (some (.own _)) => False
  | _ => True
@[simp] theorem e_slot1 : slotOk none = True := rfl
@[simp] theorem e_slot2 : slotOk (some none) = True := rfl
@[simp] theorem e_slot3 : slotOk (some (some (.val d))) = True := rfl
@[simp] theorem e_noOwn0 : NoOwn ρ [] = True := rfl
@[simp] theorem e_noOwn1 {v : Nat} {vs : List Nat} : NoOwn ρ (v :: vs) = (slotOk ρ[v]? ∧ NoOwn ρ vs) := rfl
@[simp] theorem e_wLc {vs : List Nat} {el : WE} : wLc vs wi wt t el ρ k kx = wi ρ (fun ds ho ρ1 => hoP ho ρ1 ∧ NoOwn ρ1 vs ∧ loopC vs wt t el ρ1 (fun acc => k (.own (.lst acc)) ρ1) ds []) kx := by
  unfold wLc hoP
  rfl
@[simp] theorem e_turnC {vs : List Nat} {el : WE} {kn : Prop} {ky : D → Prop} : turnC vs wt t el ρ d kn ky = wt d (wipeE ρ vs) fun ρ2 => wipeE ρ2 vs = wipeE ρ vs ∧ t ρ2 (fun v ρ3 => ρ3 = ρ2 ∧ if v = true then el ρ2 (fun r ρ4 => ρ4 = ρ2 ∧ r.ho = none ∧ ky r.toD) (fun _ _ => False) else kn) fun _ _ => False := rfl
@[simp] theorem e_in : oIn d1 d2 kt = inD d1 d2 fun c => kt (.val (.bl c)) := rfl
@[simp] theorem e_notin : oNotIn d1 d2 kt = inD d1 d2 fun c => kt (.val (.bl (!c))) := rfl
@[simp] theorem e_in1 : inD (.str x) (.str y) kk = (x.cps.toList.length = 1 ∧ kk (decide (x.cps.toList.headD 0 ∈ y.cps.toList))) := rfl
@[simp] theorem e_in2 : inD d (.list ds) kk = (d.fits 60 = true ∧ D.fitss ds 59 = true ∧ kk (ds.any fun z => z.eqv d)) := by cases d <;> rfl
@[simp] theorem e_in3 : inD d (.tup ds) kk = (d.fits 60 = true ∧ D.fitss ds 59 = true ∧ kk (ds.any fun z => z.eqv d)) := by cases d <;> rfl
@[simp] theorem e_ix1 : oIx (.list ds) (.int m) kt = ∃ d, atI ds m = some d ∧ kt (.val d) := rfl
@[simp] theorem e_ix2 : oIx (.tup ds) (.int m) kt = ∃ d, atI ds m = some d ∧ kt (.val d) := rfl
@[simp] theorem e_ix3 : oIx (.str x) (.int m) kt = (x.length ≤ sizeLine ∧ ∃ c, atI x.cps.toList m = some c ∧ kt (.val (.str ⟨#[c]⟩))) := rfl
variable {l h : Option Int}
@[simp] theorem e_sl1 : oSl (.list ds) l h kt = kt (.own (.lst (cutD ds l h))) := rfl
@[simp] theorem e_sl2 : oSl (.tup ds) l h kt = kt (.val (.tup (cutD ds l h))) := rfl
@[simp] theorem e_sl3 : oSl (.str x) l h kt = (x.length ≤ sizeLine ∧ kt (.val (.str (cutS x l h)))) := rfl
@[simp] theorem e_noP : wNoP ρ ko kx = ko none ρ := rfl
def partK (r : R) (k : Option Int → Prop) : Prop := match r with
  | .val (.int i) => k (some i)
  | _ => False
@[simp] theorem e_partK {kl : Option Int → Prop} : partK (.val (.int m)) kl = kl (some m) := rfl
@[simp] theorem e_wP : wP we ρ ko kx = we ρ (fun r ρ1 => partK r fun i => ko i ρ1) kx := by
  unfold wP partK
  rfl
@[simp] theorem e_wSl : wSl we lo hi ρ k kx = we ρ (fun r ρ1 => lo ρ1 (fun l ρ2 => hi ρ2 (fun h ρ3 => r.hold ρ3 ∧ oSl r.toD l h (fun e => k e.toR ρ3)) kx) kx) kx := rfl
@[simp] theorem e_len0 : cLen [.hnd 1] kt = ∀ n : Nat, n ≤ 63 → kt (.val (.int n)) := rfl
@[simp] theorem e_len1 : cLen [.str x] kt = (x.length ≤ sizeLine ∧ kt (.val (.int x.length))) := rfl
@[simp] theorem e_len2 : cLen [.list xs] kt = kt (.val (.int xs.length)) := rfl
@[simp] theorem e_len3 : cLen [.tup xs] kt = kt (.val (.int xs.length)) := rfl
@[simp] theorem e_all : cAll [.list xs] kt = ∃ bs, boolsD xs = some bs ∧ kt (.val (.bl (bs.all id))) := rfl
@[simp] theorem e_any : cAny [.list xs] kt = ∃ bs, boolsD xs = some bs ∧ kt (.val (.bl (bs.any id))) := rfl
@[simp] theorem e_tyN1 : tyN .non = some "NoneType" := rfl
@[simp] theorem e_tyN2 : tyN (.bl b) = some "bool" := rfl
@[simp] theorem e_tyN3 : tyN (.int m) = some "int" := rfl
@[simp] theorem e_tyN4 : tyN (.str x) = some "str" := rfl
@[simp] theorem e_tyN5 : tyN (.list xs) = some "list" := rfl
@[simp] theorem e_tyN6 : tyN (.tup xs) = some "tuple" := rfl
@[simp] theorem e_tyN7 {kv : List (D × D)} : tyN (.dict kv) = some "dict" := rfl
@[simp] theorem e_isi {n : String} : cIsi [d, .ty n] kt = ∃ m c, tyN d = some m ∧ kitB m n = some c ∧ kt (.val (.bl c)) := rfl
@[simp] theorem e_abs : cAbs [.int m] kt = kt (.val (.int (if m < 0 then -m else m))) := rfl
@[simp] theorem e_int : cInt [.int m] kt = kt (.val (.int m)) := rfl
@[simp] theorem e_min : cMin [.int m, .int n] kt = kt (.val (.int (if n < m then n else m))) := rfl
@[simp] theorem e_max : cMax [.int m, .int n] kt = kt (.val (.int (if n > m then n else m))) := rfl
def strK (r : R) (k : Str → Prop) : Prop := match r with
  | .val (.str a) => k a
  | _ => False
@[simp] theorem e_strK {kl : Str → Prop} : strK (.val (.str x)) kl = kl x := rfl
def strsR (d : D) : Option (List Str) := match d with
  | .list ds => strsD ds
  | .tup ds => strsD ds
  | _ => none
@[simp] theorem e_strs1 : strsR (.list ds) = strsD ds := rfl
@[simp] theorem e_strs2 : strsR (.tup ds) = strsD ds := rfl
@[simp] theorem e_wJoin {wo : WE} : wJoin wo we ρ k kx = wo ρ (fun r ρ1 => strK r fun a => we ρ1 (fun r2 ρ2 => ∃ ys, strsR r2.toD = some ys ∧ (ys.map (·.length)).sum + ys.length * a.length ≤ 16777216 ∧ k (.val (.str (Txt.join a ys))) ρ2) kx) kx := by
  unfold wJoin strK strsR
  rfl
end
-- which built-in type is which
@[simp] theorem kb_str_str : kitB "str" "str" = some true := by decide +kernel
@[simp] theorem kb_non_str : kitB "NoneType" "str" = some false := by decide +kernel
@[simp] theorem kb_bool_str : kitB "bool" "str" = some false := by decide +kernel
@[simp] theorem kb_int_str : kitB "int" "str" = some false := by decide +kernel
@[simp] theorem kb_list_str : kitB "list" "str" = some false := by decide +kernel
@[simp] theorem kb_tup_str : kitB "tuple" "str" = some false := by decide +kernel
@[simp] theorem kb_dict_str : kitB "dict" "str" = some false := by decide +kernel
end HD

namespace HD
open PySem L2
/-- a name that can be called with n positional values and keywords ks, in the parameters' order -/
structure CalK (P : Program) (w : World) (K : PySem.W.Frag) (mg : Str → Option Value) (base : Heap) (k : Nat) (x : Str) (n : Nat) (ks : List Str) (sp : SpD) : Prop where
  ex : ∃ (f : Addr) (fd : FuncData) (ps : List Str), FnG P w K mg base CX0 k f fd ps (toSp K sp) ∧ mg x = some (.ref f) ∧ PySem.W.keepIn K (.ref f) = true ∧
    ∀ (s : Shared) (us ws : List Value), us.length = n → ws.length = ks.length → BindsTo s fd ⟨us, ks.zip ws⟩ (ps.zip (us ++ ws))
def DK (X : Cx) (E : St → XK) (kws : List Keyword) (w : WA) : Prop := PK X kws (liftA X.K E w)
theorem PK.imp {X : Cx} {kws : List Keyword} {t t' : TA} (h : PK X kws t) (i : ∀ σ H Q, t' σ H Q → t σ H Q) : PK X kws t' := ⟨fun pos pins s σ H Q I q => h.run pos pins s σ H Q I (i σ H Q q)⟩
section
variable {X : Cx} {E : L2.St → XK}
theorem dk_nil : DK X E [] wNil := by
  refine PK.imp pk_nil ?_
  rintro σ H Q ⟨P, W, ρ, k, kx, rfl, M, h, hk, _⟩
  exact hk _ _ h [] W W.le_refl M .nil
theorem dk_cons {nm : Option Str} {kpos : Pos} {e : Expr} {es : List Keyword} {wa : WE} {ws : WA} (ha : DE X E e wa) (hs : DK X E es ws) : DK X E (⟨nm, e, kpos⟩ :: es) (wCons wa ws) := by
  refine PK.imp (pk_cons ha hs) ?_
  rintro σ H Q ⟨P, W, ρ, k, kx, rfl, M, h, hk, hx⟩
  refine ⟨P, W, ρ, _, kx, rfl, M, h, fun r ρ1 h1 v W1 l1 M1 r1 => ?_, hx⟩
  obtain ⟨W2, e2, l2, M2, r2⟩ := r1.nown M1
  refine ⟨P, W2, ρ1, _, kx, e2, M2, h1, fun rs ρ2 h2 vs W3 l3 M3 r3 => ?_, hx.le (l1.trans l2)⟩
  exact hk _ _ h2 (v :: vs) W3 ((l1.trans l2).trans l3) M3 (.cons (r2.le l3) r3)
theorem RelAs.append {K : PySem.W.Frag} {P : PM K} {σ : L2.St} {W : Wd} {vs us : List V} {rs ss : List R} (h : RelAs K P σ W vs rs) (g : RelAs K P σ W us ss) : RelAs K P σ W (vs ++ us) (rs ++ ss) := by
  induction h with
  | nil => exact g
  | cons h _ ih => exact .cons h ih
/-- f(a, .., k = b, ..) -/
def wCallK (n m : Nat) (sp : SpD) (ws wk : WA) : WE := fun ρ k kx => ws ρ (fun rs ρ1 => rs.length = n ∧ wk ρ1 (fun rs2 ρ2 => rs2.length = m ∧ R.holds (rs ++ rs2) ρ2 ∧ sp ((rs ++ rs2).map R.toD) (fun e => if (R.brws (rs ++ rs2) && !e.pure) = true then k e.toR (R.fzs (rs ++ rs2) ρ2) else k e.toR ρ2) (fun _ => False)) kx) kx
@[simp] theorem e_wCallK {n m : Nat} {sp : SpD} {ws wk : WA} {ρ : Env} {k : R → Env → Prop} {kx : D → Env → Prop} : wCallK n m sp ws wk ρ k kx = ws ρ (fun rs ρ1 => rs.length = n ∧ wk ρ1 (fun rs2 ρ2 => rs2.length = m ∧ R.holds (rs ++ rs2) ρ2 ∧ sp ((rs ++ rs2).map R.toD) (fun e => if (R.brws (rs ++ rs2) && !e.pure) = true then k e.toR (R.fzs (rs ++ rs2) ρ2) else k e.toR ρ2) (fun _ => False)) kx) kx := rfl
open PySem.Spec PyProof.Rows in
theorem FnG.callK {CX : CXT} {k : Nat} {f : Addr} {fd : FuncData} {ps ks : List Str} {sp : Sp} {Ec : XK} {pins : List (Addr × Obj)} {σ : L2.St} {H : Hp} {s : Shared} {Q : VK} {us ws : List Value} {vs : List V} (F : FnG X.prog X.w X.K X.mg X.base CX k f fd ps sp) (gu : X.A.guards = some []) (ro : Room k X.A)
    (bi : BindsTo s fd ⟨us, ks.zip ws⟩ (ps.zip (us ++ ws))) (px : Passes CX X Ec) (J : Inv X pins σ H s) (rv : Vals vs (us ++ ws)) (q : sp vs H Q Ec) : wpAny (model X.prog X.w) X.A (PySem.call (.ref f) us (ks.zip ws)) (EP X pins σ Q) X.xe s := by
  have run := F.go X.A X.stack s H ⟨us, ks.zip ws⟩ (us ++ ws) vs Q Ec gu ro J.env0 bi rv q
  refine wpAny_call (codeAny_mono run ?_)
  intro res s2 h2
  match res, h2 with
  | .error e, h2 => exact px pins σ H s e s2 J h2
  | .ok (.ret _), h2 => exact J.after h2
  | .ok .next, h2 => exact h2.elim
  | .ok .brk, h2 => exact h2.elim
  | .ok .cont, h2 => exact h2.elim
/-- what a call asks, from the arguments -/
theorem callK_run {n m : Nat} {sp : SpD} {ws wk : WA} {σ : L2.St} {H : Hp} {Q : VK} (h : lift X.K E (wCallK n m sp ws wk) σ H Q) :
    liftA X.K E ws σ H fun vs H1 => vs.length = n ∧ liftA X.K E wk σ H1 fun us H2 => us.length = m ∧ toSp X.K sp (vs ++ us) H2 Q E0 := by
  obtain ⟨P, W, ρ, k, kx, rfl, M, h, hk, hx⟩ := h
  refine ⟨P, W, ρ, _, kx, rfl, M, h, fun rs ρ1 h1 vs W1 l1 M1 ra => ⟨ra.length.trans h1.1, ?_⟩, hx⟩
  refine ⟨P, W1, ρ1, _, kx, rfl, M1, h1.2, fun rs2 ρ2 h2 us W2 l2 M2 rb => ⟨rb.length.trans h2.1, ?_⟩, hx.le l1⟩
  have ra2 := (ra.le l2).append rb
  -- the first values stand where they stood
  obtain ⟨_, q1, q2⟩ := h2
  obtain ⟨W3, e3, l3, M3, rp, new⟩ := RelAs.freeze M2 ra2 q1
  refine ⟨P, W3, _, _, _, e3, M3.bas, rp, q2, fun e he v W4 A rn => ?_, fun x hx => hx.elim⟩
  have he' : if (R.brws (rs ++ rs2) && !e.pure) = true then k e.toR (R.fzs (rs ++ rs2) ρ2) else k e.toR ρ2 := he
  have lW := l1.trans l2
  split at he'
  · exact hk _ _ he' v W4 ((lW.trans l3).trans A.le) (M3.alc A) (rn.toR M3 A)
  · rename_i hn
    cases hb : R.brws (rs ++ rs2) with
    | false =>
      rw [fzs_nobrw hb] at M3
      exact hk _ _ he' v W4 ((lW.trans l3).trans A.le) (M3.alc A) (rn.toR M3 A)
    | true =>
      rw [hb, Bool.true_and] at hn
      have pu : e.pure = true := by
        cases z : e.pure with
        | true => rfl
        | false => rw [z] at hn; exact (hn rfl).elim
      obtain ⟨W5, e5, l5, M5, r5⟩ := unborrow M2 e3 l3 new A rn pu
      have := hk _ _ he' v W5 (lW.trans l5) M5 r5
      rw [e5] at this
      exact this
open PySem.Spec PyProof.Rows in
theorem de_callK0 {x : Str} {kws : List Keyword} {p pos : Pos} {sp : SpD} {wk : WA} {j k : Nat} {ks : List Str} (c : CalK X.prog X.w X.K X.mg X.base k x 0 ks sp) (gu : X.A.guards = some []) (hr : Room j X.A) (hk : k ≤ j) (hg : Gl X x) (hkw : DK X E kws wk)
    (hall : (backToKw pos (keywordEach kws X.env)).all (·.1.isSome) = true := by rfl) (hks : (backToKw pos (keywordEach kws X.env)).filterMap (·.1) = ks := by rfl) (hdb : (x == ("__debug__" : Str)) = false := by decide)
    (hpl : ((backTo pos (starEach [] X.env)).any (·.1) || (backToKw pos (keywordEach kws X.env)).any (·.1.isNone)) = false := by rfl) : DE X E (.Call (.Name x p) [] kws pos) (wCallK 0 ks.length sp wNil wk) := by
  obtain ⟨f, fd, ps, F, hm, kp, hb⟩ := c.ex
  constructor
  intro pins s σ H Q J h
  apply wpAny_Call_Name_kw
  apply ld_glob J hg hm _ hdb
  refine PySem.W.callWith_KW0 (h₀ := X.base) J.ok.mod.kin kp hall ?_ hpl
  have h2 := callK_run h
  obtain ⟨P, W, ρ, k2, kx, rfl, M, hn, hk2, _⟩ := h2
  obtain ⟨_, h3⟩ := hk2 _ _ hn [] W W.le_refl M .nil
  refine thn (hkw.run pos pins s σ _ _ J h3) ?_
  rintro ws s1 ⟨vs, H1, J1, rv, l, q⟩
  refine ⟨J1.kIn, ?_⟩
  rw [hks]
  exact F.callK (us := []) gu (hr.mono hk) (hb s1 [] ws rfl (rv.length.symm.trans l)) pass0 J1 rv q
open PySem.Spec PyProof.Rows in
theorem de_callK {x : Str} {e : Expr} {es : List Expr} {kws : List Keyword} {p pos : Pos} {sp : SpD} {ws wk : WA} {j k n : Nat} {ks : List Str} (c : CalK X.prog X.w X.K X.mg X.base k x n ks sp) (gu : X.A.guards = some []) (hr : Room j X.A) (hk : k ≤ j) (hg : Gl X x) (ha : DA X E (e :: es) ws) (hkw : DK X E kws wk)
    (hall : (backToKw pos (keywordEach kws X.env)).all (·.1.isSome) = true := by rfl) (hks : (backToKw pos (keywordEach kws X.env)).filterMap (·.1) = ks := by rfl) (hdb : (x == ("__debug__" : Str)) = false := by decide)
    (he : starEach (e :: es) X.env = (false, eval e X.env) :: starEach es X.env := by rfl) (hpl : ((backTo pos (starEach (e :: es) X.env)).any (·.1) || (backToKw pos (keywordEach kws X.env)).any (·.1.isNone)) = false := by rfl) : DE X E (.Call (.Name x p) (e :: es) kws pos) (wCallK n ks.length sp ws wk) := by
  obtain ⟨f, fd, ps, F, hm, kp, hb⟩ := c.ex
  constructor
  intro pins s σ H Q J h
  apply wpAny_Call_Name_kw
  apply ld_glob J hg hm _ hdb
  refine PySem.W.callWith_KW (h₀ := X.base) J.ok.mod.kin kp hall (thn (ha.run pos pins s σ _ _ J (callK_run h)) ?_) hpl he
  rintro us s1 ⟨vs, H1, J1, rv, l1, q1⟩
  refine thn (hkw.run pos pins s1 σ _ _ J1 q1) ?_
  rintro ws s2 ⟨zs, H2, J2, rz, l2, q2⟩
  refine ⟨J2.kIn, ?_⟩
  rw [hks]
  exact F.callK gu (hr.mono hk) (hb s2 us ws (rv.length.symm.trans l1) (rz.length.symm.trans l2)) pass0 J2 (rv.append rz) q2
def D.isSeq : D → Bool
  | .list _ => true
  | .tup _ => true
  | _ => false
def cRepr : List D → (EE → Prop) → Prop := fun ds k => match ds with
  | [d] => d.isSeq = true ∧ d.fits 60 = true ∧ d.py.showable = true ∧ d.py.shown.length ≤ sizeLine ∧ k (.val (.str d.py.shown))
  | _ => False
@[simp] theorem e_repr {d : D} {kt : EE → Prop} : cRepr [d] kt = (d.isSeq = true ∧ d.fits 60 = true ∧ d.py.showable = true ∧ d.py.shown.length ≤ sizeLine ∧ kt (.val (.str d.py.shown))) := rfl
theorem cd_repr (gu : X.A.guards = some []) (hu : X.A.units + 65 < cLine) : CallD X (.builtin "repr") cRepr := CallD.mk fun pins s σ P W xs us ds kt Q I rv b r q hk => by
  unfold cRepr at q
  split at q <;> first | exact q.elim | skip
  rename_i d
  obtain ⟨v, rfl, r1⟩ := r.one
  obtain ⟨q0, q1, q2, q3, q⟩ := q
  obtain ⟨u, rfl, ru⟩ := vals1 rv
  have dp := r1.dp b q1
  obtain ⟨as, rd⟩ := Dp.reads I _ v u dp ru
  have can := D.py_can d 60 q1
  have dep := D.py_depth d 60 q1
  obtain ⟨a, rfl⟩ : ∃ a, v = .ref a := by
    cases d <;> first | (cases q0; done) | skip
    · obtain ⟨p, vs, rfl, _⟩ := sqL_own r1 b; exact ⟨p, rfl⟩
    · obtain ⟨p, vs, rfl, _⟩ := sqT_rd r1 b; exact ⟨p, rfl⟩
  cases ru
  refine PySem.repr_of_reads' rd q2 (fun e => by rw [PyData.hasDict_of_canLay _ can] at e; cases e) gu (by omega) (fun _ _ e => e) (fun h' u tk keep => ?_) q3
  exact ⟨.str _, W.H, I.kept fun b o e => keep b o e, ⟨_, rfl⟩, hk _ q _ W (.refl b) (Rp.str _)⟩
end

section
variable {P : Program} {w : World} {K : PySem.W.Frag} {mg : Str → Option Value} {base : Heap} {x qual : Str} {pa : Arguments} {body : List Stmt} {scope : Scope} {f : Addr} {fd : FuncData} {ps : List Str} {k : Nat} {sp : SpD}
theorem cal_of (F : FunD K x qual pa body scope [] [] f fd) (h : FnG P w K mg base CX0 k f fd ps (toSp K sp)) (hm : mg x = some (.ref f))
    (hb : ∀ (kV doc pm : Value) (an : Option Addr) (cdv ct : Value) (us : List Value), us.length = ps.length → bindArgs (PySem.W.fnOf x qual pa body scope .none kV doc pm an cdv ct) ⟨us, []⟩ = pure (ps.zip us)) : Cal P w K mg base k x sp [] :=
  ⟨f, fd, ps, [], [], h, hm, F.kp, F.bindsN hb, .nil, fun _ _ => .nil⟩
theorem calK_of {n : Nat} {ks : List Str} (F : FunD K x qual pa body scope [] [] f fd) (h : FnG P w K mg base CX0 k f fd ps (toSp K sp)) (hm : mg x = some (.ref f))
    (hb : ∀ (kV doc pm : Value) (an : Option Addr) (cdv ct : Value) (us ws : List Value), us.length = n → ws.length = ks.length → bindArgs (PySem.W.fnOf x qual pa body scope .none kV doc pm an cdv ct) ⟨us, ks.zip ws⟩ = pure (ps.zip (us ++ ws))) : CalK P w K mg base k x n ks sp := by
  refine ⟨f, fd, ps, h, hm, F.kp, fun s us ws l1 l2 => ?_⟩
  obtain ⟨oc, od, dV, kV, doc, pm, an, cdv, ct, osl, rfl, lk, hcd, hD, hK⟩ := F.ex
  rcases hD with ⟨_, rfl⟩ | ⟨e, _⟩
  · exact .of_eq (hb kV doc pm an cdv ct us ws l1 l2)
  · exact absurd rfl e
end
end HD

namespace HD
open PySem L2
/-- which key a value is -/
def dKey : D → Option Key
  | .int i => some (.inl i)
  | .str x => some (.inr x)
  | _ => none
theorem dKey_kD (k : Key) : dKey (kD k) = some k := by cases k <;> rfl
def keq (a b : D) : Bool := decide (dKey a = dKey b)
theorem keq_kD (a b : Key) : keq (kD a) (kD b) = decide (a = b) := by
  unfold keq
  rw [dKey_kD, dKey_kD]
  by_cases h : a = b
  · subst h; simp
  · rw [decide_eq_false h]
    exact decide_eq_false fun z => h (Option.some.inj z)
def putD (kvs : List (D × D)) (k v : D) : List (D × D) := if (kvs.any fun kv => keq kv.1 k) = true then kvs.map (fun kv => if keq kv.1 k = true then (kv.1, v) else kv) else kvs ++ [(k, v)]
def mergeD (kvs more : List (D × D)) : List (D × D) := more.foldl (fun acc kv => putD acc kv.1 kv.2) kvs
def valD (kvs : List (D × D)) (k : D) : Option D := (kvs.find? fun kv => keq kv.1 k).map (·.2)
section
variable {K : PySem.W.Frag} {G : Sg} {Hi : Hp}
theorem RpKv.append : ∀ {ks : List (Key × V)} {ds : List (D × D)} {k : Key} {v : V} {d : D}, RpKv K G Hi ks ds → Rp K G Hi v d → RpKv K G Hi (ks ++ [(k, v)]) (ds ++ [(kD k, d)])
  | _, _, _, _, _, .nil, h => .cons h .nil
  | _, _, _, _, _, .cons g r, h => .cons g (RpKv.append r h)
theorem RpKv.any {k : Key} : ∀ {ks : List (Key × V)} {ds : List (D × D)}, RpKv K G Hi ks ds → (ds.any fun kv => keq kv.1 (kD k)) = ks.any fun kv => decide (kv.1 = k)
  | _, _, .nil => rfl
  | _, _, .cons (k := k2) _ r => by
    rw [List.any_cons, List.any_cons, RpKv.any r, keq_kD]
theorem RpKv.swap {k : Key} {v : V} {d : D} (h : Rp K G Hi v d) : ∀ {ks : List (Key × V)} {ds : List (D × D)}, RpKv K G Hi ks ds → RpKv K G Hi (ks.map fun kv => if kv.1 = k then (kv.1, v) else kv) (ds.map fun kv => if keq kv.1 (kD k) = true then (kv.1, d) else kv)
  | _, _, .nil => .nil
  | _, _, .cons (k := k2) g r => by
    by_cases e : k2 = k
    · simp only [List.map_cons, keq_kD, e, decide_true, if_true]
      exact .cons h (RpKv.swap h r)
    · simp only [List.map_cons, keq_kD, e, decide_false, if_false, Bool.false_eq_true]
      exact .cons g (RpKv.swap h r)
theorem RpKv.put {ks : List (Key × V)} {ds : List (D × D)} {k : Key} {v : V} {d : D} (r : RpKv K G Hi ks ds) (h : Rp K G Hi v d) : RpKv K G Hi (putK ks k v) (putD ds (kD k) d) := by
  unfold putK putD
  rw [RpKv.any (k := k) r]
  split
  · exact RpKv.swap h r
  · exact RpKv.append r h
theorem RpKv.merge : ∀ {more : List (Key × V)} {dm : List (D × D)} {ks : List (Key × V)} {ds : List (D × D)}, RpKv K G Hi more dm → RpKv K G Hi ks ds → RpKv K G Hi (mergeK ks more) (mergeD ds dm)
  | _, _, _, _, .nil, r => r
  | _, _, ks, ds, .cons (k := k) (v := v) (d := d) (ks := more) (ds := dm) h m, r => (RpKv.merge m (r.put h) : RpKv K G Hi (mergeK (putK ks k v) more) (mergeD (putD ds (kD k) d) dm))
theorem RpKv.length : ∀ {ks : List (Key × V)} {ds : List (D × D)}, RpKv K G Hi ks ds → ks.length = ds.length
  | _, _, .nil => rfl
  | _, _, .cons _ r => by rw [List.length_cons, List.length_cons, RpKv.length r]
theorem RpKv.val {k : Key} : ∀ {ks : List (Key × V)} {ds : List (D × D)}, RpKv K G Hi ks ds → (valD ds (kD k) = none ∧ valV ks k = none) ∨ ∃ v d, valD ds (kD k) = some d ∧ valV ks k = some v ∧ Rp K G Hi v d
  | _, _, .nil => .inl ⟨rfl, rfl⟩
  | _, _, .cons (k := k2) (v := v) (d := d) (ks := ks) (ds := ds) g r => by
    by_cases e : k2 = k
    · refine .inr ⟨_, _, ?_, valV_pos e, g⟩
      show ((((kD k2, d) :: ds).find? fun kv => keq kv.1 (kD k)).map (·.2)) = some d
      rw [List.find?_cons, keq_kD, decide_eq_true e]
      rfl
    · rw [show valD ((kD k2, d) :: ds) (kD k) = valD ds (kD k) by
        show ((((kD k2, d) :: ds).find? fun kv => keq kv.1 (kD k)).map (·.2)) = _
        rw [List.find?_cons, keq_kD, decide_eq_false e]
        rfl, valV_neg e]
      exact RpKv.val r
inductive RpPs (K : PySem.W.Frag) (G : Sg) (Hi : Hp) : List (V × V) → List (D × D) → Prop
  | nil : RpPs K G Hi [] []
  | cons {k : Key} {v : V} {d : D} {vs : List (V × V)} {ds : List (D × D)} : Rp K G Hi v d → RpPs K G Hi vs ds → RpPs K G Hi ((kV k, v) :: vs) ((kD k, d) :: ds)
theorem RpPs.kvs : ∀ {vs : List (V × V)} {ds : List (D × D)}, RpPs K G Hi vs ds → ∃ kvs : List (Key × V), vs = kvs.map (fun kv => (kV kv.1, kv.2)) ∧ RpKv K G Hi kvs ds
  | _, _, .nil => ⟨[], rfl, .nil⟩
  | _, _, .cons (k := k) h r => by
    obtain ⟨kvs, rfl, q⟩ := RpPs.kvs r
    exact ⟨(k, _) :: kvs, rfl, .cons h q⟩
end
theorem rp_key {K : PySem.W.Frag} {G : Sg} {Hi : Hp} {v : V} {d : D} {k : Key} (h : Rp K G Hi v d) (e : dKey d = some k) : v = kV k ∧ d = kD k := by
  cases d <;> first | (cases e; done) | skip
  · cases h; cases e; exact ⟨rfl, rfl⟩
  · cases h; cases e; exact ⟨rfl, rfl⟩
/-- the key that a result is -/
def keyK (r : R) (k : D → Prop) : Prop := match r with
  | .val d => (dKey d).isSome = true ∧ k d
  | _ => False
@[simp] theorem e_keyK1 {x : Str} {k : D → Prop} : keyK (.val (.str x)) k = k (.str x) := by
  show ((dKey (.str x)).isSome = true ∧ k (.str x)) = _
  simp [dKey]
@[simp] theorem e_keyK2 {i : Int} {k : D → Prop} : keyK (.val (.int i)) k = k (.int i) := by
  show ((dKey (.int i)).isSome = true ∧ k (.int i)) = _
  simp [dKey]
def wPairs : List (WE × WE) → Env → (List (D × D) → Env → Prop) → (D → Env → Prop) → Prop
  | [], ρ, k, _ => k [] ρ
  | (wk, wv) :: r, ρ, k, kx => wk ρ (fun rk ρ1 => keyK rk fun kd => wv ρ1 (fun rv ρ2 => wPairs r (rv.fz ρ2) (fun ps ρ3 => k ((kd, rv.toD) :: ps) ρ3) kx) kx) kx
@[simp] theorem e_wPairs0 {ρ : Env} {k : List (D × D) → Env → Prop} {kx : D → Env → Prop} : wPairs [] ρ k kx = k [] ρ := rfl
@[simp] theorem e_wPairs1 {wk wv : WE} {r : List (WE × WE)} {ρ : Env} {k : List (D × D) → Env → Prop} {kx : D → Env → Prop} : wPairs ((wk, wv) :: r) ρ k kx = wk ρ (fun rk ρ1 => keyK rk fun kd => wv ρ1 (fun rv ρ2 => wPairs r (rv.fz ρ2) (fun ps ρ3 => k ((kd, rv.toD) :: ps) ρ3) kx) kx) kx := rfl
def wDisp (ws : List (WE × WE)) : WE := fun ρ k kx => wPairs ws ρ (fun ps ρ1 => ps.length ≤ 15 ∧ k (.own (.dct (mergeD [] ps))) ρ1) kx
@[simp] theorem e_wDisp {ws : List (WE × WE)} {ρ : Env} {k : R → Env → Prop} {kx : D → Env → Prop} : wDisp ws ρ k kx = wPairs ws ρ (fun ps ρ1 => ps.length ≤ 15 ∧ k (.own (.dct (mergeD [] ps))) ρ1) kx := rfl
def wD0 : WE := fun ρ k _ => k (.own (.dct [])) ρ
@[simp] theorem e_wD0 {ρ : Env} {k : R → Env → Prop} {kx : D → Env → Prop} : wD0 ρ k kx = k (.own (.dct [])) ρ := rfl
section
variable {X : Cx} {E : St → XK}
def DPs (X : Cx) (E : St → XK) (pos : Pos) (keys : List (Option Expr)) (values : List Expr) (ws : List (WE × WE)) : Prop := PPs X pos keys values (ws.map fun p => (lift X.K E p.1, lift X.K E p.2))
theorem dp_nil {pos : Pos} : DPs X E pos [] [] [] := pps_nil
theorem dp_cons {pos : Pos} {k v : Expr} {ks : List (Option Expr)} {vs : List Expr} {wk wv : WE} {ws : List (WE × WE)} (hk : DE X E k wk) (hv : DE X E v wv) (hr : DPs X E pos ks vs ws) : DPs X E pos (some k :: ks) (v :: vs) ((wk, wv) :: ws) := pps_cons hk hv hr
theorem pairs_run {K : PySem.W.Frag} {σ : St} : ∀ {ws : List (WE × WE)} {P : PM K} {W : Wd} {ρ : Env} {k : List (D × D) → Env → Prop} {kx : D → Env → Prop} {Q : List (V × V) → Hp → Prop}, Mod P σ W ρ → wPairs ws ρ k kx →
    (∀ ps ρ', k ps ρ' → ∀ vs W', W.le W' → Mod P σ W' ρ' → RpPs K P.G W'.Hi vs ps → Q vs W'.H) → Exc P σ (E σ) W kx → tPairs (ws.map fun p => (lift K E p.1, lift K E p.2)) σ W.H Q
  | [], P, W, ρ, k, kx, Q, M, h, hk, _ => hk [] ρ h [] W W.le_refl M .nil
  | (wk, wv) :: ws, P, W, ρ, k, kx, Q, M, h, hk, hx => by
    refine ⟨P, W, ρ, _, kx, rfl, M, h, fun rk ρ1 h1 v W1 l1 M1 rr1 => ?_, hx⟩
    cases rk with
    | own o => exact h1.elim
    | brw i o => exact h1.elim
    | val kd =>
      obtain ⟨z, h1⟩ := h1
      obtain ⟨key, ek⟩ := Option.isSome_iff_exists.mp z
      have r1 : Rp K P.G W1.Hi v kd := rr1
      obtain ⟨rfl, rfl⟩ := rp_key r1 ek
      refine ⟨P, W1, ρ1, _, kx, rfl, M1, h1, fun rv ρ2 h2 v2 W2 l2 M2 rr2 => ?_, hx.le l1⟩
      obtain ⟨W3, e3, l3, M3, r3⟩ := RelR.freeze M2 rr2
      rw [← e3]
      exact pairs_run M3 h2 (fun ps ρ' q vs W4 l4 M4 rp => hk _ _ q _ W4 (((l1.trans l2).trans l3).trans l4) M4 (.cons (r3.mono l4) rp)) (hx.le ((l1.trans l2).trans l3))
theorem de_disp {pos : Pos} {keys : List (Option Expr)} {values : List Expr} {ws : List (WE × WE)} (h : DPs X E pos keys values ws) (hall : keys.all (·.isSome) = true := by rfl) (hl : keys.length = values.length := by rfl) (h0 : keys ≠ [] := by simp) (h15 : keys.length ≤ 15 := by decide) :
    DE X E (.Dict keys values pos) (wDisp ws) := by
  refine PE.imp (pe_disp h hall hl h0 h15) ?_
  rintro σ H Q ⟨P, W, ρ, k, kx, rfl, M, hw, hk, hx⟩ p hp
  have A := Alc.newOwn M.bas hp (.dK [])
  have n : P.W0.H p = none ∧ P.W0.Hi p = none := (M.bas).holdN (M.bas.new0 hp) (M.bas.hiNone hp)
  have M0 := M.alc A
  have no : NotOwn σ ρ p := fun i o' q z => by
    obtain ⟨u, hu⟩ := (M.ownAt q z).there
    rw [hp] at hu
    cases hu
  have M1 : Mod (P.hold p (.dK []) n) σ ⟨W.Hi, upd W.H p (.dK [])⟩ ρ := M0.hold upd_same (M.bas.hiNone hp) no
  refine pairs_run (E := E) M1 hw (fun ps ρ' q vs W' l M' rp => ?_) (hx.le A.le).hold
  obtain ⟨kvs, ev, rk⟩ := rp.kvs
  obtain ⟨M2, g1, g2, g3⟩ := M'.unhold
  refine ⟨g1, kvs, ev, by rw [rk.length]; exact q.1, ?_⟩
  refine hk _ _ q.2 (.ref p) ⟨W'.Hi, upd W'.H p (.dK (mergeK [] kvs))⟩ (A.le.trans l) (M2.updAt n.1 g2 g3) ⟨p, rfl, ?_, g3⟩
  exact ⟨n.1, g2, _, upd_same, RpKv.merge rk .nil⟩
theorem de_d0 {pos : Pos} : DE X E (.Dict [] [] pos) wD0 := by
  refine PE.imp pe_dnewK ?_
  rintro σ H Q ⟨P, W, ρ, k, kx, rfl, M, hw, hk, hx⟩ p hp
  have A := Alc.newOwn M.bas hp (.dK [])
  exact hk _ _ hw (.ref p) _ A.le (M.alc A) (RelR.ownNew M hp (show OwnAt P _ p (.dct []) from ⟨M.bas.new0 hp, M.bas.hiNone hp, [], upd_same, .nil⟩))
end
end HD

namespace HD
open PySem L2
/-- a text of at most n signs, all of Unicode -/
def okS (n : Nat) (x : Str) : Prop := x.cps.toList.length ≤ n ∧ ∀ c ∈ x.cps.toList, c < 0x110000
theorem len_str (x : Str) : x.length = x.cps.toList.length := by simp [Str.length]
theorem okS.fits {n m : Nat} {x : Str} (h : okS n x) : (D.str x).fits m = true := by
  have e : (D.str x).fits m = x.cps.all (· < 0x110000) := by cases m <;> rfl
  rw [e, ← Array.all_toList, List.all_eq_true]
  exact fun c hc => decide_eq_true (h.2 c hc)
theorem app_tl (x y : Str) : (x ++ y).cps.toList = x.cps.toList ++ y.cps.toList := by rw [Str.cps_append, Array.toList_append]
theorem okS.append {n m : Nat} {x y : Str} (h : okS n x) (g : okS m y) : okS (n + m) (x ++ y) := by
  refine ⟨?_, fun c hc => ?_⟩
  · rw [app_tl, List.length_append]
    have := h.1
    have := g.1
    omega
  · rw [app_tl] at hc
    rcases List.mem_append.mp hc with z | z
    · exact h.2 c z
    · exact g.2 c z
theorem cut_tl (x : Str) (lo hi : Option Int) : (cutS x lo hi).cps.toList = (x.cps.toList.drop (HT.sIx x.length 0 lo)).take (HT.sIx x.length x.length hi - HT.sIx x.length 0 lo) := by
  unfold cutS
  simp
theorem okS.cut {n : Nat} {x : Str} (h : okS n x) (lo hi : Option Int) : okS n (cutS x lo hi) := by
  refine ⟨?_, fun c hc => ?_⟩
  · rw [cut_tl, List.length_take, List.length_drop]
    have := h.1
    omega
  · rw [cut_tl] at hc
    exact h.2 c (List.mem_of_mem_drop (List.mem_of_mem_take hc))
theorem okS.mono {n m : Nat} {x : Str} (h : okS n x) (l : n ≤ m) : okS m x := ⟨Nat.le_trans h.1 l, h.2⟩
theorem okS.one {c : Nat} (h : c < 0x110000) : okS 1 ⟨#[c]⟩ := ⟨Nat.le_refl _, fun d hd => by
  have : d = c := by simpa using hd
  rw [this]
  exact h⟩
theorem okS.of {n : Nat} {x : Str} (h : (decide (x.cps.toList.length ≤ n) && x.cps.toList.all (· < 0x110000)) = true) : okS n x := by
  rw [Bool.and_eq_true, decide_eq_true_eq, List.all_eq_true] at h
  exact ⟨h.1, fun c hc => by simpa using h.2 c hc⟩
theorem joinL_nil : ∀ ps : List (List Nat), TL.joinL [] ps = ps.flatten
  | [] => rfl
  | [p] => by simp [TL.joinL]
  | p :: q :: r => by
    show p ++ ([] ++ TL.joinL [] (q :: r)) = _
    rw [joinL_nil (q :: r)]
    rfl
theorem join0_tl {z : Str} (hz : z.cps.toList = []) (ys : List Str) : (Txt.join z ys).cps.toList = (ys.map fun y => y.cps.toList).flatten := by
  have h := TL.tl_join z ys
  rw [TL.join_eq]
  have e : TL.joinL (TL.tl z) (ys.map TL.tl) = (ys.map TL.tl).flatten := by
    rw [show TL.tl z = [] from hz]
    exact joinL_nil _
  exact (h.trans e)
theorem sum_le {n : Nat} : ∀ {ys : List Nat}, (∀ y ∈ ys, y ≤ n) → ys.sum ≤ ys.length * n
  | [], _ => by simp
  | y :: ys, h => by
    have h1 := h y List.mem_cons_self
    have h2 := sum_le (n := n) (ys := ys) fun z hz => h z (List.mem_cons_of_mem _ hz)
    rw [List.sum_cons, List.length_cons, Nat.add_mul, Nat.one_mul]
    omega
theorem okS.join {z : Str} (hz : z.cps.toList = []) {n m : Nat} {ys : List Str} (h : ∀ y ∈ ys, okS m y) (hn : ys.length ≤ n) : okS (n * m) (Txt.join z ys) := by
  refine ⟨?_, fun c hc => ?_⟩
  · rw [join0_tl hz, List.length_flatten, List.map_map]
    refine Nat.le_trans (sum_le (n := m) fun y hy => ?_) ?_
    · obtain ⟨x, hx, rfl⟩ := List.mem_map.mp hy
      exact (h x hx).1
    · rw [List.length_map]
      exact Nat.mul_le_mul_right m hn
  · rw [join0_tl hz] at hc
    obtain ⟨l, hl, hc⟩ := List.mem_flatten.mp hc
    obtain ⟨x, hx, rfl⟩ := List.mem_map.mp hl
    exact (h x hx).2 c hc
theorem sum_len {m : Nat} {ys : List Str} (h : ∀ y ∈ ys, okS m y) : (ys.map (·.length)).sum ≤ ys.length * m := by
  have := sum_le (n := m) (ys := ys.map (·.length)) fun y hy => by
    obtain ⟨x, hx, rfl⟩ := List.mem_map.mp hy
    have := (h x hx).1
    rw [len_str]
    exact this
  rw [List.length_map] at this
  exact this
/-- texts out of data -/
theorem strs_of : ∀ {es : List D}, (∀ e ∈ es, ∃ x, e = .str x) → ∃ ys : List Str, es = ys.map D.str ∧ strsD es = some ys
  | [], _ => ⟨[], rfl, rfl⟩
  | e :: es, h => by
    obtain ⟨x, rfl⟩ := h e List.mem_cons_self
    obtain ⟨ys, rfl, e2⟩ := strs_of fun y hy => h y (List.mem_cons_of_mem _ hy)
    exact ⟨x :: ys, rfl, by show (strsD _).map _ = _; rw [e2]; rfl⟩
theorem atI_of {α : Type} {xs : List α} {r : Int} (h0 : 0 ≤ r) (h1 : r < xs.length) : ∃ x, x ∈ xs ∧ atI xs r = some x := by
  obtain ⟨j, rfl⟩ : ∃ j : Nat, r = (j : Int) := ⟨r.toNat, by omega⟩
  have hj : j < xs.length := by omega
  exact ⟨xs[j], List.getElem_mem hj, atI_nat (List.getElem?_eq_getElem hj)⟩
theorem size_line : sizeLine = 16777216 := sizeLine_eq
@[simp] theorem e_take {n : Int} {kt : EE → Prop} {kx : D → Prop} : spTake [.hnd 0, .int n] kt kx = (0 < n ∧ n ≤ 16777216 ∧ ∀ r : Int, 0 ≤ r → r < n → kt (.val (.int r))) := by
  apply propext
  constructor
  · rintro ⟨m, e, h⟩
    cases e
    exact h
  · exact fun h => ⟨n, rfl, h⟩
theorem take_len (ds : List D) (kt : EE → Prop) (kx : D → Prop) (h : spTake ds kt kx) : ds.length = 2 := by
  obtain ⟨n, rfl, _⟩ := h
  rfl
theorem loopF_inv {wt : WG} {b : WS} {D : Eds} (I : Env → Prop) : ∀ {ds : List HD.D} {ρ : Env}, (∀ d ∈ ds, ∀ (nx : Env → Prop) ρ, I ρ → (∀ ρ', I ρ' → nx ρ') → wt d ρ fun ρ2 => b { D with nx := nx, ct := nx, bk := D.nx } ρ2) → (∀ ρ, I ρ → D.nx ρ) → I ρ → loopF wt b D ds ρ
  | [], ρ, _, hn, i => hn ρ i
  | d :: ds, ρ, h, hn, i => h d List.mem_cons_self _ ρ i fun ρ' i' => loopF_inv I (fun d' hd' => h d' (List.mem_cons_of_mem _ hd')) hn i'
theorem lt_one (a b : Nat) : decide (([a] : List Nat) < [b]) = decide (a < b) := by
  by_cases h : a < b
  · rw [decide_eq_true h]
    exact decide_eq_true (List.Lex.rel h)
  · rw [decide_eq_false h]
    refine decide_eq_false fun z => ?_
    cases z with
    | cons z => cases z
    | rel z => exact h z
@[simp] theorem e_eqv1 {a b : Bool} : D.eqv (.bl a) (.bl b) = (a == b) := by rw [D.eqv]
@[simp] theorem e_eqv2 {a b : Int} : D.eqv (.int a) (.int b) = (a == b) := by rw [D.eqv]
@[simp] theorem e_eqv3 {a b : Str} : D.eqv (.str a) (.str b) = decide (a = b) := by rw [D.eqv]
@[simp] theorem e_eqv4 {a b : List D} : D.eqv (.list a) (.list b) = D.eqvs a b := by rw [D.eqv]
@[simp] theorem e_eqv5 {a b : List D} : D.eqv (.tup a) (.tup b) = D.eqvs a b := by rw [D.eqv]
@[simp] theorem e_eqvs0 : D.eqvs [] [] = true := by rw [D.eqvs]
@[simp] theorem e_eqvs1 {a b : D} {as bs : List D} : D.eqvs (a :: as) (b :: bs) = (D.eqv a b && D.eqvs as bs) := by rw [D.eqvs]
@[simp] theorem e_eqvs2 {a : D} {as : List D} : D.eqvs (a :: as) [] = false := by rw [D.eqvs]; all_goals (intros; simp_all)
@[simp] theorem e_eqvs3 {a : D} {as : List D} : D.eqvs [] (a :: as) = false := by rw [D.eqvs]; all_goals (intros; simp_all)
@[simp] theorem e_fit1 {n : Nat} : D.fits .non n = true := by rw [D.fits]
@[simp] theorem e_fit2 {b : Bool} {n : Nat} : D.fits (.bl b) n = true := by rw [D.fits]
@[simp] theorem e_fit3 {i : Int} {n : Nat} : D.fits (.int i) n = true := by rw [D.fits]
@[simp] theorem e_fit4 {xs : List D} {n : Nat} : D.fits (.list xs) (n + 1) = D.fitss xs n := by rw [D.fits]
@[simp] theorem e_fit5 {xs : List D} {n : Nat} : D.fits (.tup xs) (n + 1) = D.fitss xs n := by rw [D.fits]
@[simp] theorem e_fit4n {xs : List D} : D.fits (.list xs) 60 = D.fitss xs 59 := by rw [D.fits]
@[simp] theorem e_fit5n {xs : List D} : D.fits (.tup xs) 60 = D.fitss xs 59 := by rw [D.fits]
@[simp] theorem e_fits0 {n : Nat} : D.fitss [] n = true := by rw [D.fitss]
@[simp] theorem e_fits1 {d : D} {ds : List D} {n : Nat} : D.fitss (d :: ds) n = (d.fits n && D.fitss ds n) := by rw [D.fitss]
theorem fitss_all {n : Nat} : ∀ {ds : List D}, (∀ d ∈ ds, d.fits n = true) → D.fitss ds n = true
  | [], _ => by rw [D.fitss]
  | d :: ds, h => by
    rw [D.fitss, h d List.mem_cons_self, fitss_all fun x hx => h x (List.mem_cons_of_mem _ hx)]
    rfl
theorem rest_tl {x : Str} (h : 1 ≤ x.cps.toList.length) : (cutS x (some 1) none).cps.toList = x.cps.toList.drop 1 := by
  rw [cut_tl, HT.sIx_none, show (1 : Int) = ((1 : Nat) : Int) from rfl, HT.sIx_nat, len_str, Nat.min_eq_left h]
  refine List.take_of_length_le ?_
  rw [List.length_drop]
  exact Nat.le_refl _
/-- the text of a list of two truths -/
theorem two_shown (a b : Bool) : (D.list [.bl a, .bl b]).py.showable = true ∧ (D.list [.bl a, .bl b]).py.shown.length ≤ 16777216 ∧ okS 20 (D.list [.bl a, .bl b]).py.shown := by
  refine ⟨by cases a <;> cases b <;> decide +kernel, by cases a <;> cases b <;> decide +kernel, ?_⟩
  refine okS.of ?_
  cases a <;> cases b <;> decide +kernel
theorem lt_one_iff (a b : Nat) : ([a] : List Nat) < [b] ↔ a < b := by
  have h := lt_one a b
  by_cases z : a < b
  · rw [decide_eq_true z] at h
    exact ⟨fun _ => z, fun _ => of_decide_eq_true h⟩
  · rw [decide_eq_false z] at h
    exact ⟨fun q => (of_decide_eq_false h q).elim, fun q => (z q).elim⟩
@[simp] theorem le_one_iff (a b : Nat) : ([a] : List Nat) ≤ [b] ↔ a ≤ b := by
  show ¬ ([b] : List Nat) < [a] ↔ _
  rw [lt_one_iff]
  omega
theorem seq_gen {s u : WS} {Dd : Eds} {ρ : Env} (h : ∀ nx : Env → Prop, nx = u Dd → s { Dd with nx := nx } ρ) : sSeq s u Dd ρ := h _ rfl
theorem seq_mid {s u : WS} {Dd : Eds} {ρ : Env} (I : Env → Prop) (h1 : ∀ nx : Env → Prop, (∀ ρ', I ρ' → nx ρ') → s { Dd with nx := nx } ρ) (h2 : ∀ ρ', I ρ' → u Dd ρ') : sSeq s u Dd ρ := h1 _ h2
end HD

namespace K01
open PySem L2 HD
abbrev sp__law_take : SpD := spTake

def n__law_pick : List Str := ["_law_draw", "_law_some"]
def w__law_pick : WS := (sRet (wBin oIx (wVar 1) (wCall sp__law_take [] (wCons (wVar 0) (wCons (wCB cLen (wCons (wVar 1) wNil)) wNil)))))
/-- something that may be drawn from -/
def seqOf : D → List D
  | .list xs => xs
  | .tup xs => xs
  | .str x => x.cps.toList.map fun c => .str ⟨#[c]⟩
  | _ => []
def sp__law_pick : SpD := fun ds kt _ => ∃ s, ds = [.hnd 0, s] ∧ 0 < (seqOf s).length ∧ (seqOf s).length ≤ 16777216 ∧ ∀ x ∈ seqOf s, kt (.val x)
@[simp] theorem e_pick {s : D} {kt : EE → Prop} {kx : D → Prop} : sp__law_pick [.hnd 0, s] kt kx = (0 < (seqOf s).length ∧ (seqOf s).length ≤ 16777216 ∧ ∀ x ∈ seqOf s, kt (.val x)) := by
  apply propext
  constructor
  · rintro ⟨m, e, h⟩
    cases e
    exact h
  · exact fun h => ⟨s, rfl, h⟩
theorem l__law_pick (ds : List D) (kt : EE → Prop) (kx : D → Prop) (h : sp__law_pick ds kt kx) : ds.length = 2 := by
  obtain ⟨n, rfl, _⟩ := h
  rfl
theorem d__law_pick (ds : List D) (kt : EE → Prop) (h : sp__law_pick ds kt (fun _ => False)) : w__law_pick { nx := fun _ => kt (.val .non), rt := kt } (startD n__law_pick ds) := by
  obtain ⟨s, rfl, h0, h1, h⟩ := h
  unfold w__law_pick n__law_pick
  have hz := size_line
  cases s with
  | list xs =>
    have h0' : 0 < xs.length := by simpa [seqOf] using h0
    have h1' : xs.length ≤ 16777216 := by simpa [seqOf] using h1
    simp
    refine ⟨by omega, by omega, fun r r0 r1 => ?_⟩
    obtain ⟨x, hx, e⟩ := atI_of r0 r1
    exact ⟨x, e, h x hx⟩
  | tup xs =>
    have h0' : 0 < xs.length := by simpa [seqOf] using h0
    have h1' : xs.length ≤ 16777216 := by simpa [seqOf] using h1
    simp
    refine ⟨by omega, by omega, fun r r0 r1 => ?_⟩
    obtain ⟨x, hx, e⟩ := atI_of r0 r1
    exact ⟨x, e, h x hx⟩
  | str z =>
    have h0' : 0 < z.length := by rw [len_str]; simpa [seqOf] using h0
    have h1' : z.length ≤ 16777216 := by rw [len_str]; simpa [seqOf] using h1
    simp
    refine ⟨by omega, by omega, by omega, fun r r0 r1 => ⟨by omega, ?_⟩⟩
    rw [len_str] at r1
    obtain ⟨x, hx, e⟩ := atI_of (xs := z.cps.toList) r0 r1
    refine ⟨x, e, h _ ?_⟩
    exact List.mem_map.mpr ⟨x, hx, rfl⟩
  | _ => exact (Nat.not_lt_zero _ h0).elim

def n__law_text : List Str := ["_law_draw", "_law_small", "_law_large", "_law_found", "_law_at", "_law_way", "_law_odd", "_law_turn"]
def w__law_text : WS := (sSeq (sAsg (wTup (wCons (wC (.str (Str.ofString "abcdefghijklmnopqrstuvwxyz"))) (wCons (wC (.str (Str.ofString "ABCDEFGHIJKLMNOPQRSTUVWXYZ"))) wNil))) (gTp 2 (gsCons (gNm 1) (gsCons (gNm 2) gsNil))))
  (sSeq (sSet 3 (wJoin (wC (.str (Str.ofString ""))) (wLc [7] (wRng1 (wCall sp__law_take [] (wCons (wVar 0) (wCons (wC (.int 11)) wNil)))) (gNm 7) tYesD (wCall sp__law_pick [] (wCons (wVar 0) (wCons (wVar 1) wNil))))))
  (sSeq (sIf (wTst (wBin oEq (wCall sp__law_take [] (wCons (wVar 0) (wCons (wC (.int 2)) wNil))) (wC (.int 0)))) (sSet 3 (wBin oAdd (wCall sp__law_pick [] (wCons (wVar 0) (wCons (wVar 2) wNil))) (wSl (wVar 3) wNoP (wP (wCall sp__law_take [] (wCons (wVar 0) (wCons (wC (.int 10)) wNil))))))) sNext)
  (sSeq (sPar 4 5 (wCall sp__law_take [] (wCons (wVar 0) (wCons (wBin oAdd (wCB cLen (wCons (wVar 3) wNil)) (wC (.int 1))) wNil))) (wCall sp__law_take [] (wCons (wVar 0) (wCons (wC (.int 6)) wNil))))
  (sSeq (sSet 6 (wCall sp__law_pick [] (wCons (wVar 0) (wCons (wLst (wCons (wC (.str (Str.ofString "."))) (wCons (wC (.str (Str.ofString " "))) (wCons (wC (.str (Str.ofString "_"))) (wCons (wC (.str (Str.ofString "-"))) (wCons (wC (.str (Str.ofString "0"))) (wCons (wC (.str (Str.ofString "9"))) (wCons (wC (.str (Str.ofString "@"))) (wCons (wC (.str (Str.ofString "["))) (wCons (wC (.str (Str.ofString "{"))) (wCons (wC (.str (Str.ofString "/"))) (wCons (wC (.str (Str.ofString "A"))) (wCons (wC (.str (Str.ofString "Z"))) (wCons (wC (.str (Str.ofString "a"))) (wCons (wC (.str (Str.ofString "z"))) (wCons (wC (.str (Str.ofString ""))) (wCons (wC (.str (Str.ofString "\n"))) wNil))))))))))))))))) wNil))))
  (sSeq (sIf (wTst (wBin oEq (wVar 5) (wC (.int 0)))) (sRet (wBin oAdd (wBin oAdd (wSl (wVar 3) wNoP (wP (wVar 4))) (wVar 6)) (wSl (wVar 3) (wP (wVar 4)) wNoP))) sNext)
  (sSeq (sIf (wTst (wBin oEq (wVar 5) (wC (.int 1)))) (sRet (wBin oAdd (wBin oAdd (wSl (wVar 3) wNoP (wP (wVar 4))) (wVar 6)) (wSl (wVar 3) (wP (wBin oAdd (wVar 4) (wC (.int 1)))) wNoP))) sNext)
  (sRet (wIf (wTst (wBin oEq (wVar 5) (wC (.int 2)))) (wBin oAdd (wVar 3) (wVar 6)) (wVar 3))))))))))
def sp__law_text : SpD := fun ds kt _ => ds = [.hnd 0] ∧ ∀ x, okS 40 x → kt (.val (.str x))
@[simp] theorem e_text {kt : EE → Prop} {kx : D → Prop} : sp__law_text [.hnd 0] kt kx = (∀ x, okS 40 x → kt (.val (.str x))) := by
  unfold sp__law_text
  simp
theorem l__law_text (ds : List D) (kt : EE → Prop) (kx : D → Prop) (h : sp__law_text ds kt kx) : ds.length = 1 := by
  rw [h.1]
  rfl
theorem sm_ok : ∀ e ∈ seqOf (.str (Str.ofString "abcdefghijklmnopqrstuvwxyz")), ∃ x, e = .str x ∧ okS 1 x := by
  intro e he
  obtain ⟨c, hc, rfl⟩ := List.mem_map.mp he
  have : ∀ c ∈ (Str.ofString "abcdefghijklmnopqrstuvwxyz").cps.toList, c < 0x110000 := by decide +kernel
  exact ⟨_, rfl, okS.one (this c hc)⟩
theorem la_ok : ∀ e ∈ seqOf (.str (Str.ofString "ABCDEFGHIJKLMNOPQRSTUVWXYZ")), ∃ x, e = .str x ∧ okS 1 x := by
  intro e he
  obtain ⟨c, hc, rfl⟩ := List.mem_map.mp he
  have : ∀ c ∈ (Str.ofString "ABCDEFGHIJKLMNOPQRSTUVWXYZ").cps.toList, c < 0x110000 := by decide +kernel
  exact ⟨_, rfl, okS.one (this c hc)⟩
theorem sm_len : (seqOf (.str (Str.ofString "abcdefghijklmnopqrstuvwxyz"))).length = 26 := by decide +kernel
theorem la_len : (seqOf (.str (Str.ofString "ABCDEFGHIJKLMNOPQRSTUVWXYZ"))).length = 26 := by decide +kernel
theorem d__law_text (ds : List D) (kt : EE → Prop) (h : sp__law_text ds kt (fun _ => False)) : w__law_text { nx := fun _ => kt (.val .non), rt := kt } (startD n__law_text ds) := by
  obtain ⟨rfl, h⟩ := h
  unfold w__law_text n__law_text
  have hl := size_line
  have osz : ∀ {n : Nat} {x : Str}, okS n x → x.length ≤ n := fun {n x} h => by rw [len_str]; exact h.1
  -- the two alphabets
  refine seq_gen fun nx hn => ?_
  simp
  refine ⟨by omega, ?_⟩
  rw [hn]
  clear hn nx
  -- the first text
  refine seq_mid (fun ρ => ∃ x, okS 10 x ∧ ρ = [some (.val (.hnd 0)), some (.val (.str (Str.ofString "abcdefghijklmnopqrstuvwxyz"))), some (.val (.str (Str.ofString "ABCDEFGHIJKLMNOPQRSTUVWXYZ"))), some (.val (.str x)), none, none, none, none]) (fun nx hn => ?_) ?_
  · simp
    intro r r0 r1
    refine ⟨by omega, ?_⟩
    refine loopC_all (fun e => ∃ x, e = .str x ∧ okS 1 x) (fun d hd kn ky h => ?_) (by simp; omega) fun es hes hp => ?_
    · obtain ⟨i, _, rfl⟩ := List.mem_map.mp hd
      simp [sm_len]
      exact fun e he => h e (sm_ok e he)
    · rw [List.length_map, List.length_range] at hes
      obtain ⟨ys, rfl, ey⟩ := strs_of fun e he => let ⟨x, e1, _⟩ := hp e he; ⟨x, e1⟩
      have ho : ∀ y ∈ ys, okS 1 y := fun y hy => by
        obtain ⟨x, e1, e2⟩ := hp (.str y) (List.mem_map.mpr ⟨y, hy, rfl⟩)
        cases e1
        exact e2
      rw [List.length_map] at hes
      have hs := sum_len ho
      refine ⟨ys, ey, ?_, hn _ ⟨_, (okS.join (by decide +kernel) ho (n := 10) (by omega)).mono (by omega), rfl⟩⟩
      have h0 : (Str.ofString "").length = 0 := by decide +kernel
      rw [h0]
      omega
  rintro ρ ⟨x, ox, rfl⟩
  refine seq_mid (fun ρ => ∃ x, okS 11 x ∧ ρ = [some (.val (.hnd 0)), some (.val (.str (Str.ofString "abcdefghijklmnopqrstuvwxyz"))), some (.val (.str (Str.ofString "ABCDEFGHIJKLMNOPQRSTUVWXYZ"))), some (.val (.str x)), none, none, none, none]) (fun nx hn => ?_) ?_
  · simp [la_len]
    intro r r0 r1
    split
    · intro e he r2 r3 r4
      obtain ⟨y, rfl, oy⟩ := la_ok e he
      have lx := osz ox
      have ly := osz oy
      have oc := ox.cut none (some r2)
      have lc := osz oc
      simp
      exact ⟨by omega, by omega, hn _ ⟨_, (oy.append oc).mono (by omega), rfl⟩⟩
    · exact hn _ ⟨x, ox.mono (by omega), rfl⟩
  clear ox x
  rintro ρ ⟨x, ox, rfl⟩
  have lx := osz ox
  refine seq_mid (fun ρ => ∃ at_ way : Int, ρ = [some (.val (.hnd 0)), some (.val (.str (Str.ofString "abcdefghijklmnopqrstuvwxyz"))), some (.val (.str (Str.ofString "ABCDEFGHIJKLMNOPQRSTUVWXYZ"))), some (.val (.str x)), some (.val (.int at_)), some (.val (.int way)), none, none]) (fun nx hn => ?_) ?_
  · simp
    exact ⟨by omega, by omega, fun r _ _ r2 _ _ => hn _ ⟨r, r2, rfl⟩⟩
  rintro ρ ⟨at_, way, rfl⟩
  refine seq_mid (fun ρ => ∃ o, okS 1 o ∧ ρ = [some (.val (.hnd 0)), some (.val (.str (Str.ofString "abcdefghijklmnopqrstuvwxyz"))), some (.val (.str (Str.ofString "ABCDEFGHIJKLMNOPQRSTUVWXYZ"))), some (.val (.str x)), some (.val (.int at_)), some (.val (.int way)), some (.val (.str o)), none]) (fun nx hn => ?_) ?_
  · simp [seqOf]
    refine ⟨by omega, ?_⟩
    refine ⟨?_, ?_, ?_, ?_, ?_, ?_, ?_, ?_, ?_, ?_, ?_, ?_, ?_, ?_, ?_, ?_⟩ <;> exact hn _ ⟨_, okS.of (by decide +kernel), rfl⟩
  rintro ρ ⟨o, oo, rfl⟩
  have lo := osz oo
  have c1 := ox.cut none (some at_)
  have c2 := ox.cut (some at_) none
  have c3 := ox.cut (some (at_ + 1)) none
  have l1 := osz c1
  have l2 := osz c2
  have l3 := osz c3
  have l4 := osz (c1.append oo)
  refine seq_mid (fun ρ => ρ = [some (.val (.hnd 0)), some (.val (.str (Str.ofString "abcdefghijklmnopqrstuvwxyz"))), some (.val (.str (Str.ofString "ABCDEFGHIJKLMNOPQRSTUVWXYZ"))), some (.val (.str x)), some (.val (.int at_)), some (.val (.int way)), some (.val (.str o)), none]) (fun nx hn => ?_) ?_
  · simp
    split
    · exact ⟨by omega, by omega, by omega, by omega, h _ (((c1.append oo).append c2).mono (by omega))⟩
    · exact hn _ rfl
  rintro ρ rfl
  refine seq_mid (fun ρ => ρ = [some (.val (.hnd 0)), some (.val (.str (Str.ofString "abcdefghijklmnopqrstuvwxyz"))), some (.val (.str (Str.ofString "ABCDEFGHIJKLMNOPQRSTUVWXYZ"))), some (.val (.str x)), some (.val (.int at_)), some (.val (.int way)), some (.val (.str o)), none]) (fun nx hn => ?_) ?_
  · simp
    split
    · exact ⟨by omega, by omega, by omega, by omega, h _ (((c1.append oo).append c3).mono (by omega))⟩
    · exact hn _ rfl
  rintro ρ rfl
  simp
  split
  · exact ⟨by omega, h _ ((ox.append oo).mono (by omega))⟩
  · exact h _ (ox.mono (by omega))

def n__law_is_small : List Str := ["_law_text_here", "_law_sign"]
def w__law_is_small : WS := (sRet (wBin oEq (wLc [1] (wIt (wVar 0)) (gNm 1) (tNotD (wTst (wChain oLe oLe (wC (.str (Str.ofString "a"))) (wVar 1) (wC (.str (Str.ofString "z")))))) (wVar 1)) (wLst wNil)))
def lowAll (cs : List Nat) : Bool := cs.all fun c => decide (97 ≤ c) && decide (c ≤ 122)
def sp__law_is_small : SpD := fun ds kt _ => ∃ x, ds = [.str x] ∧ okS 100 x ∧ kt (.val (.bl (lowAll x.cps.toList)))
@[simp] theorem e_is_small {x : Str} {kt : EE → Prop} {kx : D → Prop} : sp__law_is_small [.str x] kt kx = (okS 100 x ∧ kt (.val (.bl (lowAll x.cps.toList)))) := by
  apply propext
  constructor
  · rintro ⟨m, e, h⟩
    cases e
    exact h
  · exact fun h => ⟨x, rfl, h⟩
theorem l__law_is_small (ds : List D) (kt : EE → Prop) (kx : D → Prop) (h : sp__law_is_small ds kt kx) : ds.length = 1 := by
  obtain ⟨n, rfl, _⟩ := h
  rfl
/-- a sign between a and z -/
def lowC (d : D) : Bool := match d with
  | .str y => decide (97 ≤ y.cps.toList.headD 0) && decide (y.cps.toList.headD 0 ≤ 122)
  | _ => false
theorem le_one (a c : Nat) : (!decide (([c] : List Nat) < [a])) = decide (a ≤ c) := by
  rw [lt_one]
  by_cases h : c < a
  · rw [decide_eq_true h, decide_eq_false (by omega)]
    rfl
  · rw [decide_eq_false h, decide_eq_true (by omega)]
    rfl
theorem a_tl : (Str.ofString "a").cps.toList = [97] := by decide +kernel
theorem z_tl : (Str.ofString "z").cps.toList = [122] := by decide +kernel
theorem A_tl : (Str.ofString "A").cps.toList = [65] := by decide +kernel
theorem Z_tl : (Str.ofString "Z").cps.toList = [90] := by decide +kernel
theorem d__law_is_small (ds : List D) (kt : EE → Prop) (h : sp__law_is_small ds kt (fun _ => False)) : w__law_is_small { nx := fun _ => kt (.val .non), rt := kt } (startD n__law_is_small ds) := by
  obtain ⟨x, rfl, ok, h⟩ := h
  unfold w__law_is_small n__law_is_small
  have hl := size_line
  simp
  have sz : x.cps.toList.length = x.cps.size := by simp
  have small := ok.1
  refine loopC_fm (fun d => if lowC d = true then none else some d) (fun d hd kn ky h => ?_) (by simp; omega) ?_
  · obtain ⟨c, _, rfl⟩ := List.mem_map.mp hd
    have e : lowC (.str ⟨#[c]⟩) = (decide (97 ≤ c) && decide (c ≤ 122)) := rfl
    rw [e] at h
    by_cases h1 : 97 ≤ c <;> by_cases h2 : c ≤ 122 <;> simpa [a_tl, z_tl, h1, h2] using h
  · rw [List.nil_append]
    refine ⟨fitss_all fun d hd => ?_, ?_⟩
    · obtain ⟨d', h1, h2⟩ := List.mem_filterMap.mp hd
      obtain ⟨c, hc, rfl⟩ := List.mem_map.mp h1
      split at h2
      · cases h2
      · cases h2
        exact okS.fits (okS.one (ok.2 c hc))
    · have key : ∀ cs : List Nat, D.eqvs (List.filterMap (fun d => if lowC d = true then none else some d) (cs.map fun c => D.str { cps := #[c] })) [] = lowAll cs := fun cs => by
        induction cs with
        | nil => rw [List.map_nil, List.filterMap_nil, e_eqvs0]; rfl
        | cons c cs ih =>
          have e : lowC (.str ⟨#[c]⟩) = (decide (97 ≤ c) && decide (c ≤ 122)) := rfl
          have e2 : lowAll (c :: cs) = ((decide (97 ≤ c) && decide (c ≤ 122)) && lowAll cs) := by unfold lowAll; rw [List.all_cons]
          rw [List.map_cons, List.filterMap_cons, e, e2]
          cases decide (97 ≤ c) && decide (c ≤ 122) with
          | true => exact ih
          | false => exact e_eqvs2
      rw [key]
      exact h

def n_is_word : List Str := ["value", "sign"]
def w_is_word : WS := (sRet (wAnd (wCB cIsi (wCons (wVar 0) (wCons (wC (.ty "str")) wNil))) (wAnd (wChain oLe oLe (wC (.int 1)) (wCB cLen (wCons (wVar 0) wNil)) (wC (.int 8))) (wCB cAll (wCons (wLc [1] (wIt (wVar 0)) (gNm 1) tYesD (wBin oIn (wVar 1) (wC (.str (Str.ofString "abcdefghijklmnopqrstuvwxyz"))))) wNil)))))
def smS : Str := Str.ofString "abcdefghijklmnopqrstuvwxyz"
def laS : Str := Str.ofString "ABCDEFGHIJKLMNOPQRSTUVWXYZ"
/-- a value that is_word and is_class_name may be asked of -/
def okV (d : D) : Prop := match d with
  | .str x => x.length ≤ sizeLine
  | .obj _ _ => False
  | .hnd _ => False
  | .ty _ => False
  | .cls _ => False
  | _ => True
def smAll (cs : List Nat) : Bool := cs.all fun c => decide (c ∈ smS.cps.toList)
def isW : D → Bool
  | .str x => decide (1 ≤ x.cps.toList.length) && (decide (x.cps.toList.length ≤ 8) && smAll x.cps.toList)
  | _ => false
theorem isW_str (x : Str) : isW (.str x) = (decide (1 ≤ x.cps.toList.length) && (decide (x.cps.toList.length ≤ 8) && smAll x.cps.toList)) := rfl
def sp_is_word : SpD := fun ds kt _ => ∃ d, ds = [d] ∧ okV d ∧ kt (.val (.bl (isW d)))
@[simp] theorem e_is_word {d : D} {kt : EE → Prop} {kx : D → Prop} : sp_is_word [d] kt kx = (okV d ∧ kt (.val (.bl (isW d)))) := by
  apply propext
  constructor
  · rintro ⟨m, e, h⟩
    cases e
    exact h
  · exact fun h => ⟨d, rfl, h⟩
theorem l_is_word (ds : List D) (kt : EE → Prop) (kx : D → Prop) (h : sp_is_word ds kt kx) : ds.length = 1 := by
  obtain ⟨n, rfl, _⟩ := h
  rfl
/-- [sign in SMALL for sign in z] -/
theorem small_loop {a b : Option EE} {z : List Nat} {k : List D → Prop} (hz : z.length ≤ 16777216) (q : k (z.map fun c => .bl (decide (c ∈ smS.cps.toList)))) :
    loopC [1] (gNm 1) tYesD (wBin oIn (wVar 1) (wC (.str (Str.ofString "abcdefghijklmnopqrstuvwxyz")))) [a, b] k (z.map fun c => .str ⟨#[c]⟩) [] := by
  have hl := size_line
  refine loopC_map (fun d => .bl (match d with
    | .str y => decide (y.cps.toList.headD 0 ∈ smS.cps.toList)
    | _ => false)) (fun d hd kn ky h => ?_) (by simp; omega) ?_
  · obtain ⟨c, _, rfl⟩ := List.mem_map.mp hd
    simpa [smS] using h
  · rw [List.nil_append, List.map_map]
    exact q
theorem bools_small (z : List Nat) : ∃ bs, boolsD (z.map fun c => .bl (decide (c ∈ smS.cps.toList))) = some bs ∧ bs.all id = smAll z := by
  refine ⟨_, boolsD_map _ z, ?_⟩
  unfold smAll
  rw [List.all_map]
  rfl
theorem d_is_word (ds : List D) (kt : EE → Prop) (h : sp_is_word ds kt (fun _ => False)) : w_is_word { nx := fun _ => kt (.val .non), rt := kt } (startD n_is_word ds) := by
  obtain ⟨d, rfl, ok, h⟩ := h
  unfold w_is_word n_is_word
  have hl := size_line
  cases d with
  | str x =>
    have ok' : x.length ≤ sizeLine := ok
    have ln := len_str x
    simp
    refine ⟨ok', ?_⟩
    split
    · split
      · refine small_loop (by omega) ?_
        obtain ⟨bs, e1, e2⟩ := bools_small x.cps.toList
        refine ⟨bs, e1, ?_⟩
        have e3 : isW (.str x) = bs.all id := by
          rw [isW_str, e2, decide_eq_true (by omega), decide_eq_true (by omega)]
          rfl
        rw [← e3]
        exact h
      · have e3 : isW (.str x) = decide ((x.length : Int) ≤ 8) := by
          rw [isW_str, decide_eq_false (p := (x.cps.toList.length ≤ 8)) (by omega), decide_eq_false (p := ((x.length : Int) ≤ 8)) (by omega)]
          simp
        rw [← e3]
        exact h
    · have e3 : isW (.str x) = false := by
        rw [isW_str, decide_eq_false (by omega)]
        rfl
      rw [e3] at h
      exact h
  | obj _ _ => exact ok.elim
  | hnd _ => exact ok.elim
  | ty _ => exact ok.elim
  | cls _ => exact ok.elim
  | _ => simpa [isW] using h

def n_is_class_name : List Str := ["value", "sign"]
def w_is_class_name : WS := (sSeq (sIf (tOrD (tNotD (wTru (wCB cIsi (wCons (wVar 0) (wCons (wC (.ty "str")) wNil))))) (tOrD (tNotD (wTst (wChain oLe oLe (wC (.int 1)) (wCB cLen (wCons (wVar 0) wNil)) (wC (.int 8))))) (wTst (wBin oNotIn (wBin oIx (wVar 0) (wC (.int 0))) (wC (.str (Str.ofString "ABCDEFGHIJKLMNOPQRSTUVWXYZ"))))))) (sRet (wC (.bl false))) sNext)
  (sRet (wCB cAll (wCons (wLc [1] (wIt (wSl (wVar 0) (wP (wC (.int 1))) wNoP)) (gNm 1) tYesD (wBin oIn (wVar 1) (wC (.str (Str.ofString "abcdefghijklmnopqrstuvwxyz"))))) wNil))))
def isC : D → Bool
  | .str x => match x.cps.toList with
    | [] => false
    | c :: cs => decide (cs.length ≤ 7) && (decide (c ∈ laS.cps.toList) && smAll cs)
  | _ => false
def sp_is_class_name : SpD := fun ds kt _ => ∃ d, ds = [d] ∧ okV d ∧ kt (.val (.bl (isC d)))
@[simp] theorem e_is_class_name {d : D} {kt : EE → Prop} {kx : D → Prop} : sp_is_class_name [d] kt kx = (okV d ∧ kt (.val (.bl (isC d)))) := by
  apply propext
  constructor
  · rintro ⟨m, e, h⟩
    cases e
    exact h
  · exact fun h => ⟨d, rfl, h⟩
theorem l_is_class_name (ds : List D) (kt : EE → Prop) (kx : D → Prop) (h : sp_is_class_name ds kt kx) : ds.length = 1 := by
  obtain ⟨n, rfl, _⟩ := h
  rfl
theorem d_is_class_name (ds : List D) (kt : EE → Prop) (h : sp_is_class_name ds kt (fun _ => False)) : w_is_class_name { nx := fun _ => kt (.val .non), rt := kt } (startD n_is_class_name ds) := by
  obtain ⟨d, rfl, ok, h⟩ := h
  unfold w_is_class_name n_is_class_name
  have hl := size_line
  cases d with
  | str x =>
    have ok' : x.length ≤ sizeLine := ok
    have ln := len_str x
    cases hx : x.cps.toList with
    | nil =>
      have e3 : isC (.str x) = false := by
        unfold isC
        simp only [hx]
      rw [hx] at ln
      have l0 : x.length = 0 := ln
      rw [e3] at h
      simp [l0]
      first | exact h | exact ⟨by omega, h⟩
    | cons c cs =>
      rw [hx, List.length_cons] at ln
      have e3 : isC (.str x) = (decide (cs.length ≤ 7) && (decide (c ∈ laS.cps.toList) && smAll cs)) := by
        unfold isC
        simp only [hx]
      have at0 : atI x.cps.toList 0 = some c := by
        rw [hx]
        exact atI_nat (j := 0) rfl
      have rest : (cutS x (some 1) none).cps.toList = cs := by
        rw [rest_tl (by rw [hx, List.length_cons]; omega), hx]
        rfl
      have h1 : (1 : Int) ≤ (x.length : Int) := by omega
      rw [e3] at h
      by_cases h7 : cs.length ≤ 7
      · have h8 : (x.length : Int) ≤ 8 := by omega
        rw [decide_eq_true h7, Bool.true_and] at h
        by_cases hc : c ∈ laS.cps.toList
        · rw [decide_eq_true hc, Bool.true_and] at h
          simp [h1, h8, at0, rest]
          rw [if_pos (by simpa [laS] using hc)]
          refine ⟨by omega, by omega, ?_⟩
          refine small_loop (by omega) ?_
          obtain ⟨bs, e1, e2⟩ := bools_small cs
          refine ⟨bs, e1, ?_⟩
          rw [e2]
          exact h
        · rw [decide_eq_false hc] at h
          simp [h1, h8, at0, rest]
          rw [if_neg (by simpa [laS] using hc)]
          first | exact h | exact ⟨ok', h⟩ | exact ⟨ok', ok', h⟩
      · have h8 : ¬ (x.length : Int) ≤ 8 := by omega
        rw [decide_eq_false h7] at h
        simp [h1, h8, at0, rest]
        first | exact h | exact ⟨ok', h⟩
  | obj _ _ => exact ok.elim
  | hnd _ => exact ok.elim
  | ty _ => exact ok.elim
  | cls _ => exact ok.elim
  | _ => simpa [isC] using h

def n_law : List Str := ["_law_script", "_law_draw", "_law_turn", "_law_worth", "_law_is_text", "_law_due"]
def w_law : WS := (sSeq (sFor (wRng1 (wBin oAdd (wC (.int 6)) (wCB cMin (wCons (wCB cLen (wCons (wVar 0) wNil)) (wCons (wC (.int 40)) wNil))))) (gNm 2) (sSeq (sSet 3 (wCall sp__law_text [] (wCons (wVar 1) wNil)))
  (sSeq (sIf (wTst (wBin oEq (wCall sp__law_take [] (wCons (wVar 1) (wCons (wC (.int 8)) wNil))) (wC (.int 0)))) (sSet 3 (wCall sp__law_pick [] (wCons (wVar 1) (wCons (wLst (wCons (wC .non) (wCons (wC (.int 0)) (wCons (wC (.int 1)) (wCons (wC (.bl true)) (wCons (wLst (wCons (wC (.str (Str.ofString "a"))) wNil)) (wCons (wTup (wCons (wC (.str (Str.ofString "a"))) wNil)) (wCons wD0 (wCons (wDisp [((wC (.str (Str.ofString "a"))), (wC (.int 1)))]) (wCons (wLst wNil) (wCons (wTup wNil) (wCons (wTup (wCons (wC (.str (Str.ofString "A"))) (wCons (wC (.str (Str.ofString "b"))) wNil))) wNil)))))))))))) wNil)))) sNext)
  (sSeq (sSet 4 (wCB cIsi (wCons (wVar 3) (wCons (wC (.ty "str")) wNil))))
  (sSeq (sSet 5 (wAnd (wVar 4) (wAnd (wChain oLt oLt (wC (.int 0)) (wCB cLen (wCons (wVar 3) wNil)) (wC (.int 9))) (wCall sp__law_is_small [] (wCons (wVar 3) wNil)))))
  (sSeq (sSet 5 (wLst (wCons (wVar 5) (wCons (wAnd (wVar 4) (wAnd (wChain oLt oLt (wC (.int 0)) (wCB cLen (wCons (wVar 3) wNil)) (wC (.int 9))) (wAnd (wChain oLe oLe (wC (.str (Str.ofString "A"))) (wBin oIx (wVar 3) (wC (.int 0))) (wC (.str (Str.ofString "Z")))) (wCall sp__law_is_small [] (wCons (wSl (wVar 3) (wP (wC (.int 1))) wNoP) wNil))))) wNil))))
  (sSeq (sIf (wTst (wBin oNe (wCB cRepr (wCons (wLst (wCons (wCall sp_is_word [] (wCons (wVar 3) wNil)) (wCons (wCall sp_is_class_name [] (wCons (wVar 3) wNil)) wNil))) wNil)) (wCB cRepr (wCons (wVar 5) wNil)))) (sRet (wC (.bl false))) sNext)
  (sIf (wTst (wBin oNe (wLst (wCons (wCallK 0 1 sp_is_word wNil (wCons (wVar 3) wNil)) (wCons (wCallK 0 1 sp_is_class_name wNil (wCons (wVar 3) wNil)) wNil))) (wVar 5))) (sRet (wC (.bl false))) sNext))))))))
  (sRet (wC (.bl true))))
theorem sm_range : smS.cps.toList = List.range' 97 26 := by decide +kernel
theorem la_range : laS.cps.toList = List.range' 65 26 := by decide +kernel
theorem sm_mem (c : Nat) : decide (c ∈ smS.cps.toList) = (decide (97 ≤ c) && decide (c ≤ 122)) := by
  rw [sm_range, Bool.eq_iff_iff, decide_eq_true_eq, Bool.and_eq_true, decide_eq_true_eq, decide_eq_true_eq, List.mem_range'_1]
  omega
theorem la_mem (c : Nat) : decide (c ∈ laS.cps.toList) = (decide (65 ≤ c) && decide (c ≤ 90)) := by
  rw [la_range, Bool.eq_iff_iff, decide_eq_true_eq, Bool.and_eq_true, decide_eq_true_eq, decide_eq_true_eq, List.mem_range'_1]
  omega
theorem low_sm (cs : List Nat) : lowAll cs = smAll cs := by
  unfold lowAll smAll
  congr 1
  funext c
  exact (sm_mem c).symm
/-- what the law tries -/
def goodW (w : D) : Prop := match w with
  | .str x => okS 40 x
  | .obj _ _ => False
  | .hnd _ => False
  | .ty _ => False
  | .cls _ => False
  | _ => True
def isTx : D → Bool
  | .str _ => true
  | _ => false
theorem goodW.ok {w : D} (h : goodW w) : okV w := by
  cases w with
  | str x =>
    have h' : okS 40 x := h
    have := h'.1
    have hl := size_line
    show x.length ≤ sizeLine
    rw [len_str]
    omega
  | obj _ _ => exact h.elim
  | hnd _ => exact h.elim
  | ty _ => exact h.elim
  | cls _ => exact h.elim
  | _ => trivial
abbrev env1 (i : Int) (w : D) (b c : Option EE) : HD.Env := [some (.val (.hnd 1)), some (.val (.hnd 0)), some (.val (.int i)), some (.val w), b, c]
theorem d_law : w_law { nx := fun _ => False, rt := fun e => e = .val (.bl true) } (startL n_law) := by
  unfold w_law n_law startL
  have hl := size_line
  refine seq_mid (fun ρ => ∃ a b c d, ρ = [some (.val (.hnd 1)), some (.val (.hnd 0)), a, b, c, d]) (fun nx hn => ?_) ?_
  · simp
    intro n hn63
    refine ⟨⟨by split <;> omega, by split <;> omega⟩, ?_⟩
    refine loopF_inv (fun ρ => ∃ a b c d, ρ = [some (.val (.hnd 1)), some (.val (.hnd 0)), a, b, c, d]) (fun d hd nx2 ρ i hk => ?_) hn ⟨_, _, _, _, rfl⟩
    obtain ⟨j, _, rfl⟩ := List.mem_map.mp hd
    obtain ⟨a, b, c, e, rfl⟩ := i
    clear hd
    simp only [e_gNm, List.set]
    -- a text
    refine seq_mid (fun ρ => ∃ w b c, goodW w ∧ ρ = env1 (j : Nat) w b c) (fun nx3 h3 => ?_) ?_
    · simp
      exact fun x ox => h3 _ ⟨.str x, _, _, ox, rfl⟩
    rintro ρ ⟨w, b, c, gw, rfl⟩
    -- or another value
    refine seq_mid (fun ρ => ∃ w b c, goodW w ∧ ρ = env1 (j : Nat) w b c) (fun nx3 h3 => ?_) ?_
    · simp [seqOf, hl]
      intro r r0 r1
      split
      · refine ⟨?_, ?_, ?_, ?_, ?_, ?_, ?_, ?_, ?_, ?_, ?_⟩ <;> (refine h3 _ ⟨_, _, _, ?_, rfl⟩; exact True.intro)
      · exact h3 _ ⟨_, _, _, gw, rfl⟩
    clear gw w b c
    rintro ρ ⟨w, b, c, gw, rfl⟩
    have ok := gw.ok
    refine seq_mid (fun ρ => ρ = env1 (j : Nat) w (some (.val (.bl (isTx w)))) c) (fun nx3 h3 => ?_) ?_
    · cases w <;> first | exact gw.elim | (simp; exact h3 _ rfl)
    rintro ρ rfl
    refine seq_mid (fun ρ => ρ = env1 (j : Nat) w (some (.val (.bl (isTx w)))) (some (.val (.bl (isW w))))) (fun nx3 h3 => ?_) ?_
    · cases w with
      | str x =>
        have ox : okS 40 x := gw
        have ln := len_str x
        have ox1 := ox.1
        have ow : okS 100 x := ox.mono (by omega)
        have eW := isW_str x
        rw [← low_sm] at eW
        simp [isTx]
        by_cases h1 : 0 < (x.length : Int)
        · by_cases h2 : (x.length : Int) < 9
          · rw [decide_eq_true (p := 1 ≤ x.cps.toList.length) (by omega), decide_eq_true (p := x.cps.toList.length ≤ 8) (by omega), Bool.true_and, Bool.true_and] at eW
            have h0 : 0 < x.length := by omega
            simp [h0, h2]
            refine ⟨by omega, ow, h3 _ ?_⟩
            rw [eW]
            rfl
          · rw [decide_eq_true (p := 1 ≤ x.cps.toList.length) (by omega), decide_eq_false (p := x.cps.toList.length ≤ 8) (by omega), Bool.true_and, Bool.false_and] at eW
            have h0 : 0 < x.length := by omega
            simp [h0, h2]
            have := h3 (env1 (j : Nat) (.str x) (some (.val (.bl true))) (some (.val (.bl false)))) (by rw [eW]; rfl)
            first | exact this | exact ⟨by omega, this⟩
        · rw [decide_eq_false (p := 1 ≤ x.cps.toList.length) (by omega), Bool.false_and] at eW
          have h0 : ¬ 0 < x.length := by omega
          simp [h0]
          have := h3 (env1 (j : Nat) (.str x) (some (.val (.bl true))) (some (.val (.bl false)))) (by rw [eW]; rfl)
          first | exact this | exact ⟨by omega, this⟩
      | obj _ _ => exact gw.elim
      | hnd _ => exact gw.elim
      | ty _ => exact gw.elim
      | cls _ => exact gw.elim
      | _ => simp [isTx]; exact h3 _ rfl
    rintro ρ rfl
    refine seq_mid (fun ρ => ρ = env1 (j : Nat) w (some (.val (.bl (isTx w)))) (some (.own (.lst [.bl (isW w), .bl (isC w)])))) (fun nx3 h3 => ?_) ?_
    · cases w with
      | str x =>
        have ox : okS 40 x := gw
        have ln := len_str x
        have ox1 := ox.1
        have fin : ∀ b', b' = isC (.str x) → nx3 [some (EE.val (D.hnd 1)), some (EE.val (D.hnd 0)), some (EE.val (D.int (j : Nat))), some (EE.val (D.str x)), some (EE.val (D.bl true)), some (EE.own (O.lst [D.bl (isW (D.str x)), D.bl b']))] := fun b' e => h3 _ (by rw [e]; rfl)
        simp [isTx]
        refine ⟨by omega, ?_⟩
        cases hx : x.cps.toList with
        | nil =>
          rw [hx] at ln
          have l0 : x.length = 0 := ln
          have e0 : isC (.str x) = false := by unfold isC; simp only [hx]
          rw [if_neg (by omega)]
          exact ⟨by omega, fin _ e0.symm⟩
        | cons c cs =>
          rw [hx, List.length_cons] at ln
          have e3 : isC (.str x) = (decide (cs.length ≤ 7) && (decide (c ∈ laS.cps.toList) && smAll cs)) := by
            unfold isC
            simp only [hx]
          have at0 : atI (c :: cs) 0 = some c := atI_nat (j := 0) rfl
          have rest : (cutS x (some 1) none).cps.toList = cs := by
            rw [rest_tl (by rw [hx, List.length_cons]; omega), hx]
            rfl
          have oc : okS 100 (cutS x (some 1) none) := (ox.mono (by omega)).cut _ _
          rw [la_mem, ← low_sm] at e3
          rw [if_pos (by omega)]
          by_cases h9 : (x.length : Int) < 9
          · rw [if_pos h9]
            rw [decide_eq_true (p := cs.length ≤ 7) (by omega), Bool.true_and] at e3
            refine ⟨by omega, c, at0, ?_⟩
            rw [A_tl, Z_tl, rest]
            by_cases hA : 65 ≤ c
            · rw [if_pos ((le_one_iff 65 c).mpr hA)]
              rw [decide_eq_true hA, Bool.true_and] at e3
              by_cases hZ : c ≤ 90
              · rw [if_pos ((le_one_iff c 90).mpr hZ)]
                rw [decide_eq_true hZ, Bool.true_and] at e3
                exact ⟨by omega, oc, by omega, fin _ e3.symm⟩
              · rw [if_neg fun z => hZ ((le_one_iff c 90).mp z)]
                rw [decide_eq_false hZ, Bool.false_and] at e3
                refine ⟨by omega, fin _ ?_⟩
                rw [e3, lt_one, decide_eq_true (by omega)]
                rfl
            · rw [if_neg fun z => hA ((le_one_iff 65 c).mp z)]
              rw [decide_eq_false hA, Bool.false_and, Bool.false_and] at e3
              exact ⟨by omega, fin _ e3.symm⟩
          · rw [if_neg h9]
            rw [decide_eq_false (p := cs.length ≤ 7) (by omega), Bool.false_and] at e3
            refine ⟨by omega, fin _ ?_⟩
            rw [e3, decide_eq_false h9]
      | obj _ _ => exact gw.elim
      | hnd _ => exact gw.elim
      | ty _ => exact gw.elim
      | cls _ => exact gw.elim
      | _ => simp [isTx]; exact ⟨by omega, h3 _ rfl⟩
    rintro ρ rfl
    obtain ⟨t1, t2, t3⟩ := two_shown (isW w) (isC w)
    have t4 : (D.str (D.list [.bl (isW w), .bl (isC w)]).py.shown).fits 60 = true := t3.fits
    refine seq_mid (fun ρ => ρ = env1 (j : Nat) w (some (.val (.bl (isTx w)))) (some (.own (.lst [.bl (isW w), .bl (isC w)])))) (fun nx3 h3 => ?_) ?_
    · simp [ok, t1, t4, D.isSeq]
      exact ⟨by omega, by omega, h3 _ rfl⟩
    rintro ρ rfl
    simp [ok]
    exact ⟨by omega, hk _ ⟨_, _, _, _, rfl⟩⟩
  · rintro ρ ⟨a, b, c, d, rfl⟩
    simp

end K01
namespace K01
open PySem L2 HD
def top (i : Nat) : Stmt := PySem.Challenge.pw_callviews_k01_words_and_class_names.main.body.getD i (.Pass ⟨0, 0, 0, 0⟩)
abbrev s__law_begin : Stmt := top 7
theorem sc__law_begin : FnScope ["_law_script", "_law_cell"] ["_law_script"] (defScope s__law_begin) := ⟨rfl, rfl, rfl, by decide +kernel, rfl, by decide +kernel, by decide +kernel⟩
def df__law_begin : He.DefD := ⟨("_law_begin", none), "_law_begin", "_law_begin", defArgs s__law_begin, defBody s__law_begin, defScope s__law_begin, [], []⟩
abbrev s__law_take : Stmt := top 8
theorem sc__law_take : FnScope ["_law_draw", "_law_size", "_law_cells", "_law_at", "_law_cell", "_law_mixed"] ["_law_draw", "_law_size"] (defScope s__law_take) := ⟨rfl, rfl, rfl, by decide +kernel, rfl, by decide +kernel, by decide +kernel⟩
def df__law_take : He.DefD := ⟨("_law_take", none), "_law_take", "_law_take", defArgs s__law_take, defBody s__law_take, defScope s__law_take, [], []⟩
abbrev s__law_pick : Stmt := top 9
theorem sc__law_pick : FnScope ["_law_draw", "_law_some"] ["_law_draw", "_law_some"] (defScope s__law_pick) := ⟨rfl, rfl, rfl, by decide +kernel, rfl, by decide +kernel, by decide +kernel⟩
def df__law_pick : He.DefD := ⟨("_law_pick", none), "_law_pick", "_law_pick", defArgs s__law_pick, defBody s__law_pick, defScope s__law_pick, [], []⟩
abbrev s__law_text : Stmt := top 10
theorem sc__law_text : FnScope ["_law_draw", "_law_small", "_law_large", "_law_found", "_law_at", "_law_way", "_law_odd", "_law_turn"] ["_law_draw"] (defScope s__law_text) := ⟨rfl, rfl, rfl, by decide +kernel, rfl, by decide +kernel, by decide +kernel⟩
def df__law_text : He.DefD := ⟨("_law_text", none), "_law_text", "_law_text", defArgs s__law_text, defBody s__law_text, defScope s__law_text, [], []⟩
abbrev s__law_is_small : Stmt := top 11
theorem sc__law_is_small : FnScope ["_law_text_here", "_law_sign"] ["_law_text_here"] (defScope s__law_is_small) := ⟨rfl, rfl, rfl, by decide +kernel, rfl, by decide +kernel, by decide +kernel⟩
def df__law_is_small : He.DefD := ⟨("_law_is_small", none), "_law_is_small", "_law_is_small", defArgs s__law_is_small, defBody s__law_is_small, defScope s__law_is_small, [], []⟩
abbrev s_is_word : Stmt := top 4
theorem sc_is_word : FnScope ["value", "sign"] ["value"] (defScope s_is_word) := ⟨rfl, rfl, rfl, by decide +kernel, rfl, by decide +kernel, by decide +kernel⟩
def df_is_word : He.DefD := ⟨("is_word", none), "is_word", "is_word", defArgs s_is_word, defBody s_is_word, defScope s_is_word, [], []⟩
abbrev s_is_class_name : Stmt := top 5
theorem sc_is_class_name : FnScope ["value", "sign"] ["value"] (defScope s_is_class_name) := ⟨rfl, rfl, rfl, by decide +kernel, rfl, by decide +kernel, by decide +kernel⟩
def df_is_class_name : He.DefD := ⟨("is_class_name", none), "is_class_name", "is_class_name", defArgs s_is_class_name, defBody s_is_class_name, defScope s_is_class_name, [], []⟩
abbrev s_law : Stmt := top 12
theorem sc_law : FnScope ["_law_script", "_law_draw", "_law_turn", "_law_worth", "_law_is_text", "_law_due"] ["_law_script"] (defScope s_law) := ⟨rfl, rfl, rfl, by decide +kernel, rfl, by decide +kernel, by decide +kernel⟩
def df_law : He.DefD := ⟨("law", none), "law", "law", defArgs s_law, defBody s_law, defScope s_law, [], []⟩
def fn : List He.DefD := [df__law_begin, df__law_take, df__law_pick, df__law_text, df__law_is_small, df_is_word, df_is_class_name, df_law]
def fa : List He.Fa := [.glo "_law_take", .free "len", .free "range", .glo "_law_pick", .free "isinstance", .free "str", .int "LONGEST" 8, .free "all", .str "SMALL" "abcdefghijklmnopqrstuvwxyz", .str "LARGE" "ABCDEFGHIJKLMNOPQRSTUVWXYZ", .free "min", .glo "_law_text", .glo "_law_is_small", .free "repr", .glo "is_class_name", .glo "is_word", .free "int", .free "abs", .glo "law", .glo "_law_begin"]
section
open PySem.Spec PyProof.Rows
variable {P : Program} {w : World} {K : PySem.W.Frag} {mg : Str → Option Value} {base : Heap}
theorem g__law_take (c : He.SaysD fa fn K) (X : K.In base) (G : base.Ns mainGlobals mg) : mg "_law_take" = some (.ref (He.ga K "_law_take")) := He.glo_ok X G (c.fact 0 (f := .glo "_law_take") rfl)
theorem g_len (c : He.SaysD fa fn K) (X : K.In base) (G : base.Ns mainGlobals mg) : mg "len" = none := He.free_ok X G (c.fact 1 (f := .free "len") rfl)
theorem g_range (c : He.SaysD fa fn K) (X : K.In base) (G : base.Ns mainGlobals mg) : mg "range" = none := He.free_ok X G (c.fact 2 (f := .free "range") rfl)
theorem g__law_pick (c : He.SaysD fa fn K) (X : K.In base) (G : base.Ns mainGlobals mg) : mg "_law_pick" = some (.ref (He.ga K "_law_pick")) := He.glo_ok X G (c.fact 3 (f := .glo "_law_pick") rfl)
theorem g_isinstance (c : He.SaysD fa fn K) (X : K.In base) (G : base.Ns mainGlobals mg) : mg "isinstance" = none := He.free_ok X G (c.fact 4 (f := .free "isinstance") rfl)
theorem g_str (c : He.SaysD fa fn K) (X : K.In base) (G : base.Ns mainGlobals mg) : mg "str" = none := He.free_ok X G (c.fact 5 (f := .free "str") rfl)
theorem g_LONGEST (c : He.SaysD fa fn K) (X : K.In base) (G : base.Ns mainGlobals mg) : ∃ t, mg "LONGEST" = some (.int 8 t) := He.int_ok X G (c.fact 6 (f := .int "LONGEST" 8) rfl)
theorem g_all (c : He.SaysD fa fn K) (X : K.In base) (G : base.Ns mainGlobals mg) : mg "all" = none := He.free_ok X G (c.fact 7 (f := .free "all") rfl)
theorem g_SMALL (c : He.SaysD fa fn K) (X : K.In base) (G : base.Ns mainGlobals mg) : ∃ t, mg "SMALL" = some (.str (Str.ofString "abcdefghijklmnopqrstuvwxyz") t) := He.str_ok X G (c.fact 8 (f := .str "SMALL" (Str.ofString "abcdefghijklmnopqrstuvwxyz")) rfl)
theorem g_LARGE (c : He.SaysD fa fn K) (X : K.In base) (G : base.Ns mainGlobals mg) : ∃ t, mg "LARGE" = some (.str (Str.ofString "ABCDEFGHIJKLMNOPQRSTUVWXYZ") t) := He.str_ok X G (c.fact 9 (f := .str "LARGE" (Str.ofString "ABCDEFGHIJKLMNOPQRSTUVWXYZ")) rfl)
theorem g_min (c : He.SaysD fa fn K) (X : K.In base) (G : base.Ns mainGlobals mg) : mg "min" = none := He.free_ok X G (c.fact 10 (f := .free "min") rfl)
theorem g__law_text (c : He.SaysD fa fn K) (X : K.In base) (G : base.Ns mainGlobals mg) : mg "_law_text" = some (.ref (He.ga K "_law_text")) := He.glo_ok X G (c.fact 11 (f := .glo "_law_text") rfl)
theorem g__law_is_small (c : He.SaysD fa fn K) (X : K.In base) (G : base.Ns mainGlobals mg) : mg "_law_is_small" = some (.ref (He.ga K "_law_is_small")) := He.glo_ok X G (c.fact 12 (f := .glo "_law_is_small") rfl)
theorem g_repr (c : He.SaysD fa fn K) (X : K.In base) (G : base.Ns mainGlobals mg) : mg "repr" = none := He.free_ok X G (c.fact 13 (f := .free "repr") rfl)
theorem g_is_class_name (c : He.SaysD fa fn K) (X : K.In base) (G : base.Ns mainGlobals mg) : mg "is_class_name" = some (.ref (He.ga K "is_class_name")) := He.glo_ok X G (c.fact 14 (f := .glo "is_class_name") rfl)
theorem g_is_word (c : He.SaysD fa fn K) (X : K.In base) (G : base.Ns mainGlobals mg) : mg "is_word" = some (.ref (He.ga K "is_word")) := He.glo_ok X G (c.fact 15 (f := .glo "is_word") rfl)
theorem g_int (c : He.SaysD fa fn K) (X : K.In base) (G : base.Ns mainGlobals mg) : mg "int" = none := He.free_ok X G (c.fact 16 (f := .free "int") rfl)
theorem g_abs (c : He.SaysD fa fn K) (X : K.In base) (G : base.Ns mainGlobals mg) : mg "abs" = none := He.free_ok X G (c.fact 17 (f := .free "abs") rfl)
theorem g_law (c : He.SaysD fa fn K) (X : K.In base) (G : base.Ns mainGlobals mg) : mg "law" = some (.ref (He.ga K "law")) := He.glo_ok X G (c.fact 18 (f := .glo "law") rfl)
theorem g__law_begin (c : He.SaysD fa fn K) (X : K.In base) (G : base.Ns mainGlobals mg) : mg "_law_begin" = some (.ref (He.ga K "_law_begin")) := He.glo_ok X G (c.fact 19 (f := .glo "_law_begin") rfl)
-- _law_begin
theorem f__law_begin (c : He.SaysD fa fn K) (X : K.In base) (G : base.Ns mainGlobals mg) {fd : FuncData} (F : FunD K "_law_begin" "_law_begin" (defArgs s__law_begin) (defBody s__law_begin) (defScope s__law_begin) [] [] (He.ga K "_law_begin") fd) : FnG P w K mg base CX0 1 (He.ga K "_law_begin") fd ["_law_script"] (spBegin K) := by
  refine fnG_of F sc__law_begin (fun vs H Q E h => ?_) (fun cdv A outer s H vs Q E gu hr h => ⟨_, PSs.nox ?_, begin_run (N := ["_law_script", "_law_cell"]) rfl h⟩)
  · obtain ⟨a, ns, rfl, _⟩ := h
    rfl
  · have nd := sc__law_begin.nd
    exact pss_one (ps_ret (pe_lst (pa_cons (pe_orT (pe_lc (own := [("_law_cell", 1)]) rfl nd (pi_any (pe_slice sl_list (pv 0) po_none (po_some pe_int))) (blkOk_by rfl) (fun _ _ _ _ _ => pg_name nd rfl (.inl rfl)) (fun _ _ _ _ _ => pts_nil) (fun _ _ _ _ _ => pe_callB call_abs rfl (g_abs c X G) (by decide +kernel) (pa_cons (pv 1) pa_nil))) (pe_one (pe_lst (pa_cons pe_int pa_nil)))) (pa_cons pe_int (pa_cons pe_int (pa_cons pe_int pa_nil))))))
-- _law_take
theorem f__law_take (c : He.SaysD fa fn K) (X : K.In base) (G : base.Ns mainGlobals mg) {fd : FuncData} (F : FunD K "_law_take" "_law_take" (defArgs s__law_take) (defBody s__law_take) (defScope s__law_take) [] [] (He.ga K "_law_take") fd) : FnG P w K mg base CX0 1 (He.ga K "_law_take") fd ["_law_draw", "_law_size"] (toSp K sp__law_take) := by
  refine fnG_of F sc__law_take (fun vs H Q E h => ?_) (fun cdv A outer s H vs Q E gu hr h => ⟨_, PSs.nox ?_, take_run (N := ["_law_draw", "_law_size", "_law_cells", "_law_at", "_law_cell", "_law_mixed"]) rfl h⟩)
  · obtain ⟨P, W, ds, kt, kx, rfl, b, r, ⟨n, rfl, _⟩, _⟩ := h
    rw [r.length]
    rfl
  · have nd := sc__law_take.nd
    have gI := g_int c X G
    have gL := g_len c X G
    exact pss_cons (ps_set (i := 2) nd rfl (.inl rfl) (pe_ix ix_list (pv 0) pe_int fun _ _ => rfl))
      (pss_cons (ps_set (i := 3) nd rfl (.inl rfl) (pe_op op_mod (pe_callTy call_int1 rfl gI (by decide +kernel) (pa_cons (pe_ix ix_list (pv 0) pe_int fun _ _ => rfl) pa_nil)) (pe_callB call_len rfl gL (by decide +kernel) (pa_cons (pv 2) pa_nil))))
      (pss_cons (ps_set (i := 4) nd rfl (.inl rfl) (pe_ix ix_list (pv 2) (pv 3) fun _ _ => rfl))
      (pss_cons (ps_if (pt_cmpR op_ge (pv 4) (pe_op op_pow pe_int pe_int) (nomark _)) (pss_cons (ps_asg (pe_op op_fdiv (pv 4) (pv 1)) (pg_sub (pv 2) (pv 3) set_list)) (pss_one (ps_ret (pe_op op_mod (pe_callTy call_int1 rfl gI (by decide +kernel) (pa_cons (pv 4) pa_nil)) (pv 1))))) pss_nil)
      (pss_cons (ps_asg (pe_op op_add (pe_ix ix_list (pv 0) pe_int fun _ _ => rfl) pe_int) (pg_sub (pv 0) pe_int set_list))
      (pss_cons (ps_asg (pe_op op_add (pe_ix ix_list (pv 0) pe_int fun _ _ => rfl) pe_int) (pg_sub (pv 0) pe_int set_list))
      (pss_cons (ps_asg (pe_op op_mod (pe_callTy call_int1 rfl gI (by decide +kernel) (pa_cons (pe_op op_add (pe_op op_add (pe_op op_add (pe_op op_mul (pe_ix ix_list (pv 0) pe_int fun _ _ => rfl) pe_int) (pv 4)) (pe_op op_mul pe_int (pe_ix ix_list (pv 0) pe_int fun _ _ => rfl))) pe_int) pa_nil)) pe_int) (pg_sub (pv 0) pe_int set_list))
      (pss_cons (ps_set (i := 5) nd rfl (.inl rfl) (pe_op op_mod (pe_callTy call_int1 rfl gI (by decide +kernel) (pa_cons (pe_op op_mul (pe_ix ix_list (pv 0) pe_int fun _ _ => rfl) (pe_ix ix_list (pv 0) pe_int fun _ _ => rfl)) pa_nil)) pe_int))
      (pss_one (ps_ret (pe_op op_mod (pe_callTy call_int1 rfl gI (by decide +kernel) (pa_cons (pe_op op_fdiv (pv 5) pe_int) pa_nil)) (pv 1)))))))))))
theorem c__law_take (c : He.SaysD fa fn K) (X : K.In base) (G : base.Ns mainGlobals mg) : Cal P w K mg base 1 "_law_take" sp__law_take [] := by
  obtain ⟨fd, F⟩ := c.def_ 1 (d := df__law_take) rfl
  exact cal_of F (f__law_take c X G F) (g__law_take c X G) (fun _ _ _ _ _ _ us hl => match us, hl with | [_, _], _ => rfl)
-- _law_pick
theorem b__law_pick (c : He.SaysD fa fn K) (X : K.In base) (G : base.Ns mainGlobals mg) : Bdy P w K mg base ["_law_draw", "_law_some"] "_law_pick" s__law_pick (He.ga K "_law_pick") 1 w__law_pick := by
  intro cdv A outer s H E gu hr
  have nd := sc__law_pick.nd
  have h64 : (CxB P w K mg base ["_law_draw", "_law_some"] "_law_pick" s__law_pick (He.ga K "_law_pick") cdv A outer s H E).A.units + 64 < cLine := by have := hr.un; omega
  have h65 : (CxB P w K mg base ["_law_draw", "_law_some"] "_law_pick" s__law_pick (He.ga K "_law_pick") cdv A outer s H E).A.units + 65 < cLine := by have := hr.un; omega
  exact (dss_one (ds_ret (de_ix (de_var (pv 1)) (de_call (c__law_take c X G) gu hr (by decide) rfl (da_cons (de_var (pv 0)) (da_cons (de_callB cd_len rfl (g_len c X G) (by decide +kernel) (da_cons (de_var (pv 1)) da_nil)) da_nil))))))
theorem f__law_pick (c : He.SaysD fa fn K) (X : K.In base) (G : base.Ns mainGlobals mg) {fd : FuncData} (F : FunD K "_law_pick" "_law_pick" (defArgs s__law_pick) (defBody s__law_pick) (defScope s__law_pick) [] [] (He.ga K "_law_pick") fd) : FnG P w K mg base CX0 2 (He.ga K "_law_pick") fd ["_law_draw", "_law_some"] (toSp K sp__law_pick) := fn_hd F sc__law_pick l__law_pick (b__law_pick c X G) d__law_pick fun _ _ _ h => h
theorem c__law_pick (c : He.SaysD fa fn K) (X : K.In base) (G : base.Ns mainGlobals mg) : Cal P w K mg base 2 "_law_pick" sp__law_pick [] := by
  obtain ⟨fd, F⟩ := c.def_ 2 (d := df__law_pick) rfl
  exact cal_of F (f__law_pick c X G F) (g__law_pick c X G) (fun _ _ _ _ _ _ us hl => match us, hl with | [_, _], _ => rfl)
-- _law_text
theorem b__law_text (c : He.SaysD fa fn K) (X : K.In base) (G : base.Ns mainGlobals mg) : Bdy P w K mg base ["_law_draw", "_law_small", "_law_large", "_law_found", "_law_at", "_law_way", "_law_odd", "_law_turn"] "_law_text" s__law_text (He.ga K "_law_text") 2 w__law_text := by
  intro cdv A outer s H E gu hr
  have nd := sc__law_text.nd
  have h64 : (CxB P w K mg base ["_law_draw", "_law_small", "_law_large", "_law_found", "_law_at", "_law_way", "_law_odd", "_law_turn"] "_law_text" s__law_text (He.ga K "_law_text") cdv A outer s H E).A.units + 64 < cLine := by have := hr.un; omega
  have h65 : (CxB P w K mg base ["_law_draw", "_law_small", "_law_large", "_law_found", "_law_at", "_law_way", "_law_odd", "_law_turn"] "_law_text" s__law_text (He.ga K "_law_text") cdv A outer s H E).A.units + 65 < cLine := by have := hr.un; omega
  exact (dss_cons (ds_asg (de_tup (da_cons de_str (da_cons de_str da_nil))) (dg_tup rfl (dgs_cons (dg_name nd rfl (.inr rfl)) (dgs_cons (dg_name nd rfl (.inl rfl)) dgs_nil))))
    (dss_cons (ds_set (i := 3) nd rfl (.inl rfl) (de_join de_str (de_lc (own := [("_law_turn", 7)]) (js := [7]) rfl nd (di_range1 rfl (g_range c X G) (de_call (c__law_take c X G) gu hr (by decide) rfl (da_cons (de_var (pv 0)) (da_cons de_int da_nil)))) (blkOk_by rfl) (by decide) (fun _ _ _ _ _ => (dg_name nd rfl (.inl rfl))) (fun _ _ _ _ _ => dts_nil) (fun _ _ _ _ _ => (de_call (c__law_pick c X G) gu hr (by decide) rfl (da_cons (de_var (pv 0)) (da_cons (de_var (pv 1)) da_nil)))))))
    (dss_cons (ds_if (dt_cmp (od_eq h64) (de_call (c__law_take c X G) gu hr (by decide) rfl (da_cons (de_var (pv 0)) (da_cons de_int da_nil))) de_int) (dss_one (ds_set (i := 3) nd rfl (.inl rfl) (de_bin od_add (de_call (c__law_pick c X G) gu hr (by decide) rfl (da_cons (de_var (pv 0)) (da_cons (de_var (pv 2)) da_nil))) (de_sl (de_var (pv 3)) do_none (do_some (de_call (c__law_take c X G) gu hr (by decide) rfl (da_cons (de_var (pv 0)) (da_cons de_int da_nil)))))))) dss_nil)
    (dss_cons (ds_par (i := 4) (j := 5) rfl nd rfl rfl (by decide) rfl rfl (de_call (c__law_take c X G) gu hr (by decide) rfl (da_cons (de_var (pv 0)) (da_cons (de_bin od_add (de_callB cd_len rfl (g_len c X G) (by decide +kernel) (da_cons (de_var (pv 3)) da_nil)) de_int) da_nil))) (de_call (c__law_take c X G) gu hr (by decide) rfl (da_cons (de_var (pv 0)) (da_cons de_int da_nil))) rfl)
    (dss_cons (ds_set (i := 6) nd rfl (.inl rfl) (de_call (c__law_pick c X G) gu hr (by decide) rfl (da_cons (de_var (pv 0)) (da_cons (de_lst (da_cons de_str (da_cons de_str (da_cons de_str (da_cons de_str (da_cons de_str (da_cons de_str (da_cons de_str (da_cons de_str (da_cons de_str (da_cons de_str (da_cons de_str (da_cons de_str (da_cons de_str (da_cons de_str (da_cons de_str (da_cons de_str da_nil))))))))))))))))) da_nil))))
    (dss_cons (ds_if (dt_cmp (od_eq h64) (de_var (pv 5)) de_int) (dss_one (ds_ret (de_bin od_add (de_bin od_add (de_sl (de_var (pv 3)) do_none (do_some (de_var (pv 4)))) (de_var (pv 6))) (de_sl (de_var (pv 3)) (do_some (de_var (pv 4))) do_none)))) dss_nil)
    (dss_cons (ds_if (dt_cmp (od_eq h64) (de_var (pv 5)) de_int) (dss_one (ds_ret (de_bin od_add (de_bin od_add (de_sl (de_var (pv 3)) do_none (do_some (de_var (pv 4)))) (de_var (pv 6))) (de_sl (de_var (pv 3)) (do_some (de_bin od_add (de_var (pv 4)) de_int)) do_none)))) dss_nil)
    (dss_one (ds_ret (de_if (dt_cmp (od_eq h64) (de_var (pv 5)) de_int) (de_bin od_add (de_var (pv 3)) (de_var (pv 6))) (de_var (pv 3))))))))))))
theorem f__law_text (c : He.SaysD fa fn K) (X : K.In base) (G : base.Ns mainGlobals mg) {fd : FuncData} (F : FunD K "_law_text" "_law_text" (defArgs s__law_text) (defBody s__law_text) (defScope s__law_text) [] [] (He.ga K "_law_text") fd) : FnG P w K mg base CX0 3 (He.ga K "_law_text") fd ["_law_draw"] (toSp K sp__law_text) := fn_hd F sc__law_text l__law_text (b__law_text c X G) d__law_text fun _ _ _ h => h
theorem c__law_text (c : He.SaysD fa fn K) (X : K.In base) (G : base.Ns mainGlobals mg) : Cal P w K mg base 3 "_law_text" sp__law_text [] := by
  obtain ⟨fd, F⟩ := c.def_ 3 (d := df__law_text) rfl
  exact cal_of F (f__law_text c X G F) (g__law_text c X G) (fun _ _ _ _ _ _ us hl => match us, hl with | [_], _ => rfl)
-- _law_is_small
theorem b__law_is_small (c : He.SaysD fa fn K) (X : K.In base) (G : base.Ns mainGlobals mg) : Bdy P w K mg base ["_law_text_here", "_law_sign"] "_law_is_small" s__law_is_small (He.ga K "_law_is_small") 0 w__law_is_small := by
  intro cdv A outer s H E gu hr
  have nd := sc__law_is_small.nd
  have h64 : (CxB P w K mg base ["_law_text_here", "_law_sign"] "_law_is_small" s__law_is_small (He.ga K "_law_is_small") cdv A outer s H E).A.units + 64 < cLine := by have := hr.un; omega
  have h65 : (CxB P w K mg base ["_law_text_here", "_law_sign"] "_law_is_small" s__law_is_small (He.ga K "_law_is_small") cdv A outer s H E).A.units + 65 < cLine := by have := hr.un; omega
  exact (dss_one (ds_ret (de_cmp (od_eq h64) (de_lc (own := [("_law_sign", 1)]) (js := [1]) rfl nd (di_any (de_var (pv 0))) (blkOk_by rfl) (by decide) (fun _ _ _ _ _ => (dg_name nd rfl (.inl rfl))) (fun _ _ _ _ _ => (dts_one (dt_not (dt_chain od_le od_le de_str (de_var (pv 1)) de_str)))) (fun _ _ _ _ _ => (de_var (pv 1)))) (de_lst da_nil))))
theorem f__law_is_small (c : He.SaysD fa fn K) (X : K.In base) (G : base.Ns mainGlobals mg) {fd : FuncData} (F : FunD K "_law_is_small" "_law_is_small" (defArgs s__law_is_small) (defBody s__law_is_small) (defScope s__law_is_small) [] [] (He.ga K "_law_is_small") fd) : FnG P w K mg base CX0 1 (He.ga K "_law_is_small") fd ["_law_text_here"] (toSp K sp__law_is_small) := fn_hd F sc__law_is_small l__law_is_small (b__law_is_small c X G) d__law_is_small fun _ _ _ h => h
theorem c__law_is_small (c : He.SaysD fa fn K) (X : K.In base) (G : base.Ns mainGlobals mg) : Cal P w K mg base 1 "_law_is_small" sp__law_is_small [] := by
  obtain ⟨fd, F⟩ := c.def_ 4 (d := df__law_is_small) rfl
  exact cal_of F (f__law_is_small c X G F) (g__law_is_small c X G) (fun _ _ _ _ _ _ us hl => match us, hl with | [_], _ => rfl)
-- is_word
theorem b_is_word (c : He.SaysD fa fn K) (X : K.In base) (G : base.Ns mainGlobals mg) : Bdy P w K mg base ["value", "sign"] "is_word" s_is_word (He.ga K "is_word") 0 w_is_word := by
  intro cdv A outer s H E gu hr
  have nd := sc_is_word.nd
  have h64 : (CxB P w K mg base ["value", "sign"] "is_word" s_is_word (He.ga K "is_word") cdv A outer s H E).A.units + 64 < cLine := by have := hr.un; omega
  have h65 : (CxB P w K mg base ["value", "sign"] "is_word" s_is_word (He.ga K "is_word") cdv A outer s H E).A.units + 65 < cLine := by have := hr.un; omega
  exact (dss_one (ds_ret (de_and (de_callB cd_isi rfl (g_isinstance c X G) (by decide +kernel) (da_cons (de_var (pv 0)) (da_cons (de_ty rfl (g_str c X G) (by decide +kernel)) da_nil))) (de_and (de_chain od_le od_le de_int (de_callB cd_len rfl (g_len c X G) (by decide +kernel) (da_cons (de_var (pv 0)) da_nil)) (de_gint rfl (g_LONGEST c X G))) (de_one (de_callB (cd_all rfl) rfl (g_all c X G) (by decide +kernel) (da_cons (de_lc (own := [("sign", 1)]) (js := [1]) rfl nd (di_any (de_var (pv 0))) (blkOk_by rfl) (by decide) (fun _ _ _ _ _ => (dg_name nd rfl (.inl rfl))) (fun _ _ _ _ _ => dts_nil) (fun _ _ _ _ _ => (de_cmp (od_in h65) (de_var (pv 1)) (de_gstr rfl (g_SMALL c X G))))) da_nil)))))))
theorem f_is_word (c : He.SaysD fa fn K) (X : K.In base) (G : base.Ns mainGlobals mg) {fd : FuncData} (F : FunD K "is_word" "is_word" (defArgs s_is_word) (defBody s_is_word) (defScope s_is_word) [] [] (He.ga K "is_word") fd) : FnG P w K mg base CX0 1 (He.ga K "is_word") fd ["value"] (toSp K sp_is_word) := fn_hd F sc_is_word l_is_word (b_is_word c X G) d_is_word fun _ _ _ h => h
theorem c_is_word (c : He.SaysD fa fn K) (X : K.In base) (G : base.Ns mainGlobals mg) : Cal P w K mg base 1 "is_word" sp_is_word [] := by
  obtain ⟨fd, F⟩ := c.def_ 5 (d := df_is_word) rfl
  exact cal_of F (f_is_word c X G F) (g_is_word c X G) (fun _ _ _ _ _ _ us hl => match us, hl with | [_], _ => rfl)
theorem k_is_word_0 (c : He.SaysD fa fn K) (X : K.In base) (G : base.Ns mainGlobals mg) : CalK P w K mg base 1 "is_word" 0 ["value"] sp_is_word := by
  obtain ⟨fd, F⟩ := c.def_ 5 (d := df_is_word) rfl
  exact calK_of F (f_is_word c X G F) (g_is_word c X G) (fun _ _ _ _ _ _ us ws hl hm => match us, ws, hl, hm with | [], [_], _, _ => rfl)
-- is_class_name
theorem b_is_class_name (c : He.SaysD fa fn K) (X : K.In base) (G : base.Ns mainGlobals mg) : Bdy P w K mg base ["value", "sign"] "is_class_name" s_is_class_name (He.ga K "is_class_name") 0 w_is_class_name := by
  intro cdv A outer s H E gu hr
  have nd := sc_is_class_name.nd
  have h64 : (CxB P w K mg base ["value", "sign"] "is_class_name" s_is_class_name (He.ga K "is_class_name") cdv A outer s H E).A.units + 64 < cLine := by have := hr.un; omega
  have h65 : (CxB P w K mg base ["value", "sign"] "is_class_name" s_is_class_name (He.ga K "is_class_name") cdv A outer s H E).A.units + 65 < cLine := by have := hr.un; omega
  exact (dss_cons (ds_if (DW.t (dw_or (dt_not (dt_tru (de_callB cd_isi rfl (g_isinstance c X G) (by decide +kernel) (da_cons (de_var (pv 0)) (da_cons (de_ty rfl (g_str c X G) (by decide +kernel)) da_nil))))) (dw_or (dt_not (dt_chain od_le od_le de_int (de_callB cd_len rfl (g_len c X G) (by decide +kernel) (da_cons (de_var (pv 0)) da_nil)) (de_gint rfl (g_LONGEST c X G)))) (dw_or1 (dt_cmp (od_notin h65) (de_ix (de_var (pv 0)) de_int) (de_gstr rfl (g_LARGE c X G))))))) (dss_one (ds_ret de_bl)) dss_nil)
    (dss_one (ds_ret (de_callB (cd_all rfl) rfl (g_all c X G) (by decide +kernel) (da_cons (de_lc (own := [("sign", 1)]) (js := [1]) rfl nd (di_any (de_sl (de_var (pv 0)) (do_some de_int) do_none)) (blkOk_by rfl) (by decide) (fun _ _ _ _ _ => (dg_name nd rfl (.inl rfl))) (fun _ _ _ _ _ => dts_nil) (fun _ _ _ _ _ => (de_cmp (od_in h65) (de_var (pv 1)) (de_gstr rfl (g_SMALL c X G))))) da_nil)))))
theorem f_is_class_name (c : He.SaysD fa fn K) (X : K.In base) (G : base.Ns mainGlobals mg) {fd : FuncData} (F : FunD K "is_class_name" "is_class_name" (defArgs s_is_class_name) (defBody s_is_class_name) (defScope s_is_class_name) [] [] (He.ga K "is_class_name") fd) : FnG P w K mg base CX0 1 (He.ga K "is_class_name") fd ["value"] (toSp K sp_is_class_name) := fn_hd F sc_is_class_name l_is_class_name (b_is_class_name c X G) d_is_class_name fun _ _ _ h => h
theorem c_is_class_name (c : He.SaysD fa fn K) (X : K.In base) (G : base.Ns mainGlobals mg) : Cal P w K mg base 1 "is_class_name" sp_is_class_name [] := by
  obtain ⟨fd, F⟩ := c.def_ 6 (d := df_is_class_name) rfl
  exact cal_of F (f_is_class_name c X G F) (g_is_class_name c X G) (fun _ _ _ _ _ _ us hl => match us, hl with | [_], _ => rfl)
theorem k_is_class_name_0 (c : He.SaysD fa fn K) (X : K.In base) (G : base.Ns mainGlobals mg) : CalK P w K mg base 1 "is_class_name" 0 ["value"] sp_is_class_name := by
  obtain ⟨fd, F⟩ := c.def_ 6 (d := df_is_class_name) rfl
  exact calK_of F (f_is_class_name c X G F) (g_is_class_name c X G) (fun _ _ _ _ _ _ us ws hl hm => match us, ws, hl, hm with | [], [_], _, _ => rfl)
-- law
theorem f_law (c : He.SaysD fa fn K) (X : K.In base) (G : base.Ns mainGlobals mg) {fd : FuncData} (F : FunD K "law" "law" (defArgs s_law) (defBody s_law) (defScope s_law) [] [] (He.ga K "law") fd) : FnG P w K mg base CX0 4 (He.ga K "law") fd ["_law_script"] (spLaw K) := by
  refine law_hd F sc_law rfl (by decide) (fun _ => none) (fun cdv A outer s H E gu hr => ?_) d_law
  obtain ⟨fB, FB⟩ := c.def_ 0 (d := df__law_begin) rfl
  have nd := sc_law.nd
  have h64 : (CxB P w K mg base ["_law_script", "_law_draw", "_law_turn", "_law_worth", "_law_is_text", "_law_due"] "law" s_law (He.ga K "law") cdv A outer s H E).A.units + 64 < cLine := by have := hr.un; omega
  have h65 : (CxB P w K mg base ["_law_script", "_law_draw", "_law_turn", "_law_worth", "_law_is_text", "_law_due"] "law" s_law (He.ga K "law") cdv A outer s H E).A.units + 65 < cLine := by have := hr.un; omega
  refine ⟨_, _, rfl, ps_set (i := 1) nd rfl (.inl rfl) (pe_callG (f__law_begin c X G FB) gu (hr.mono (by decide)) rfl (g__law_begin c X G) FB.kp (FB.bindsN fun _ _ _ _ _ _ us hl => match us, hl with | [_], _ => rfl) .nil pass0 (pa_cons (pv 0) pa_nil)), ?_⟩
  exact (dss_cons (ds_for PassesOwn.never rfl (di_range1 rfl (g_range c X G) (de_bin od_add de_int (de_callB (cd_min rfl) rfl (g_min c X G) (by decide +kernel) (da_cons (de_callB cd_len rfl (g_len c X G) (by decide +kernel) (da_cons (de_var (pv 0)) da_nil)) (da_cons de_int da_nil))))) (dg_name nd rfl (.inl rfl)) (dss_cons (ds_set (i := 3) nd rfl (.inl rfl) (de_call (c__law_text c X G) gu hr (by decide) rfl (da_cons (de_var (pv 1)) da_nil)))
    (dss_cons (ds_if (dt_cmp (od_eq h64) (de_call (c__law_take c X G) gu hr (by decide) rfl (da_cons (de_var (pv 1)) (da_cons de_int da_nil))) de_int) (dss_one (ds_set (i := 3) nd rfl (.inl rfl) (de_call (c__law_pick c X G) gu hr (by decide) rfl (da_cons (de_var (pv 1)) (da_cons (de_lst (da_cons de_non (da_cons de_int (da_cons de_int (da_cons de_bl (da_cons (de_lst (da_cons de_str da_nil)) (da_cons (de_tup (da_cons de_str da_nil)) (da_cons de_d0 (da_cons (de_disp (dp_cons de_str de_int dp_nil)) (da_cons (de_lst da_nil) (da_cons (de_tup da_nil) (da_cons (de_tup (da_cons de_str (da_cons de_str da_nil))) da_nil)))))))))))) da_nil))))) dss_nil)
    (dss_cons (ds_set (i := 4) nd rfl (.inl rfl) (de_callB cd_isi rfl (g_isinstance c X G) (by decide +kernel) (da_cons (de_var (pv 3)) (da_cons (de_ty rfl (g_str c X G) (by decide +kernel)) da_nil))))
    (dss_cons (ds_set (i := 5) nd rfl (.inl rfl) (de_and (de_var (pv 4)) (de_and (de_chain od_lt od_lt de_int (de_callB cd_len rfl (g_len c X G) (by decide +kernel) (da_cons (de_var (pv 3)) da_nil)) de_int) (de_one (de_call (c__law_is_small c X G) gu hr (by decide) rfl (da_cons (de_var (pv 3)) da_nil))))))
    (dss_cons (ds_set (i := 5) nd rfl (.inl rfl) (de_lst (da_cons (de_var (pv 5)) (da_cons (de_and (de_var (pv 4)) (de_and (de_chain od_lt od_lt de_int (de_callB cd_len rfl (g_len c X G) (by decide +kernel) (da_cons (de_var (pv 3)) da_nil)) de_int) (de_and (de_chain od_le od_le de_str (de_ix (de_var (pv 3)) de_int) de_str) (de_one (de_call (c__law_is_small c X G) gu hr (by decide) rfl (da_cons (de_sl (de_var (pv 3)) (do_some de_int) do_none) da_nil)))))) da_nil))))
    (dss_cons (ds_if (dt_cmp (od_ne h64) (de_callB (cd_repr gu h65) rfl (g_repr c X G) (by decide +kernel) (da_cons (de_lst (da_cons (de_call (c_is_word c X G) gu hr (by decide) rfl (da_cons (de_var (pv 3)) da_nil)) (da_cons (de_call (c_is_class_name c X G) gu hr (by decide) rfl (da_cons (de_var (pv 3)) da_nil)) da_nil))) da_nil)) (de_callB (cd_repr gu h65) rfl (g_repr c X G) (by decide +kernel) (da_cons (de_var (pv 5)) da_nil))) (dss_one (ds_ret de_bl)) dss_nil)
    (dss_one (ds_if (dt_cmp (od_ne h64) (de_lst (da_cons (de_callK0 (k_is_word_0 c X G) gu hr (by decide) rfl (dk_cons (nm := some "value") (de_var (pv 3)) dk_nil)) (da_cons (de_callK0 (k_is_class_name_0 c X G) gu hr (by decide) rfl (dk_cons (nm := some "value") (de_var (pv 3)) dk_nil)) da_nil))) (de_var (pv 5))) (dss_one (ds_ret de_bl)) dss_nil)))))))))
    (dss_one (ds_ret de_bl)))
end
abbrev R : PySem.W.OpenRow := PySem.W.OpenLaw.row PySem.Challenge.rw_callviews_k01_words_and_class_names
abbrev hk : PySem.W.Hook := He.hookD 4 fa fn
def ob (s : PySem.W.SharedT) : He.AlD := He.obsDG 4 fa fn (HandSHeadRun.getT s)
theorem ob_eq (s : PySem.W.SharedT) : ob s = hk.obs s.abs := He.obsDG_eq (HandSHeadRun.getT_eq s)
theorem run (w : World) : HandSHeadRun.RunEq R (PySem.W.view R.prog [12]) hk ob 2000 ["LONGEST", "SMALL", "LARGE", "is_word", "is_class_name", "_law_begin", "_law_take", "_law_pick", "_law_text", "_law_is_small"] w := by
  intro os
  kernel_rfl
end K01
open PySem PySem.W PySem.Calls PyProof.Rows
theorem PySem.Challenge.cw_callviews_k01_words_and_class_names_holds : PySem.Challenge.rw_callviews_k01_words_and_class_names.Holds := by
  w_on; o_law
  refine HandSHeadRun.head_any (r := OpenLaw.row PySem.Challenge.rw_callviews_k01_words_and_class_names) (q := view (OpenLaw.row PySem.Challenge.rw_callviews_k01_words_and_class_names).prog [12]) (H := K01.hk) (ob := K01.ob) (M := 2000) (loose := ["LONGEST", "SMALL", "LARGE", "is_word", "is_class_name", "_law_begin", "_law_take", "_law_pick", "_law_text", "_law_is_small"]) (d := HandSHeadRun.topDef (OpenLaw.row PySem.Challenge.rw_callviews_k01_words_and_class_names).prog 12) (kwd := []) K01.ob_eq
    (by kernel_rfl) (fun s => by kernel_rfl) K01.run (by kernel_rfl) (by kernel_rfl) (by kernel_rfl) (by rfl) (by first | assumption | decide +kernel) (by decide +kernel) ⟨rfl, rfl, rfl, rfl, rfl, by decide +kernel⟩ ?hw ?hc
  case hw => w_witness2
  case hc =>
    refine HD.end_walk (l := PySem.Challenge.rw_callviews_k01_words_and_class_names) (k := 4) (x := "_law_script") rfl (by kernel_rfl) ⟨rfl, by decide, by decide⟩ ?_
    intro w mg fa h Y G hmg0
    obtain ⟨K, KX, c⟩ := Y
    have hmg : mg ("law" : PySem.Str) = some (.ref fa) := by
      have e : (HandSHeadRun.topDef (OpenLaw.row PySem.Challenge.rw_callviews_k01_words_and_class_names).prog 12).name = ("law" : PySem.Str) := by kernel_rfl
      rw [← e]
      exact hmg0
    obtain ⟨fd, F⟩ := c.def_ 7 (d := K01.df_law) rfl
    have e := hmg.symm.trans (K01.g_law c KX G)
    cases e
    have b := L2.FunD.bindsA (ps := ["_law_script"]) F fun _ _ _ _ _ _ us hl => match us, hl with | [_], _ => rfl
    exact ⟨K, fd, KX, fun s v => b s [v] rfl, fun base X2 G2 => K01.f_law c X2 G2 F⟩
