import PyProof.Rows.All
import Wide.All
import OpenK.AllK
import Wide.FinOn
import HandS.ForMost
import HandS.Evl
import HandS.Zip
import HandS.IsInst
import HandS.Strs
import HandS.RevRange
import HandS.Conv
import HandS.Style
import KE.KDictKeyed
import HandS.SetFor
import HandS.ExcOwn
import HandS.WordsExc
import HandS.TryOnly
import HandS.ClsMeth
import PySem.Challenge.RW_graftform_k77_whole_drawn_back
set_option Elab.async false
set_option linter.all false
set_option maxRecDepth 100000
set_option maxHeartbeats 4000000
/-! Gf0: plain data (None, truths, ints, texts, tuples of such) and how a value stands for it; what an expression gives, over data. -/
namespace GF
open PySem L2 Evl
inductive Dt where
  | n
  | b (x : Bool)
  | i (x : Int)
  | s (x : Str)
  | t (l : List Dt)
  /-- a tuple whose object is known (its methods may be called) -/
  | f (l : List Dt)
mutual
/-- the value v stands for the datum d -/
inductive Rp (H : Hp) : V → Dt → Prop
  | n : Rp H .non .n
  | b (x : Bool) : Rp H (.bl x) (.b x)
  | i (x : Int) : Rp H (.int x) (.i x)
  | s (x : Str) : Rp H (.str x) (.s x)
  | t {a : Addr} {xs : List V} {ds : List Dt} : H a = some (.tup xs) → RpA H xs ds → Rp H (.ref a) (.t ds)
  | f {a : Addr} {o : Obj} {xs : List V} {ds : List Dt} : H a = some (.frz o (.tup xs)) → o.cls = .type "tuple" → o.dict = none → RpA H xs ds → Rp H (.ref a) (.f ds)
inductive RpA (H : Hp) : List V → List Dt → Prop
  | nil : RpA H [] []
  | cons {v : V} {vs : List V} {d : Dt} {ds : List Dt} : Rp H v d → RpA H vs ds → RpA H (v :: vs) (d :: ds)
end
/-- the tuples stay -/
def isTp : HO → Bool
  | .tup _ => true
  | .frz _ _ => true
  | _ => false
def Tk (H H' : Hp) : Prop := ∀ a o, isTp o = true → H a = some o → H' a = some o
theorem Tk.refl (H : Hp) : Tk H H := fun _ _ _ h => h
theorem Tk.trans {H H1 H2 : Hp} (a : Tk H H1) (b : Tk H1 H2) : Tk H H2 := fun x xs z h => b x xs z (a x xs z h)
theorem Tk.ex {H H' : Hp} (e : Ex H H') : Tk H H' := fun a xs _ h => e a _ h
theorem Tk.t {H H' : Hp} (k : Tk H H') {a : Addr} {xs : List V} (h : H a = some (.tup xs)) : H' a = some (.tup xs) := k a _ rfl h
theorem Tk.upd {H : Hp} {p : Addr} {o : HO} (h : ∀ u, isTp u = true → H p ≠ some u) : Tk H (upd H p o) := fun a xs i e => by
  rw [upd_ne (fun z => h xs i (by rw [← z]; exact e))]
  exact e
theorem Tk.updL {H : Hp} {p : Addr} {o : HO} {xs : List V} (h : H p = some (.lst xs)) : Tk H (L2.upd H p o) := Tk.upd fun ys i z => by rw [h] at z; cases z; cases i
theorem Tk.updN {H : Hp} {p : Addr} {o : HO} (h : H p = none) : Tk H (L2.upd H p o) := Tk.upd fun ys i z => by rw [h] at z; cases z
mutual
theorem Rp.mono {H H' : Hp} (k : Tk H H') : ∀ {d : Dt} {v : V}, Rp H v d → Rp H' v d
  | .n, _, .n => .n
  | .b _, _, .b x => .b x
  | .i _, _, .i x => .i x
  | .s _, _, .s x => .s x
  | .t _, _, .t h r => .t (k _ _ rfl h) (RpA.mono k r)
  | .f _, _, .f h c d r => .f (k _ _ rfl h) c d (RpA.mono k r)
theorem RpA.mono {H H' : Hp} (k : Tk H H') : ∀ {ds : List Dt} {vs : List V}, RpA H vs ds → RpA H' vs ds
  | [], _, .nil => .nil
  | _ :: _, _, .cons r t => .cons (Rp.mono k r) (RpA.mono k t)
end
theorem Rp.ex {H H' : Hp} (e : Ex H H') {d : Dt} {v : V} (r : Rp H v d) : Rp H' v d := r.mono (Tk.ex e)
theorem RpA.ex {H H' : Hp} (e : Ex H H') {d : List Dt} {v : List V} (r : RpA H v d) : RpA H' v d := r.mono (Tk.ex e)
section
variable {H : Hp}
theorem Rp.int {v : V} {x : Int} (r : Rp H v (.i x)) : v = .int x := by cases r; rfl
theorem Rp.str {v : V} {x : Str} (r : Rp H v (.s x)) : v = .str x := by cases r; rfl
theorem Rp.bl {v : V} {x : Bool} (r : Rp H v (.b x)) : v = .bl x := by cases r; rfl
theorem Rp.non {v : V} (r : Rp H v .n) : v = .non := by cases r; rfl
theorem Rp.tup {v : V} {ds : List Dt} (r : Rp H v (.t ds)) : ∃ a xs, v = .ref a ∧ H a = some (.tup xs) ∧ RpA H xs ds := by
  cases r with
  | t h q => exact ⟨_, _, rfl, h, q⟩
theorem Rp.ftup {v : V} {ds : List Dt} (r : Rp H v (.f ds)) : ∃ a o xs, v = .ref a ∧ H a = some (.frz o (.tup xs)) ∧ o.cls = .type "tuple" ∧ o.dict = none ∧ RpA H xs ds := by
  cases r with
  | f h c d q => exact ⟨_, _, _, rfl, h, c, d, q⟩
theorem RpA.len : ∀ {vs : List V} {ds : List Dt}, RpA H vs ds → vs.length = ds.length
  | _, _, .nil => rfl
  | _, _, .cons _ t => congrArg (· + 1) (RpA.len t)
theorem RpA.get : ∀ {vs : List V} {ds : List Dt} {k : Nat} {d : Dt}, RpA H vs ds → ds[k]? = some d → ∃ v, vs[k]? = some v ∧ Rp H v d
  | _, _, _, _, .nil, e => by simp at e
  | _, _, 0, _, .cons r _, e => by simp at e; subst e; exact ⟨_, rfl, r⟩
  | _, _, k + 1, d, .cons _ t, e => by
    obtain ⟨v, h1, h2⟩ := RpA.get (k := k) (d := d) t (by simpa using e)
    exact ⟨v, by simpa using h1, h2⟩
theorem RpA.getV : ∀ {vs : List V} {ds : List Dt} {k : Nat} {v : V}, RpA H vs ds → vs[k]? = some v → ∃ d, ds[k]? = some d ∧ Rp H v d
  | _, _, _, _, .nil, e => by simp at e
  | _, _, 0, _, .cons r _, e => by simp at e; subst e; exact ⟨_, rfl, r⟩
  | _, _, k + 1, d, .cons _ t, e => by
    obtain ⟨v, h1, h2⟩ := RpA.getV (k := k) (v := d) t (by simpa using e)
    exact ⟨v, by simpa using h1, h2⟩
theorem RpA.app : ∀ {vs ws : List V} {ds es : List Dt}, RpA H vs ds → RpA H ws es → RpA H (vs ++ ws) (ds ++ es)
  | _, _, _, _, .nil, s => s
  | _, _, _, _, .cons r t, s => .cons r (RpA.app t s)
theorem RpA.one {v : V} {d : Dt} (r : Rp H v d) : RpA H [v] [d] := .cons r .nil
theorem RpA.take : ∀ {vs : List V} {ds : List Dt} (n : Nat), RpA H vs ds → RpA H (vs.take n) (ds.take n)
  | _, _, 0, _ => .nil
  | _, _, _ + 1, .nil => .nil
  | _, _, n + 1, .cons r t => .cons r (RpA.take n t)
theorem RpA.drop : ∀ {vs : List V} {ds : List Dt} (n : Nat), RpA H vs ds → RpA H (vs.drop n) (ds.drop n)
  | _, _, 0, r => r
  | _, _, _ + 1, .nil => .nil
  | _, _, n + 1, .cons _ t => RpA.drop n t
theorem RpA.set {v : V} {d : Dt} (r : Rp H v d) : ∀ {vs : List V} {ds : List Dt} (k : Nat), RpA H vs ds → RpA H (vs.set k v) (ds.set k d)
  | _, _, _, .nil => .nil
  | _, _, 0, .cons _ t => .cons r t
  | _, _, k + 1, .cons q t => .cons q (RpA.set r k t)
theorem RpA.rev {vs : List V} {ds : List Dt} (r : RpA H vs ds) : RpA H vs.reverse ds.reverse := by
  induction ds generalizing vs with
  | nil => cases r; exact .nil
  | cons d ds ih =>
    cases r with
    | cons q t =>
      rw [List.reverse_cons, List.reverse_cons]
      exact RpA.app (ih t) (.one q)
theorem RpA.atI {vs : List V} {ds : List Dt} {k : Int} {d : Dt} (r : RpA H vs ds) (h : L2.atI ds k = some d) : ∃ v, L2.atI vs k = some v ∧ Rp H v d := by
  unfold L2.atI at h ⊢
  rw [r.len]
  cases e : ixN ds.length k with
  | none => rw [e] at h; cases h
  | some j =>
    rw [e] at h
    exact RpA.get r h
theorem RpA.ints : ∀ {vs : List V} {ns : List Int}, RpA H vs (ns.map .i) → vs = ns.map V.int
  | _, [], .nil => rfl
  | _, n :: ns, .cons r t => by rw [r.int, RpA.ints t]; rfl
theorem RpA.strs : ∀ {vs : List V} {ns : List Str}, RpA H vs (ns.map .s) → vs = ns.map V.str
  | _, [], .nil => rfl
  | _, n :: ns, .cons r t => by rw [r.str, RpA.strs t]; rfl
theorem RpA.bls : ∀ {vs : List V} {ns : List Bool}, RpA H vs (ns.map .b) → vs = ns.map V.bl
  | _, [], .nil => rfl
  | _, n :: ns, .cons r t => by rw [r.bl, RpA.bls t]; rfl
theorem rpa_ints : ∀ ns : List Int, RpA H (ns.map V.int) (ns.map .i)
  | [] => .nil
  | n :: ns => .cons (.i n) (rpa_ints ns)
theorem rpa_strs : ∀ ns : List Str, RpA H (ns.map V.str) (ns.map .s)
  | [] => .nil
  | n :: ns => .cons (.s n) (rpa_strs ns)
end
/-- at a stands a list of these data -/
def Ls (H : Hp) (a : Addr) (ds : List Dt) : Prop := ∃ xs, H a = some (.lst xs) ∧ RpA H xs ds
theorem Ls.ex {H H' : Hp} (e : Ex H H') {a : Addr} {ds : List Dt} (l : Ls H a ds) : Ls H' a ds := let ⟨xs, h, r⟩ := l; ⟨xs, e a _ h, r.ex e⟩
theorem Ls.keep {H : Hp} {a p : Addr} {o : HO} {ds : List Dt} (l : Ls H a ds) (n : a ≠ p) (k : Tk H (upd H p o)) : Ls (upd H p o) a ds := let ⟨xs, h, r⟩ := l; ⟨xs, by rw [upd_ne n]; exact h, r.mono k⟩
/-- what is known of a slot -/
inductive Sd where
  | no
  | d (x : Dt)
  | l (ds : List Dt)
  | v (x : V)
def SlP (H : Hp) (o : Option V) : Sd → Prop
  | .no => True
  | .d x => ∃ v, o = some v ∧ Rp H v x
  | .l ds => ∃ a, o = some (.ref a) ∧ Ls H a ds
  | .v x => o = some x
inductive Sl (H : Hp) : L2.St → List Sd → Prop
  | nil : Sl H [] []
  | cons {o : Option V} {s : Sd} {σ : L2.St} {ss : List Sd} : SlP H o s → Sl H σ ss → Sl H (o :: σ) (s :: ss)
theorem SlP.ex {H H' : Hp} (e : Ex H H') {o : Option V} : ∀ {s : Sd}, SlP H o s → SlP H' o s
  | .no, _ => trivial
  | .d _, ⟨v, h, r⟩ => ⟨v, h, r.ex e⟩
  | .l _, ⟨a, h, r⟩ => ⟨a, h, r.ex e⟩
  | .v _, h => h
theorem Sl.ex {H H' : Hp} (e : Ex H H') : ∀ {σ : L2.St} {ss : List Sd}, Sl H σ ss → Sl H' σ ss
  | _, _, .nil => .nil
  | _, _, .cons p t => .cons (p.ex e) (Sl.ex e t)
section
variable {H : Hp}
theorem Sl.get : ∀ {σ : L2.St} {ss : List Sd} {k : Nat} {s : Sd}, Sl H σ ss → ss[k]? = some s → ∃ o, σ[k]? = some o ∧ SlP H o s
  | _, _, _, _, .nil, e => by simp at e
  | _, _, 0, _, .cons r _, e => by simp at e; subst e; exact ⟨_, rfl, r⟩
  | _, _, k + 1, d, .cons _ t, e => by
    obtain ⟨v, h1, h2⟩ := Sl.get (k := k) (s := d) t (by simpa using e)
    exact ⟨v, by simpa using h1, h2⟩
theorem Sl.set {o : Option V} {s : Sd} (p : SlP H o s) : ∀ {σ : L2.St} {ss : List Sd} (k : Nat), Sl H σ ss → Sl H (σ.set k o) (ss.set k s)
  | _, _, _, .nil => .nil
  | _, _, 0, .cons _ t => .cons p t
  | _, _, k + 1, .cons q t => .cons q (Sl.set p k t)
theorem Sl.setD {σ : L2.St} {ss : List Sd} {v : V} {d : Dt} (S : Sl H σ ss) (k : Nat) (r : Rp H v d) : Sl H (σ.set k (some v)) (ss.set k (.d d)) := Sl.set (show SlP H (some v) (.d d) from ⟨v, rfl, r⟩) k S
theorem Sl.setL {σ : L2.St} {ss : List Sd} {a : Addr} {ds : List Dt} (S : Sl H σ ss) (k : Nat) (r : Ls H a ds) : Sl H (σ.set k (some (.ref a))) (ss.set k (.l ds)) := Sl.set (show SlP H (some (.ref a)) (.l ds) from ⟨a, rfl, r⟩) k S
theorem Sl.setV {σ : L2.St} {ss : List Sd} (S : Sl H σ ss) (k : Nat) (v : V) : Sl H (σ.set k (some v)) (ss.set k (.v v)) := Sl.set (show SlP H (some v) (.v v) from rfl) k S
theorem Sl.setN {σ : L2.St} {ss : List Sd} (S : Sl H σ ss) (k : Nat) (o : Option V) : Sl H (σ.set k o) (ss.set k .no) := Sl.set (show SlP H o .no from trivial) k S
/-- forgetting a slot -/
theorem Sl.drop {σ : L2.St} {ss : List Sd} (S : Sl H σ ss) (k : Nat) : Sl H σ (ss.set k .no) := by
  induction S generalizing k with
  | nil => exact .nil
  | cons p t ih =>
    cases k with
    | zero => exact .cons trivial t
    | succ k => exact .cons p (ih k)
/-- the arguments -/
inductive Ad where
  | d (x : Dt)
  | l (ds : List Dt)
def Ad.sd : Ad → Sd
  | .d x => .d x
  | .l ds => .l ds
def AdP (H : Hp) (v : V) (a : Ad) : Prop := SlP H (some v) a.sd
inductive Ads (H : Hp) : List V → List Ad → Prop
  | nil : Ads H [] []
  | cons {v : V} {vs : List V} {a : Ad} {as : List Ad} : AdP H v a → Ads H vs as → Ads H (v :: vs) (a :: as)
theorem Ads.len : ∀ {vs : List V} {ds : List Ad}, Ads H vs ds → vs.length = ds.length
  | _, _, .nil => rfl
  | _, _, .cons _ t => congrArg (· + 1) (Ads.len t)
theorem Sl.rep (n : Nat) : Sl H (List.replicate n none) (List.replicate n .no) := by
  induction n with
  | zero => exact .nil
  | succ n ih => exact .cons trivial ih
theorem Sl.ofAds {n : Nat} : ∀ {vs : List V} {as : List Ad}, Ads H vs as → Sl H (vs.map some ++ List.replicate n none) (as.map Ad.sd ++ List.replicate n .no)
  | _, _, .nil => Sl.rep n
  | _, _, .cons p t => .cons p (Sl.ofAds t)
/-- at a def's entry -/
theorem sl_start {N : List Str} {vs : List V} {as : List Ad} (h : Ads H vs as) : Sl H (L2.start N vs) (as.map Ad.sd ++ List.replicate (N.length - as.length) .no) := by
  unfold L2.start
  rw [h.len]
  exact Sl.ofAds h
end
theorem AdP.ex {H H' : Hp} (e : Ex H H') {v : V} {a : Ad} (p : AdP H v a) : AdP H' v a := SlP.ex e p
theorem Ads.ex {H H' : Hp} (e : Ex H H') : ∀ {vs : List V} {as : List Ad}, Ads H vs as → Ads H' vs as
  | _, _, .nil => .nil
  | _, _, .cons p t => .cons (p.ex e) (Ads.ex e t)

/-- behind a store to l: nothing else has changed -/
structure Bt (l : Addr) (H H' : Hp) : Prop where
  tk : Tk H H'
  bt : ∀ b, b ≠ l → H' b = H b
theorem Bt.ex {H0 H H' : Hp} {l : Addr} (b : Bt l H H') (e : Ex H0 H) (n : H0 l = none) : Ex H0 H' := fun a o h => by
  rw [b.bt a (ne_of_none h n)]
  exact e a o h
/-! ### what an expression gives -/
def EvD (te : TE) (σ : L2.St) (H : Hp) (d : Dt) : Prop := ∀ H1, Ex H H1 → ∀ Q : VK, (∀ v H2, Ex H1 H2 → Rp H2 v d → Q v H2) → te σ H1 Q
/-- a list that is read -/
def EvR (te : TE) (σ : L2.St) (H : Hp) (ds : List Dt) : Prop := ∀ H1, Ex H H1 → ∀ Q : VK, (∀ p H2, Ex H1 H2 → Ls H2 p ds → Q (.ref p) H2) → te σ H1 Q
/-- a new list -/
def EvN (te : TE) (σ : L2.St) (H : Hp) (ds : List Dt) : Prop := ∀ H1, Ex H H1 → ∀ Q : VK, (∀ p H2, H1 p = none → Ex H1 H2 → Ls H2 p ds → Q (.ref p) H2) → te σ H1 Q
def EvAd (ta : TA) (σ : L2.St) (H : Hp) (as : List Ad) : Prop := ∀ H1, Ex H H1 → ∀ Q : List V → Hp → Prop, (∀ vs H2, Ex H1 H2 → Ads H2 vs as → Q vs H2) → ta σ H1 Q
/-- arguments that are data -/
def EvDs (ta : TA) (σ : L2.St) (H : Hp) (ds : List Dt) : Prop := ∀ H1, Ex H H1 → ∀ Q : List V → Hp → Prop, (∀ vs H2, Ex H1 H2 → RpA H2 vs ds → Q vs H2) → ta σ H1 Q
section
variable {K : PySem.W.Frag} {σ : L2.St} {H H' : Hp} {ta tb te tx : TE} {t u : TT} {ss : List Sd}
theorem EvD.mono {d : Dt} (e : Ex H H') (h : EvD te σ H d) : EvD te σ H' d := fun H1 a Q q => h H1 (e.trans a) Q q
theorem EvR.mono {d : List Dt} (e : Ex H H') (h : EvR te σ H d) : EvR te σ H' d := fun H1 a Q q => h H1 (e.trans a) Q q
theorem EvN.r {d : List Dt} (h : EvN te σ H d) : EvR te σ H d := fun H1 a Q q => h H1 a Q fun p H2 _ e l => q p H2 e l
theorem ed_is {d d' : Dt} (h : EvD te σ H d) (e : d = d') : EvD te σ H d' := e ▸ h
theorem er_is {d d' : List Dt} (h : EvR te σ H d) (e : d = d') : EvR te σ H d' := e ▸ h
theorem en_is {d d' : List Dt} (h : EvN te σ H d) (e : d = d') : EvN te σ H d' := e ▸ h
theorem ed_var {i : Nat} {d : Dt} (S : Sl H σ ss) (h : ss[i]? = some (.d d)) : EvD (tVar i) σ H d := fun H1 e Q q => by
  obtain ⟨o, h1, v, h2, r⟩ := S.get h
  subst h2
  exact ⟨v, h1, q v H1 (Ex.refl H1) (r.ex e)⟩
theorem er_var {i : Nat} {d : List Dt} (S : Sl H σ ss) (h : ss[i]? = some (.l d)) : EvR (tVar i) σ H d := fun H1 e Q q => by
  obtain ⟨o, h1, v, h2, r⟩ := S.get h
  subst h2
  exact ⟨.ref v, h1, q v H1 (Ex.refl H1) (r.ex e)⟩
theorem ev_varV {i : Nat} {v : V} (S : Sl H σ ss) (h : ss[i]? = some (.v v)) : Ev (tVar i) σ H v := fun H1 e Q q => by
  obtain ⟨o, h1, h2⟩ := S.get h
  have h2 : o = some v := h2
  subst h2
  exact ⟨v, h1, q H1 (Ex.refl H1)⟩
/-- a slot that holds a list's address, the list as it stands -/
theorem er_varA {i : Nat} {a : Addr} {d : List Dt} (S : Sl H σ ss) (h : ss[i]? = some (.v (.ref a))) (l : Ls H a d) : EvR (tVar i) σ H d := fun H1 e Q q => by
  obtain ⟨o, h1, h2⟩ := S.get h
  have h2 : o = some (.ref a) := h2
  subst h2
  exact ⟨.ref a, h1, q a H1 (Ex.refl H1) (l.ex e)⟩
theorem ed_varV {i : Nat} {v : V} {d : Dt} (S : Sl H σ ss) (h : ss[i]? = some (.v v)) (r : Rp H v d) : EvD (tVar i) σ H d := fun H1 e Q q => by
  obtain ⟨o, h1, h2⟩ := S.get h
  have h2 : o = some v := h2
  subst h2
  exact ⟨v, h1, q v H1 (Ex.refl H1) (r.ex e)⟩
theorem ed_ev {v : V} {d : Dt} (h : Ev te σ H v) (r : ∀ H1, Ex H H1 → Rp H1 v d) : EvD te σ H d := fun H1 e Q q => h H1 e Q fun H2 e2 => q v H2 e2 (r H2 (e.trans e2))
theorem ev_int {x : Int} (h : EvD te σ H (.i x)) : Ev te σ H (.int x) := fun H1 e Q q => h H1 e Q fun v H2 e2 r => by rw [r.int]; exact q H2 e2
theorem ev_str {x : Str} (h : EvD te σ H (.s x)) : Ev te σ H (.str x) := fun H1 e Q q => h H1 e Q fun v H2 e2 r => by rw [r.str]; exact q H2 e2
theorem ev_bl {x : Bool} (h : EvD te σ H (.b x)) : Ev te σ H (.bl x) := fun H1 e Q q => h H1 e Q fun v H2 e2 r => by rw [r.bl]; exact q H2 e2
theorem ed_int {x : Int} : EvD (tC (.int x)) σ H (.i x) := ed_ev ev_c fun _ _ => .i x
theorem ed_str {x : Str} : EvD (tC (.str x)) σ H (.s x) := ed_ev ev_c fun _ _ => .s x
theorem ed_bl {x : Bool} : EvD (tC (.bl x)) σ H (.b x) := ed_ev ev_c fun _ _ => .b x
theorem ed_non : EvD (tC .non) σ H .n := ed_ev ev_c fun _ _ => .n
theorem ed_i0 {f : Int → Int → Int} {a b : Int} (ha : EvD ta σ H (.i a)) (hb : EvD tb σ H (.i b)) : EvD (tOp (rI0 fun i j => .int (f i j)) ta tb) σ H (.i (f a b)) := ed_ev (ev_op (ev_int ha) (ev_int hb) rv_I0) fun _ _ => .i _
theorem ed_iC {C : Int → Int → Prop} {f : Int → Int → Int} {a b : Int} (ha : EvD ta σ H (.i a)) (hb : EvD tb σ H (.i b)) (hc : C a b) : EvD (tOp (rI C fun i j => .int (f i j)) ta tb) σ H (.i (f a b)) := ed_ev (ev_op (ev_int ha) (ev_int hb) (rv_I hc)) fun _ _ => .i _
theorem ed_neg {a : Int} (ha : EvD ta σ H (.i a)) : EvD (tUn (rU fun i => .int (-i)) ta) σ H (.i (-a)) := ed_ev (ev_un (ev_int ha) ru_neg) fun _ _ => .i _
theorem ed_cmp0 {p : Int → Int → Bool} {a b : Int} (ha : EvD ta σ H (.i a)) (hb : EvD tb σ H (.i b)) : EvD (tOp (rI0 fun i j => .bl (p i j)) ta tb) σ H (.b (p a b)) := ed_ev (ev_op (ev_int ha) (ev_int hb) rv_I0) fun _ _ => .b _
/-- scalars that are compared -/
def flatD : Dt → Option V
  | .n => some .non
  | .b x => some (.bl x)
  | .i x => some (.int x)
  | .s x => some (.str x)
  | .t _ => none
  | .f _ => none
theorem ev_flat {d : Dt} {v : V} (h : EvD te σ H d) (f : flatD d = some v) : Ev te σ H v := fun H1 e Q q => h H1 e Q fun w H2 e2 r => by
  cases r with
  | n => cases f; exact q H2 e2
  | b x => cases f; exact q H2 e2
  | i x => cases f; exact q H2 e2
  | s x => cases f; exact q H2 e2
  | t _ _ => cases f
  | f _ _ _ _ => cases f
theorem ed_eq {d e : Dt} {x y : V} (ha : EvD ta σ H d) (hb : EvD tb σ H e) (fx : flatD d = some x) (fy : flatD e = some y) (hs : scal x y = true) : EvD (tOp rEq ta tb) σ H (.b (decide (x = y))) := ed_ev (ev_op (ev_flat ha fx) (ev_flat hb fy) (rv_eq hs)) fun _ _ => .b _
theorem ed_ne {d e : Dt} {x y : V} (ha : EvD ta σ H d) (hb : EvD tb σ H e) (fx : flatD d = some x) (fy : flatD e = some y) (hs : scal x y = true) : EvD (tOp rNe ta tb) σ H (.b (!decide (x = y))) := ed_ev (ev_op (ev_flat ha fx) (ev_flat hb fy) (rv_ne hs)) fun _ _ => .b _
theorem et_ed {b : Bool} (h : EvD te σ H (.b b)) : EvT (tTest te) σ H b := et_test (ev_bl h)
theorem et_edB {b : Bool} (h : EvD te σ H (.b b)) : EvT (tB te) σ H b := et_B (ev_bl h)
def isN : Dt → Bool
  | .n => true
  | _ => false
theorem rp_non {v : V} {d : Dt} (r : Rp H v d) : decide (v = .non) = isN d := by
  cases r <;> rfl
theorem et_isN {d : Dt} (ha : EvD ta σ H d) : EvT (tB (tIsN ta)) σ H (isN d) := fun H1 e Q q => ha H1 e _ fun v H2 e2 r => ⟨_, rfl, by
  rw [rp_non r]
  exact q H2 e2⟩
theorem et_notN {d : Dt} (ha : EvD ta σ H d) : EvT (tB (tNotN ta)) σ H (!isN d) := fun H1 e Q q => ha H1 e _ fun v H2 e2 r => ⟨_, rfl, by
  rw [rp_non r]
  exact q H2 e2⟩
/-- arguments -/
theorem ds_nil : EvDs tNil σ H [] := fun H1 _ _ q => q [] H1 (Ex.refl H1) .nil
theorem ds_cons {tr : TA} {d : Dt} {ds : List Dt} (h : EvD ta σ H d) (hr : EvDs tr σ H ds) : EvDs (tCons ta tr) σ H (d :: ds) := fun H1 e _ q =>
  h H1 e _ fun v H2 e2 r => hr H2 (e.trans e2) _ fun vs H3 e3 rs => q _ H3 (e2.trans e3) (.cons (r.ex e3) rs)
theorem ad_nil : EvAd tNil σ H [] := fun H1 _ _ q => q [] H1 (Ex.refl H1) .nil
theorem ad_d {tr : TA} {d : Dt} {ds : List Ad} (h : EvD ta σ H d) (hr : EvAd tr σ H ds) : EvAd (tCons ta tr) σ H (.d d :: ds) := fun H1 e _ q =>
  h H1 e _ fun v H2 e2 r => hr H2 (e.trans e2) _ fun vs H3 e3 rs => q _ H3 (e2.trans e3) (.cons ⟨v, rfl, r.ex e3⟩ rs)
theorem ad_l {tr : TA} {d : List Dt} {ds : List Ad} (h : EvR ta σ H d) (hr : EvAd tr σ H ds) : EvAd (tCons ta tr) σ H (.l d :: ds) := fun H1 e _ q =>
  h H1 e _ fun v H2 e2 r => hr H2 (e.trans e2) _ fun vs H3 e3 rs => q _ H3 (e2.trans e3) (.cons ⟨v, rfl, r.ex e3⟩ rs)
/-- tuples, their items -/
theorem ed_tup {tr : TA} {ds : List Dt} (h : EvDs tr σ H ds) (hl : ds.length ≤ 100000) : EvD (tTup tr) σ H (.t ds) := fun H1 e _ q =>
  h H1 e _ fun vs H2 e2 r => ⟨sz_of (by rw [r.len]; exact hl), fun p hp => q _ _ (e2.trans (Ex.new hp)) (.t upd_same (r.ex (Ex.new hp)))⟩
theorem ed_ixT {ds : List Dt} {k : Int} {d : Dt} (ha : EvD ta σ H (.t ds)) (hb : EvD tb σ H (.i k)) (h : atI ds k = some d) : EvD (tOp (rIxT K) ta tb) σ H d := fun H1 e _ q =>
  ha H1 e _ fun v H2 e2 r => hb H2 (e.trans e2) _ fun w H3 e3 rw' => by
    obtain ⟨a, xs, rfl, h1, h2⟩ := (r.ex e3).tup
    obtain ⟨x, hx, rx⟩ := h2.atI h
    rw [rw'.int]
    exact ⟨a, xs, k, x, rfl, rfl, st_of h1, hx, q x H3 (e2.trans e3) rx⟩
theorem ed_ixL {ds : List Dt} {k : Int} {d : Dt} (ha : EvR ta σ H ds) (hb : EvD tb σ H (.i k)) (h : atI ds k = some d) : EvD (tOp (rIxL K) ta tb) σ H d := fun H1 e _ q =>
  ha H1 e _ fun v H2 e2 r => hb H2 (e.trans e2) _ fun w H3 e3 rw' => by
    obtain ⟨xs, h1, h2⟩ := r.ex e3
    obtain ⟨x, hx, rx⟩ := h2.atI h
    rw [rw'.int]
    exact ⟨v, xs, k, x, rfl, rfl, sq_of h1, hx, q x H3 (e2.trans e3) rx⟩
/-- lists -/
theorem en_lst {tr : TA} {ds : List Dt} (h : EvDs tr σ H ds) (hl : ds.length ≤ 100000) : EvN (tLst tr) σ H ds := fun H1 e _ q =>
  h H1 e _ fun vs H2 e2 r => ⟨sz_of (by rw [r.len]; exact hl), fun p hp => q _ _ (fresh_back e2 hp) (e2.trans (Ex.new hp)) ⟨vs, upd_same, r.ex (Ex.new hp)⟩⟩
theorem en_cat {ds es : List Dt} (ha : EvR ta σ H ds) (hb : EvR tb σ H es) (hl : ds.length + es.length ≤ 100000) : EvN (tOp rCat ta tb) σ H (ds ++ es) := fun H1 e _ q =>
  ha H1 e _ fun p H2 e2 r => hb H2 (e.trans e2) _ fun p' H3 e3 r' => by
    obtain ⟨xs, h1, h2⟩ := r.ex e3
    obtain ⟨ys, h3, h4⟩ := r'
    exact ⟨p, p', xs, ys, rfl, rfl, h1, h3, sz_of (by rw [h2.len, h4.len]; exact hl), fun l hl' => q l _ (fresh_back (e2.trans e3) hl') ((e2.trans e3).trans (Ex.new hl')) ⟨xs ++ ys, upd_same, (h2.app h4).ex (Ex.new hl')⟩⟩
/-- tuple(xs), list(xs), len(xs) -/
theorem ed_tupL {ds : List Dt} (ha : EvR ta σ H ds) : EvD (tCB (fun xs H Q => ∃ p ys, xs = [.ref p] ∧ ((SqL K H p ys ∧ ∀ l, H l = none → Q (.ref l) (upd H l (.tup ys))) ∨ (SqT K H p ys ∧ Q (.ref p) H))) (tCons ta tNil)) σ H (.t ds) := fun H1 e _ q =>
  ha H1 e _ fun p H2 e2 r => by
    obtain ⟨xs, h1, h2⟩ := r
    exact ⟨p, xs, rfl, Or.inl ⟨sq_of h1, fun l hl => q _ _ (e2.trans (Ex.new hl)) (.t upd_same (h2.ex (Ex.new hl)))⟩⟩
theorem en_listT {ds : List Dt} (ha : EvD ta σ H (.t ds)) : EvN (tCB (rListS K) (tCons ta tNil)) σ H ds := fun H1 e _ q =>
  ha H1 e _ fun v H2 e2 r => by
    obtain ⟨a, xs, rfl, h1, h2⟩ := r.tup
    exact ⟨a, xs, rfl, Or.inr (st_of h1), fun l hl => q _ _ (fresh_back e2 hl) (e2.trans (Ex.new hl)) ⟨xs, upd_same, h2.ex (Ex.new hl)⟩⟩
theorem en_listL {ds : List Dt} (ha : EvR ta σ H ds) : EvN (tCB (rListS K) (tCons ta tNil)) σ H ds := fun H1 e _ q =>
  ha H1 e _ fun a H2 e2 r => by
    obtain ⟨xs, h1, h2⟩ := r
    exact ⟨a, xs, rfl, Or.inl (sq_of h1), fun l hl => q _ _ (fresh_back e2 hl) (e2.trans (Ex.new hl)) ⟨xs, upd_same, h2.ex (Ex.new hl)⟩⟩
theorem ed_lenT {ds : List Dt} (ha : EvD ta σ H (.t ds)) : EvD (tCB (rLenS K) (tCons ta tNil)) σ H (.i (ds.length : Int)) := fun H1 e _ q =>
  ha H1 e _ fun v H2 e2 r => by
    obtain ⟨a, xs, rfl, h1, h2⟩ := r.tup
    have hl := h2.len
    refine ⟨a, xs, rfl, Or.inr (st_of h1), ?_⟩
    rw [hl]
    exact q _ H2 e2 (.i _)
theorem ed_lenL {ds : List Dt} (ha : EvR ta σ H ds) : EvD (tCB (rLenS K) (tCons ta tNil)) σ H (.i (ds.length : Int)) := fun H1 e _ q =>
  ha H1 e _ fun a H2 e2 r => by
    obtain ⟨xs, h1, h2⟩ := r
    have hl := h2.len
    refine ⟨a, xs, rfl, Or.inl (sq_of h1), ?_⟩
    rw [hl]
    exact q _ H2 e2 (.i _)
/-- slices -/
theorem rpa_cut {H : Hp} {xs : List V} {ds : List Dt} (r : RpA H xs ds) (n : Nat) (m : Nat) : RpA H ((xs.drop n).take m) ((ds.drop n).take m) := (r.drop n).take m
def cutD (ds : List Dt) (lo hi : Option Int) : List Dt := (ds.drop (HT.sIx ds.length 0 lo)).take (HT.sIx ds.length ds.length hi - HT.sIx ds.length 0 lo)
theorem RpA.cut {H : Hp} {xs : List V} {ds : List Dt} (r : RpA H xs ds) (lo hi : Option Int) : RpA H (cutV xs lo hi) (cutD ds lo hi) := by
  unfold cutV cutD
  rw [r.len]
  exact rpa_cut r _ _
theorem eo_d {i : Int} (h : EvD te σ H (.i i)) : EvO (tPart te) σ H (some i) := eo_some (ev_int h)
theorem en_sl {tl th : TO} {ds : List Dt} {lo hi : Option Int} (h : EvR te σ H ds) (h1 : EvO tl σ H lo) (h2 : EvO th σ H hi) : EvN (tSl (rSlL K) te tl th) σ H (cutD ds lo hi) := fun H1 e _ q =>
  h H1 e _ fun a H2 e2 r => h1 H2 (e.trans e2) _ fun H3 e3 => h2 H3 ((e.trans e2).trans e3) _ fun H4 e4 => by
    obtain ⟨xs, g1, g2⟩ := r.ex (e3.trans e4)
    exact ⟨a, xs, rfl, sq_of g1, fun p hp => q p _ (fresh_back ((e2.trans e3).trans e4) hp) (((e2.trans e3).trans e4).trans (Ex.new hp)) ⟨_, upd_same, (g2.cut lo hi).ex (Ex.new hp)⟩⟩
/-! ### calls by promises over data -/
/-- a def that gives a datum and leaves all as it was -/
def spF {ι : Type} (a : ι → List Ad) (ok : ι → Prop) (r : ι → Dt) : Sp := fun vs H Q _ => ∃ x, Ads H vs (a x) ∧ ok x ∧ ∀ v H', Ex H H' → Rp H' v (r x) → Q v H'
/-- .. a new list -/
def spN {ι : Type} (a : ι → List Ad) (ok : ι → Prop) (r : ι → List Dt) : Sp := fun vs H Q _ => ∃ x, Ads H vs (a x) ∧ ok x ∧ ∀ p H', H p = none → Ex H H' → Ls H' p (r x) → Q (.ref p) H'
theorem spF_len {ι : Type} {a : ι → List Ad} {ok : ι → Prop} {r : ι → Dt} {n : Nat} (h : ∀ x, (a x).length = n) : ∀ vs H Q E, spF a ok r vs H Q E → vs.length = n := fun vs H Q E ⟨x, g, _⟩ => by rw [g.len, h]
theorem spN_len {ι : Type} {a : ι → List Ad} {ok : ι → Prop} {r : ι → List Dt} {n : Nat} (h : ∀ x, (a x).length = n) : ∀ vs H Q E, spN a ok r vs H Q E → vs.length = n := fun vs H Q E ⟨x, g, _⟩ => by rw [g.len, h]
theorem ed_call {ι : Type} {a : ι → List Ad} {ok : ι → Prop} {r : ι → Dt} {E : XK} {ta : TA} (x : ι) (h : EvAd ta σ H (a x)) (g : ok x) : EvD (tCall (spF a ok r) [] E ta) σ H (r x) := fun H1 e Q q =>
  h H1 e _ fun vs H2 e2 l => by
    show spF a ok r (vs ++ []) H2 Q E
    rw [List.append_nil]
    exact ⟨x, l, g, fun v H' e3 rr => q v H' (e2.trans e3) rr⟩
theorem en_call {ι : Type} {a : ι → List Ad} {ok : ι → Prop} {r : ι → List Dt} {E : XK} {ta : TA} (x : ι) (h : EvAd ta σ H (a x)) (g : ok x) : EvN (tCall (spN a ok r) [] E ta) σ H (r x) := fun H1 e Q q =>
  h H1 e _ fun vs H2 e2 l => by
    show spN a ok r (vs ++ []) H2 Q E
    rw [List.append_nil]
    exact ⟨x, l, g, fun v H' hp e3 rr => q v H' (fresh_back e2 hp) (e2.trans e3) rr⟩
/-! ### comprehensions, one name, no test -/
def Cd (H : Hp) (Dl : Addr) (ds : List Dt) (H' : Hp) : Prop := H Dl = none ∧ Ex H H' ∧ Ls H' Dl ds
theorem cd_turn {H H' : Hp} {Dl : Addr} {ds : List Dt} {d : Dt} {σ2 : L2.St} {Pv : Hp → Prop} (p : Cd H Dl ds H') (hz : ds.length < 100000) (he : EvD te σ2 H' d) (k : ∀ H5, Cd H Dl (ds ++ [d]) H5 → Pv H5) :
    tYes σ2 H' fun b H3 => if b = true then te σ2 H3 fun y H4 => ∃ acc, H4 Dl = some (.lst acc) ∧ acc.length < sizeLine ∧ Pv (upd H4 Dl (.lst (acc ++ [y]))) else Pv H3 := by
  obtain ⟨p1, p2, xs, p3, p4⟩ := p
  show te σ2 H' fun y H4 => ∃ acc, H4 Dl = some (.lst acc) ∧ acc.length < sizeLine ∧ Pv (upd H4 Dl (.lst (acc ++ [y])))
  refine he H' (Ex.refl H') _ fun v H4 e4 r => ?_
  have g := e4 _ _ p3
  refine ⟨xs, g, sz_lt (by rw [p4.len]; exact hz), k _ ⟨p1, Ex.mut (p2.trans e4) p1, _, upd_same, ?_⟩⟩
  exact ((p4.ex e4).app (.one r)).mono (Tk.updL g)
theorem set2 {α : Type} (l : List α) (j : Nat) (x y : α) : (l.set j x).set j y = l.set j y := by rw [List.set_set]
/-- over range(n) -/
theorem en_lcR {j : Nat} {n : Nat} {tr : TA} (g : Nat → Dt) (h : EvDs tr σ H [.i (n : Int)]) (hn : n ≤ 40000) (he : ∀ (k : Nat) H1, k < n → Ex H H1 → EvD te (σ.set j (some (.int (k : Int)))) H1 (g k)) :
    EvN (tLc (iRng1 tr) (gName j) tYes te [j]) σ H ((List.range n).map g) := fun H0 e Q q => h H0 e _ fun vs H1 e1 r => by
  cases r with
  | cons r1 r2 =>
    cases r2
    rw [r1.int]
    refine ⟨(n : Int), rfl, by omega, by omega, fun Dl hD => ?_⟩
    refine lc_range (lo := 0) (n := n) (fun i H' => Cd H1 Dl ((List.range i).map g) H') ⟨hD, Ex.new hD, [], upd_same, .nil⟩ (fun i H' hi p => ?_) (fun H' p => q Dl H' (fresh_back e1 p.1) (e1.trans p.2.1) p.2.2)
    have e0 : (0 : Int) + (i : Int) = (i : Int) := Int.zero_add _
    show wipe ((wipe σ [j]).set j (some (.int ((0 : Int) + (i : Int))))) [j] = wipe σ [j] ∧ tYes ((wipe σ [j]).set j (some (.int ((0 : Int) + (i : Int))))) H' _
    rw [e0]
    have es : (wipe σ [j]).set j (some (V.int (i : Int))) = σ.set j (some (.int (i : Int))) := set2 σ j none _
    rw [es]
    refine ⟨set2 σ j _ none, cd_turn p (by rw [List.length_map, List.length_range]; omega) (he i H' hi ((e.trans e1).trans p.2.1)) fun H5 c => ?_⟩
    rw [List.range_succ, List.map_append]
    exact c
/-- over a tuple of data -/
theorem en_lcT {α : Type} {j : Nat} {tl : TE} {xs : List α} (enc g : α → Dt) (h : EvD tl σ H (.t (xs.map enc))) (hn : xs.length ≤ 40000) (he : ∀ a ∈ xs, ∀ x H1, Ex H H1 → Rp H1 x (enc a) → EvD te (σ.set j (some x)) H1 (g a)) :
    EvN (tLc (iTup K tl) (gName j) tYes te [j]) σ H (xs.map g) := fun H0 e Q q => h H0 e _ fun v H1 e1 r => by
  obtain ⟨a, vs, rfl, h1, h2⟩ := r.tup
  have hl : vs.length = xs.length := by rw [h2.len, List.length_map]
  refine ⟨a, rfl, ⟨vs, st_of h1⟩, fun Dl hD => ?_⟩
  refine lc_tup (xs := vs) (fun i H' => Cd H1 Dl ((xs.take i).map g) H') ⟨hD, Ex.new hD, [], upd_same, .nil⟩ (fun i H' _ p => st_of (p.2.1 _ _ h1)) (fun i x H' hi p => ?_) (fun H' p => ?_)
  · obtain ⟨d, hd, rd⟩ := h2.getV hi
    rw [List.getElem?_map] at hd
    obtain ⟨y, hy, rfl⟩ := Option.map_eq_some_iff.mp hd
    have hm : y ∈ xs := List.mem_of_getElem? hy
    have es : (wipe σ [j]).set j (some x) = σ.set j (some x) := set2 σ j none _
    show wipe ((wipe σ [j]).set j (some x)) [j] = wipe σ [j] ∧ tYes ((wipe σ [j]).set j (some x)) H' _
    rw [es]
    refine ⟨set2 σ j _ none, cd_turn p (by rw [List.length_map, List.length_take]; omega) (he y hm x H' ((e.trans e1).trans p.2.1) (rd.ex p.2.1)) fun H5 c => ?_⟩
    rw [List.take_add_one, hy, List.map_append]
    exact c
  · rw [List.take_of_length_le (by rw [hl]; exact Nat.le_refl _)] at p
    exact q Dl H' (fresh_back e1 p.1) (e1.trans p.2.1) p.2.2
/-- over a list of data -/
theorem en_lcL {α : Type} {j : Nat} {tl : TE} {xs : List α} (enc g : α → Dt) (h : EvR tl σ H (xs.map enc)) (hn : xs.length ≤ 40000) (he : ∀ a ∈ xs, ∀ x H1, Ex H H1 → Rp H1 x (enc a) → EvD te (σ.set j (some x)) H1 (g a)) :
    EvN (tLc (iList K tl) (gName j) tYes te [j]) σ H (xs.map g) := fun H0 e Q q => h H0 e _ fun a H1 e1 r => by
  obtain ⟨vs, h1, h2⟩ := r
  have hl : vs.length = xs.length := by rw [h2.len, List.length_map]
  refine ⟨a, rfl, ⟨vs, sq_of h1⟩, fun Dl hD => ?_⟩
  refine lc_list (xs := vs) (fun i H' => Cd H1 Dl ((xs.take i).map g) H') ⟨hD, Ex.new hD, [], upd_same, .nil⟩ (fun i H' _ p => sq_of (p.2.1 _ _ h1)) (fun i x H' hi p => ?_) (fun H' p => ?_)
  · obtain ⟨d, hd, rd⟩ := h2.getV hi
    rw [List.getElem?_map] at hd
    obtain ⟨y, hy, rfl⟩ := Option.map_eq_some_iff.mp hd
    have hm : y ∈ xs := List.mem_of_getElem? hy
    have es : (wipe σ [j]).set j (some x) = σ.set j (some x) := set2 σ j none _
    show wipe ((wipe σ [j]).set j (some x)) [j] = wipe σ [j] ∧ tYes ((wipe σ [j]).set j (some x)) H' _
    rw [es]
    refine ⟨set2 σ j _ none, cd_turn p (by rw [List.length_map, List.length_take]; omega) (he y hm x H' ((e.trans e1).trans p.2.1) (rd.ex p.2.1)) fun H5 c => ?_⟩
    rw [List.take_add_one, hy, List.map_append]
    exact c
  · rw [List.take_of_length_le (by rw [hl]; exact Nat.le_refl _)] at p
    exact q Dl H' (fresh_back e1 p.1) (e1.trans p.2.1) p.2.2
/-! ### statements -/
variable {D : Ends} {tu tw tz : TS} {g : TG}
theorem sd_set {i : Nat} {d : Dt} (h : EvD te σ H d) (k : ∀ v H1, Ex H H1 → Rp H1 v d → D.nx (σ.set i (some v)) H1) : tAsg te (gName i) D σ H := h H (Ex.refl H) _ k
theorem qd_set {i : Nat} {d : Dt} (h : EvD te σ H d) (k : ∀ v H1, Ex H H1 → Rp H1 v d → tz D (σ.set i (some v)) H1) : tSeq (tAsg te (gName i)) tz D σ H := h H (Ex.refl H) _ k
theorem sn_set {i : Nat} {ds : List Dt} (h : EvN te σ H ds) (k : ∀ p H1, H p = none → Ex H H1 → Ls H1 p ds → D.nx (σ.set i (some (.ref p))) H1) : tAsg te (gName i) D σ H := h H (Ex.refl H) _ k
theorem qn_set {i : Nat} {ds : List Dt} (h : EvN te σ H ds) (k : ∀ p H1, H p = none → Ex H H1 → Ls H1 p ds → tz D (σ.set i (some (.ref p))) H1) : tSeq (tAsg te (gName i)) tz D σ H := h H (Ex.refl H) _ k
theorem sd_ret {d : Dt} (h : EvD te σ H d) (k : ∀ v H1, Ex H H1 → Rp H1 v d → D.rt v H1) : tRet te D σ H := h H (Ex.refl H) _ k
theorem sn_ret {ds : List Dt} (h : EvN te σ H ds) (k : ∀ p H1, H p = none → Ex H H1 → Ls H1 p ds → D.rt (.ref p) H1) : tRet te D σ H := h H (Ex.refl H) _ k
/-- for over a tuple of data; Pv speaks of the heap at the loop's beginning too -/
theorem sd_forT {α : Type} {j : Nat} {tl : TE} {xs : List α} (enc : α → Dt) (h : EvD tl σ H (.t (xs.map enc))) (Pv : Hp → List α → L2.St → Hp → Prop) (h0 : ∀ H1, Ex H H1 → Pv H1 [] σ H1) (hk : ∀ H1 pre σ' H', Pv H1 pre σ' H' → Tk H1 H')
    (hs : ∀ H1 pre a post x σ' H', Ex H H1 → xs = pre ++ a :: post → Pv H1 pre σ' H' → Rp H' x (enc a) → tu { D with nx := Pv H1 (pre ++ [a]), ct := Pv H1 (pre ++ [a]), bk := D.nx } (σ'.set j (some x)) H') (hd : ∀ H1 σ' H', Ex H H1 → Pv H1 xs σ' H' → D.nx σ' H') : tFor (iTup K tl) (gName j) tu D σ H :=
  h H (Ex.refl H) _ fun v H1 e r => by
    obtain ⟨a, vs, rfl, h1, h2⟩ := r.tup
    have hl : vs.length = xs.length := by rw [h2.len, List.length_map]
    refine ⟨a, rfl, ⟨vs, st_of h1⟩, for_tup (xs := vs) (fun i σ' H' => Pv H1 (xs.take i) σ' H') (h0 H1 e) (fun i σ' H' _ p => st_of ((hk _ _ _ _ p).t h1)) (fun i x σ' H' hi p => ?_) (fun σ' H' p => ?_)⟩
    · obtain ⟨d, hd', rd⟩ := h2.getV hi
      rw [List.getElem?_map] at hd'
      obtain ⟨y, hy, rfl⟩ := Option.map_eq_some_iff.mp hd'
      obtain ⟨hlt, ey⟩ := List.getElem?_eq_some_iff.mp hy
      have es : xs = xs.take i ++ y :: xs.drop (i + 1) := by
        rw [← ey, ← List.drop_eq_getElem_cons hlt, List.take_append_drop]
      have q := hs H1 (xs.take i) y (xs.drop (i + 1)) x σ' H' e es p (rd.mono (hk _ _ _ _ p))
      have et : xs.take (i + 1) = xs.take i ++ [y] := by rw [List.take_add_one, hy]; rfl
      show tu { D with nx := Pv H1 (xs.take (i + 1)), ct := Pv H1 (xs.take (i + 1)), bk := D.nx } (σ'.set j (some x)) H'
      rw [et]
      exact q
    · rw [List.take_of_length_le (by rw [hl]; exact Nat.le_refl _)] at p
      exact hd H1 σ' H' e p
theorem qd_forT {α : Type} {j : Nat} {tl : TE} {xs : List α} (enc : α → Dt) (h : EvD tl σ H (.t (xs.map enc))) (Pv : Hp → List α → L2.St → Hp → Prop) (h0 : ∀ H1, Ex H H1 → Pv H1 [] σ H1) (hk : ∀ H1 pre σ' H', Pv H1 pre σ' H' → Tk H1 H')
    (hs : ∀ H1 pre a post x σ' H', Ex H H1 → xs = pre ++ a :: post → Pv H1 pre σ' H' → Rp H' x (enc a) → tu { D with nx := Pv H1 (pre ++ [a]), ct := Pv H1 (pre ++ [a]), bk := tz D } (σ'.set j (some x)) H') (hd : ∀ H1 σ' H', Ex H H1 → Pv H1 xs σ' H' → tz D σ' H') : tSeq (tFor (iTup K tl) (gName j) tu) tz D σ H :=
  sd_forT (D := { D with nx := tz D }) enc h Pv h0 hk hs hd
/-- for over a list of data that stays -/
theorem sd_forL {α : Type} {j : Nat} {tl : TE} {xs : List α} (enc : α → Dt) (h : EvR tl σ H (xs.map enc)) (Pv : Addr → Hp → List α → L2.St → Hp → Prop) (h0 : ∀ p H1, Ex H H1 → Ls H1 p (xs.map enc) → Pv p H1 [] σ H1) (hk : ∀ p H1 pre σ' H', Ls H1 p (xs.map enc) → Pv p H1 pre σ' H' → Tk H1 H' ∧ ∀ o, H1 p = some o → H' p = some o)
    (hs : ∀ p H1 pre a post x σ' H', Ex H H1 → xs = pre ++ a :: post → Pv p H1 pre σ' H' → Rp H' x (enc a) → tu { D with nx := Pv p H1 (pre ++ [a]), ct := Pv p H1 (pre ++ [a]), bk := D.nx } (σ'.set j (some x)) H') (hd : ∀ p H1 σ' H', Ex H H1 → Pv p H1 xs σ' H' → D.nx σ' H') : tFor (iList K tl) (gName j) tu D σ H :=
  h H (Ex.refl H) _ fun a H1 e r => by
    obtain ⟨vs, h1, h2⟩ := id r
    have hl : vs.length = xs.length := by rw [h2.len, List.length_map]
    refine ⟨a, rfl, ⟨vs, sq_of h1⟩, for_list (xs := vs) (fun i σ' H' => Pv a H1 (xs.take i) σ' H') (h0 a H1 e r) (fun i σ' H' _ p => sq_of ((hk _ _ _ _ _ r p).2 _ h1)) (fun i x σ' H' hi p => ?_) (fun σ' H' p => ?_)⟩
    · obtain ⟨d, hd', rd⟩ := h2.getV hi
      rw [List.getElem?_map] at hd'
      obtain ⟨y, hy, rfl⟩ := Option.map_eq_some_iff.mp hd'
      obtain ⟨hlt, ey⟩ := List.getElem?_eq_some_iff.mp hy
      have es : xs = xs.take i ++ y :: xs.drop (i + 1) := by
        rw [← ey, ← List.drop_eq_getElem_cons hlt, List.take_append_drop]
      have q := hs a H1 (xs.take i) y (xs.drop (i + 1)) x σ' H' e es p (rd.mono (hk _ _ _ _ _ r p).1)
      have et : xs.take (i + 1) = xs.take i ++ [y] := by rw [List.take_add_one, hy]; rfl
      show tu { D with nx := Pv a H1 (xs.take (i + 1)), ct := Pv a H1 (xs.take (i + 1)), bk := D.nx } (σ'.set j (some x)) H'
      rw [et]
      exact q
    · rw [List.take_of_length_le (by rw [hl]; exact Nat.le_refl _)] at p
      exact hd a H1 σ' H' e p
theorem qd_forL {α : Type} {j : Nat} {tl : TE} {xs : List α} (enc : α → Dt) (h : EvR tl σ H (xs.map enc)) (Pv : Addr → Hp → List α → L2.St → Hp → Prop) (h0 : ∀ p H1, Ex H H1 → Ls H1 p (xs.map enc) → Pv p H1 [] σ H1) (hk : ∀ p H1 pre σ' H', Ls H1 p (xs.map enc) → Pv p H1 pre σ' H' → Tk H1 H' ∧ ∀ o, H1 p = some o → H' p = some o)
    (hs : ∀ p H1 pre a post x σ' H', Ex H H1 → xs = pre ++ a :: post → Pv p H1 pre σ' H' → Rp H' x (enc a) → tu { D with nx := Pv p H1 (pre ++ [a]), ct := Pv p H1 (pre ++ [a]), bk := tz D } (σ'.set j (some x)) H') (hd : ∀ p H1 σ' H', Ex H H1 → Pv p H1 xs σ' H' → tz D σ' H') : tSeq (tFor (iList K tl) (gName j) tu) tz D σ H :=
  sd_forL (D := { D with nx := tz D }) enc h Pv h0 hk hs hd
/-- xs.append(e), xs a list of ours -/
theorem sd_app {l : Addr} {ds : List Dt} {d : Dt} (ha : Ev ta σ H (.ref l)) (hl : Ls H l ds) (h : EvD te σ H d) (hz : ds.length < 100000) (k : ∀ H1 H2, Ex H H1 → Bt l H1 H2 → Ls H2 l (ds ++ [d]) → D.nx σ H2) :
    tDrop (tBM K "list" rAppend ta (tCons te tNil)) D σ H := by
  obtain ⟨xs, h1, h2⟩ := hl
  refine ha H (Ex.refl H) _ fun H1 e1 => ⟨Or.inl ⟨rfl, xs, sq_of (e1 l _ h1)⟩, h H1 e1 _ fun v H2 e2 r => ?_⟩
  have g := e2 l _ (e1 l _ h1)
  refine ⟨l, xs, v, rfl, rfl, g, sz_lt (by rw [h2.len]; exact hz), k H2 _ (e1.trans e2) ⟨Tk.updL g, fun b hb => upd_ne hb⟩ ⟨_, upd_same, ?_⟩⟩
  exact (((h2.ex (e1.trans e2)).app (.one r))).mono (Tk.updL g)
theorem qd_app {l : Addr} {ds : List Dt} {d : Dt} (ha : Ev ta σ H (.ref l)) (hl : Ls H l ds) (h : EvD te σ H d) (hz : ds.length < 100000) (k : ∀ H1 H2, Ex H H1 → Bt l H1 H2 → Ls H2 l (ds ++ [d]) → tz D σ H2) :
    tSeq (tDrop (tBM K "list" rAppend ta (tCons te tNil))) tz D σ H := sd_app (D := { D with nx := tz D }) ha hl h hz k
/-- xs[k] = e -/
theorem sd_put {l : Addr} {ds : List Dt} {d : Dt} {j : Nat} (hl : Ls H l ds) (h : EvD te σ H d) (ho : Ev ta σ H (.ref l)) (hi : EvD tb σ H (.i (j : Int))) (hj : j < ds.length) (k : ∀ H1 H2, Ex H H1 → Bt l H1 H2 → Ls H2 l (ds.set j d) → D.nx σ H2) :
    tAsg te (gSub ta tb rSetL) D σ H := by
  obtain ⟨xs, h1, h2⟩ := hl
  refine h H (Ex.refl H) _ fun v H1 e1 r => ho H1 e1 _ fun H2 e2 => ev_int hi H2 (e1.trans e2) _ fun H3 e3 => ?_
  have g := ((e1.trans e2).trans e3) l _ h1
  refine ⟨l, xs, (j : Int), j, rfl, rfl, g, ixN_nat (by rw [h2.len]; exact hj), k H3 _ ((e1.trans e2).trans e3) ⟨Tk.updL g, fun b hb => upd_ne hb⟩ ⟨_, upd_same, ?_⟩⟩
  exact ((h2.ex ((e1.trans e2).trans e3)).set (r.ex (e2.trans e3)) j).mono (Tk.updL g)
theorem qd_put {l : Addr} {ds : List Dt} {d : Dt} {j : Nat} (hl : Ls H l ds) (h : EvD te σ H d) (ho : Ev ta σ H (.ref l)) (hi : EvD tb σ H (.i (j : Int))) (hj : j < ds.length) (k : ∀ H1 H2, Ex H H1 → Bt l H1 H2 → Ls H2 l (ds.set j d) → tz D σ H2) :
    tSeq (tAsg te (gSub ta tb rSetL)) tz D σ H := sd_put (D := { D with nx := tz D }) hl h ho hi hj k
end
end GF
set_option Elab.async false
set_option linter.all false
set_option maxRecDepth 100000
set_option maxHeartbeats 4000000
/-! Gf1: the text by places; what is in the program's hands, as plain types; small rules; tuples whose object is known. -/
namespace GF
open PySem L2 Evl
/-! ### the text -/
def topG (i : Nat) : Stmt := PySem.Challenge.pw_graftform_k77_whole_drawn_back.main.body.getD i (.Pass ⟨0, 0, 0, 0⟩)
abbrev sGInit : Stmt := inClass (topG 5) 0
abbrev sNumber : Stmt := inClass (topG 5) 2
abbrev sTables : Stmt := inClass (topG 5) 3
abbrev sStartOf : Stmt := topG 6
abbrev sAllNames : Stmt := topG 7
abbrev sItemsFor : Stmt := topG 10
abbrev sWayNone : Stmt := topG 12
abbrev sWayOne : Stmt := topG 13
abbrev sWayBehind : Stmt := topG 14
abbrev sItemState : Stmt := topG 15
abbrev sWayFilled : Stmt := topG 16
abbrev sBInit : Stmt := inClass (topG 18) 0
abbrev sTurnedWay : Stmt := inClass (topG 18) 1
abbrev sStep : Stmt := inClass (topG 18) 2
abbrev sMark : Stmt := inClass (topG 18) 3
abbrev sBackTables : Stmt := topG 19
abbrev sDrawnBack : Stmt := topG 20
abbrev sBackStates : Stmt := topG 21
abbrev sCellAt : Stmt := topG 23
abbrev sMix : Stmt := topG 24
abbrev sTape : Stmt := topG 25
abbrev sNext : Stmt := topG 26
abbrev sNames : Stmt := topG 27
abbrev sMachine : Stmt := topG 28
abbrev sState : Stmt := topG 29
abbrev sItems : Stmt := topG 30
abbrev sTurner : Stmt := topG 31
abbrev sDeepened : Stmt := topG 32
abbrev sFreeDocs : Stmt := topG 33
abbrev sFor : Stmt := topG 34
abbrev sSize : Stmt := topG 35
abbrev sFull : Stmt := topG 36
abbrev sSizes : Stmt := topG 37
abbrev sTurnedRows : Stmt := topG 38
abbrev sDocState : Stmt := topG 39
abbrev sWay : Stmt := topG 40
abbrev sSame : Stmt := topG 41
abbrev sMarkL : Stmt := topG 42
abbrev sPlaceRight : Stmt := topG 43
abbrev sLaw : Stmt := topG 44
/-! ### what the top leaves -/
structure Blt (mg : Str → Option Value) : Prop where
  len : mg "len" = none
  tuple : mg "tuple" = none
  range : mg "range" = none
  list : mg "list" = none
  sorted : mg "sorted" = none
  set : mg "set" = none
  max : mg "max" = none
  min : mg "min" = none
  reversed : mg "reversed" = none
  sum : mg "sum" = none
  zip : mg "zip" = none
  all : mg "all" = none
  isinstance : mg "isinstance" = none
  str : mg "str" = none
  int : mg "int" = none
  bool : mg "bool" = none
  hole : ∃ t, mg "HOLE" = some (.str "*" t)
  states : ∃ t, mg "STATES" = some (.int 64 t)
/-- a def of the top -/
structure Df (K : PySem.W.Frag) (mg : Str → Option Value) (x : Str) (st : Stmt) (f : Addr) (fd : FuncData) : Prop where
  fn : Fun K x x st f fd
  mg : mg x = some (.ref f)
/-- a def that keeps its promise, ready for a call -/
structure Cal (P : Program) (w : World) (K : PySem.W.Frag) (mg : Str → Option Value) (base : Heap) (CX : CXT) (k : Nat) (x : Str) (ps : List Str) (sp : Sp) (f : Addr) (fd : FuncData) : Prop where
  ok : FnOk P w K mg base CX k f fd ps sp
  mg : mg x = some (.ref f)
  kp : PySem.W.keepIn K (.ref f) = true
  bd : Binds K fd ps []
section
variable {P : Program} {w : World} {K : PySem.W.Frag} {mg : Str → Option Value} {base : Heap}
theorem Df.cal {CX : CXT} {k : Nat} {x : Str} {st : Stmt} {ps : List Str} {sp : Sp} {f : Addr} {fd : FuncData} (F : Df K mg x st f fd) (ok : FnOk P w K mg base CX k f fd ps sp)
    (h : ∀ (kV doc pm : Value) (an : Option Addr) (cdv ct : Value) (us : List Value), us.length = ps.length → bindArgs (PySem.W.fnOf x x (defArgs st) (defBody st) (defScope st) .none kV doc pm an cdv ct) ⟨us, []⟩ = pure (ps.zip us)) :
    Cal P w K mg base CX k x ps sp f fd := ⟨ok, F.mg, F.fn.kp, F.fn.binds h⟩
theorem pe_cal {X : Cx} {k : Nat} {x : Str} {ps : List Str} {sp : Sp} {f : Addr} {fd : FuncData} {p pos : Pos} {e : Expr} {es : List Expr} {t : TA} (C : Cal X.prog X.w X.K X.mg X.base CX0 k x ps sp f fd) (hr : Room k X.A)
    (ha : PA X (e :: es) t) (hg : Gl X x := by rfl) (hdb : (x == ("__debug__" : Str)) = false := by decide) (he : starEach (e :: es) X.env = (false, eval e X.env) :: starEach es X.env := by rfl) (hpl : (backTo pos (starEach es X.env)).any (·.1) = false := by rfl) :
    PE X (.Call (.Name x p) (e :: es) [] pos) (tCall sp [] E0 t) := pe_call C.ok hr hg C.mg C.kp C.bd .nil pass0 ha hdb he hpl
end

/-! ### rules with the written part said (for blocks) -/
section
variable {X : Cx}
theorem ixT (K : PySem.W.Frag) (h : X.K = K := by rfl) : IxR X (rIxT K) := h ▸ ix_tup
theorem ixL (K : PySem.W.Frag) (h : X.K = K := by rfl) : IxR X (rIxL K) := h ▸ ix_list
theorem lenK (K : PySem.W.Frag) (h : X.K = K := by rfl) : CallR X (.builtin "len") (rLenS K) := h ▸ call_len_seq
theorem listK (K : PySem.W.Frag) (h : X.K = K := by rfl) : CallR X (.type "list") (rListS K) := h ▸ call_list_of
def rTup (K : PySem.W.Frag) : List V → Hp → VK → Prop := fun xs H Q => ∃ p ys, xs = [.ref p] ∧ ((SqL K H p ys ∧ ∀ l, H l = none → Q (.ref l) (upd H l (.tup ys))) ∨ (SqT K H p ys ∧ Q (.ref p) H))
theorem tupK (K : PySem.W.Frag) (h : X.K = K := by rfl) : CallR X (.type "tuple") (rTup K) := h ▸ call_tuple_of
end
/-! ### the types -/
def eN (n : Nat) : Dt := .i (n : Int)
structure Way where
  m : List Nat
  last : Int
def encW (w : Way) : Dt := .t (w.m.map eN ++ [.i w.last])
structure Mach where
  forms : List Str
  names : List Str
  starts : List Nat
  steps : List (List Nat)
  marks : List Nat
abbrev encM (M : Mach) : Dt := .t [.t (M.forms.map .s), .f (M.names.map .s), .t (M.starts.map eN), .t (M.steps.map fun r => .t (r.map eN)), .t (M.marks.map eN)]
structure Mach.Wf (M : Mach) : Prop where
  st : M.starts.length = M.names.length + 1
  ml : M.marks.length = M.steps.length
  pos : 0 < M.steps.length
  sl : ∀ s ∈ M.starts, s < M.steps.length
  rl : ∀ r ∈ M.steps, r.length = M.steps.length ∧ ∀ x ∈ r, x < M.steps.length
  few : M.steps.length ≤ 64
  nfew : M.names.length ≤ 1000
  ffew : M.forms.length ≤ 1000
inductive Item where
  | hole
  | el (name : Str) (kids : List Item)
mutual
def encI : Item → Dt
  | .hole => .s "*"
  | .el n ks => .t [.s n, .t (encIs ks)]
def encIs : List Item → List Dt
  | [] => []
  | x :: xs => encI x :: encIs xs
end
theorem encIs_map : ∀ l : List Item, encIs l = l.map encI
  | [] => by simp [encIs]
  | x :: xs => by rw [encIs, encIs_map xs]; rfl
theorem encI_el (n : Str) (ks : List Item) : encI (.el n ks) = .t [.s n, .t (ks.map encI)] := by rw [encI, encIs_map]
abbrev Rules := List (Str × List Item)
def encRule (r : Str × List Item) : Dt := .t [.s r.1, .t (r.2.map encI)]
abbrev encRs (R : Rules) : Dt := .t (R.map encRule)
inductive Doc where
  | mk (name : Str) (kids : List Doc)
mutual
def encC : Doc → Dt
  | .mk n ks => .t [.s n, .t (encCs ks)]
def encCs : List Doc → List Dt
  | [] => []
  | x :: xs => encC x :: encCs xs
end
theorem encCs_map : ∀ l : List Doc, encCs l = l.map encC
  | [] => by simp [encCs]
  | x :: xs => by rw [encCs, encCs_map xs]; rfl
theorem encC_mk (n : Str) (ks : List Doc) : encC (.mk n ks) = .t [.s n, .t (ks.map encC)] := by rw [encC, encCs_map]
/-! ### reading a machine -/
def stOf (M : Mach) (x : Str) : Nat := M.starts.getD (M.names.idxOf x) 0
def stp (M : Mach) (p q : Nat) : Nat := (M.steps.getD p []).getD q 0
/-! ### small rules -/
section
variable {K : PySem.W.Frag} {σ : L2.St} {H H' : Hp} {ta tb te tx : TE}
theorem inV_str (x : Str) (ys : List Str) : inV (.str x) (ys.map V.str) = decide (x ∈ ys) := by
  unfold inV
  induction ys with
  | nil => simp
  | cons y ys ih =>
    rw [List.map_cons, List.any_cons, ih]
    show ((y == x) || decide (x ∈ ys)) = decide (x ∈ y :: ys)
    by_cases h : x = y
    · subst h; simp
    · have h2 : (y == x) = false := beq_eq_false_iff_ne.mpr (Ne.symm h)
      rw [h2]; simp [h]
theorem flat_strs (ys : List Str) : (ys.map V.str).all flatV = true := by
  rw [List.all_eq_true]
  intro v hv
  obtain ⟨y, _, rfl⟩ := List.mem_map.mp hv
  rfl
/-- x in ys, ys a known tuple of texts -/
theorem ed_inF {x : Str} {ys : List Str} (ha : EvD ta σ H (.s x)) (hb : EvD tb σ H (.f (ys.map .s))) : EvD (tOp (rIn K false) ta tb) σ H (.b (decide (x ∈ ys))) := fun H1 e Q q =>
  ha H1 e _ fun v H2 e2 r => hb H2 (e.trans e2) _ fun u H3 e3 r3 => by
    obtain ⟨a, o, xs, rfl, h1, h2, h3, h4⟩ := r3.ftup
    have e5 := h4.strs
    subst e5
    rw [r.str]
    refine ⟨a, _, rfl, Or.inr (Or.inl (Or.inr ⟨o, h1⟩)), rfl, flat_strs ys, ?_⟩
    rw [inV_str]
    exact q _ H3 (e2.trans e3) (.b _)
/-- a known tuple as what is walked, measured, read -/
theorem en_listF {ds : List Dt} (ha : EvD ta σ H (.f ds)) : EvN (tCB (rListS K) (tCons ta tNil)) σ H ds := fun H1 e _ q =>
  ha H1 e _ fun v H2 e2 r => by
    obtain ⟨a, o, xs, rfl, h1, _, _, h2⟩ := r.ftup
    exact ⟨a, xs, rfl, Or.inr (Or.inl (Or.inr ⟨o, h1⟩)), fun l hl => q _ _ (fresh_back e2 hl) (e2.trans (Ex.new hl)) ⟨xs, upd_same, h2.ex (Ex.new hl)⟩⟩
theorem ed_lenF {ds : List Dt} (ha : EvD ta σ H (.f ds)) : EvD (tCB (rLenS K) (tCons ta tNil)) σ H (.i (ds.length : Int)) := fun H1 e _ q =>
  ha H1 e _ fun v H2 e2 r => by
    obtain ⟨a, o, xs, rfl, h1, _, _, h2⟩ := r.ftup
    have hl := h2.len
    refine ⟨a, xs, rfl, Or.inr (Or.inl (Or.inr ⟨o, h1⟩)), ?_⟩
    rw [hl]
    exact q _ H2 e2 (.i _)
end
/-! ### tuples whose object is known -/
section
variable {X : Cx}
/-- tuple(xs), xs a list: the object is kept in sight -/
def rTupF (K : PySem.W.Frag) : List V → Hp → VK → Prop := fun xs H Q => ∃ p ys, xs = [.ref p] ∧ SqL K H p ys ∧ ∀ l o, H l = none → o.cls = .type "tuple" → o.dict = none → Q (.ref l) (upd H l (.frz o (.tup ys)))
theorem call_tupF : CallR X (.type "tuple") (rTupF X.K) := by
  intro pins s σ H xs us Q I r h
  obtain ⟨p, ys, rfl, hq, q⟩ := h
  obtain ⟨u, rfl, rx⟩ := vals1 r
  cases rx
  obtain ⟨its, r', pl, hz⟩ := I.list hq
  have hlen := r'.length
  refine PySem.call_tuple_list pl.isList (fun h' kp => ?_) (by simp only [List.size_toArray] <;> omega)
  have I1 : Inv X pins σ H { s with heap := h' } := I.kept (t' := s.toks) kp
  have hg : (h'.push { cls := .type "tuple", data := .seq its.toArray }).get? h'.objs.size = some { cls := .type "tuple", data := .seq its.toArray } := Heap.get?_push_size _ rfl
  have I2 : Inv X pins σ (upd H h'.objs.size (.frz { cls := .type "tuple", data := .seq its.toArray } (.tup ys))) { s with heap := h'.push { cls := .type "tuple", data := .seq its.toArray } } :=
    I1.laid (t' := s.toks) (fun b o e => Heap.get?_push_of_some _ e) (Nat.le_refl _) (show ObjOk X.prog X.w _ _ _ (.frz _ (.tup ys)) from ⟨hg, hz, its, r', PyProof.Rows.IsTup.new _ _⟩)
  exact ⟨.ref h'.objs.size, _, I2, rfl, q _ _ (I1.hok.fresh (Nat.le_refl _)) rfl rfl⟩
/-- t.index(x), t a known tuple -/
def tFM (r : V → List V → Hp → VK → Prop) (to : TE) (t : TA) : TE := fun σ H Q => to σ H fun x H1 => (∃ p o xs, x = .ref p ∧ H1 p = some (.frz o (.tup xs)) ∧ o.cls = .type "tuple" ∧ o.dict = none) ∧ t σ H1 fun xs H2 => r x xs H2 Q
variable {o e : Expr} {es : List Expr} {to : TE} {t : TA} {name : Str} {apos cpos : Pos} {id : String} {r : V → List V → Hp → VK → Prop}
theorem pe_fm (pa : PlainAttrs "tuple") (slot : Slot "tuple" name id) (hty : typeOf (.builtin id) = pure (.type "method_descriptor")) (hm : MtR X id r) (ho : PE X o to) (ha : PA X (e :: es) t)
    (hbase : attributeBase o name X.env (eval o X.env) = eval o X.env := by rfl)
    (hfew : ((backTo cpos (starEach (e :: es) X.env)).all (fun x => !x.1) && (backToKw cpos (keywordEach [] X.env)).all (fun x => x.1.isSome)
      && decide ((e :: es).length + ([] : List Keyword).length + (if ([] : List Keyword).isEmpty then 0 else 1) < 30)) = true := by rfl)
    (hline : (apos.endLine == cpos.line) = true := by rfl) (hs : starEach (e :: es) X.env = (false, eval e X.env) :: starEach es X.env := by rfl) (hplain : (backTo cpos (starEach es X.env)).any (·.1) = false := by rfl) :
    PE X (.Call (.Attribute o name apos) (e :: es) [] cpos) (tFM r to t) := by
  refine ⟨fun pins s σ H Q I h => ?_⟩
  refine wpAny_Call_method_late hbase hfew hline rfl (thn (ho.run pins s σ H _ I h) fun v s1 ⟨x, H1, I1, r1, ⟨p, ob, xs, ex, hf, hc, hd⟩, q1⟩ => ?_)
  subst ex
  obtain rfl : v = Value.ref p := r1
  have hg : s1.heap.get? p = some ob := (I1.hok p _ hf).1
  refine ⟨"tuple", id, pa, slot, hty, ⟨ob, hg, hc⟩, fun a ea => ?_, ?_⟩
  · cases ea
    exact ⟨ob, hg, hd⟩
  · have hA := ha.run cpos pins s1 σ H1 _ I1 q1
    rw [hs] at hA ⊢
    refine Calls.callWith_builtin (by show (false || (backTo cpos (starEach es X.env)).any (·.1)) = false; rw [hplain] <;> rfl) (Calls.evalArgs_plain ?_)
    exact thn hA fun us s2 ⟨vs, H2, I2, r2, q2⟩ => hm pins s2 σ H2 (.ref p) vs (.ref p) us Q I2 rfl r2 q2
/-- .. of texts -/
def rTIx (K : PySem.W.Frag) : V → List V → Hp → VK → Prop := fun x xs H Q => ∃ p, ∃ ys : List Str, ∃ z j, x = .ref p ∧ xs = [.str z] ∧ SqT K H p (ys.map V.str) ∧ ys[j]? = some z ∧ (∀ m, m < j → ys[m]? ≠ some z) ∧ Q (.int (j : Nat)) H
theorem mt_tix : MtR X "tuple.index" (rTIx X.K) := mt_tup_index
end
section
variable {K : PySem.W.Frag} {σ : L2.St} {H H' : Hp} {ta tb te tx : TE}
theorem ed_tupF {ds : List Dt} (ha : EvR ta σ H ds) : EvD (tCB (rTupF K) (tCons ta tNil)) σ H (.f ds) := fun H1 e _ q =>
  ha H1 e _ fun p H2 e2 r => by
    obtain ⟨xs, h1, h2⟩ := r
    exact ⟨p, xs, rfl, sq_of h1, fun l o hl hc hd => q _ _ (e2.trans (Ex.new hl)) (.f upd_same hc hd (h2.ex (Ex.new hl)))⟩
theorem idx_get {x : Str} {ys : List Str} (h : x ∈ ys) : ys[ys.idxOf x]? = some x ∧ ∀ m, m < ys.idxOf x → ys[m]? ≠ some x := by
  have hl := List.idxOf_lt_length_iff.mpr h
  refine ⟨?_, fun m hm e => ?_⟩
  · rw [List.getElem?_eq_getElem hl, List.getElem_idxOf hl]
  · obtain ⟨h1, h2⟩ := List.getElem?_eq_some_iff.mp e
    have := List.not_of_lt_findIdx (p := fun y => y == x) (xs := ys) (i := m) hm
    rw [h2] at this
    simp at this
theorem ed_tix {x : Str} {ys : List Str} (ha : EvD ta σ H (.f (ys.map .s))) (hb : EvD tb σ H (.s x)) (hx : x ∈ ys) : EvD (tFM (rTIx K) ta (tCons tb tNil)) σ H (.i (ys.idxOf x : Nat)) := fun H1 e Q q =>
  ha H1 e _ fun v H2 e2 r => by
    obtain ⟨a, o, xs, rfl, h1, h2, h3, h4⟩ := r.ftup
    refine ⟨⟨a, o, xs, rfl, h1, h2, h3⟩, hb H2 (e.trans e2) _ fun u H3 e3 r3 => ?_⟩
    have e5 := h4.strs
    subst e5
    rw [r3.str]
    obtain ⟨g1, g2⟩ := idx_get hx
    exact ⟨a, ys, x, ys.idxOf x, rfl, rfl, Or.inl (Or.inr ⟨o, e3 _ _ h1⟩), g1, g2, q _ H3 (e2.trans e3) (.i _)⟩
/-- an item of a tuple of small numbers -/
theorem at_eN {l : List Nat} {j : Nat} {x : Nat} (h : l[j]? = some x) : atI (l.map eN) (j : Int) = some (eN x) := atI_nat (by rw [List.getElem?_map, h]; rfl)
theorem getD_of {α : Type} {l : List α} {j : Nat} {x d : α} (h : l[j]? = some x) : l.getD j d = x := by rw [List.getD_eq_getElem?_getD, h]; rfl
theorem get_lt {α : Type} {l : List α} {j : Nat} (d : α) (h : j < l.length) : l[j]? = some (l.getD j d) := by rw [List.getD_eq_getElem?_getD, List.getElem?_eq_getElem h]; rfl
theorem at_last {l : List Dt} {d : Dt} : atI (l ++ [d]) (-1) = some d := atI_last l d
theorem at_lastN {l : List Nat} (h : l ≠ []) : atI (l.map eN) (-1) = some (eN (l.getD (l.length - 1) 0)) := by
  have e : l = l.dropLast ++ [l.getLast h] := (List.dropLast_concat_getLast h).symm
  have g : l.getD (l.length - 1) 0 = l.getLast h := by
    rw [List.getLast_eq_getElem]
    exact getD_of (List.getElem?_eq_getElem _)
  rw [g]
  conv => lhs; rw [e]
  rw [List.map_append]
  exact atI_last _ _
end
/-! ### start_of -/
def spStartOf : Sp := spF (fun x : Mach × Str => [.d (encM x.1), .d (.s x.2)]) (fun x => x.1.Wf) (fun x => eN (stOf x.1 x.2))
section
variable {P : Program} {w : World} {K : PySem.W.Frag} {mg : Str → Option Value} {base : Heap}
theorem scStartOf : FnScope ["machine", "name"] ["machine", "name"] (defScope sStartOf) := ⟨rfl, rfl, rfl, by decide +kernel, rfl, by decide +kernel, by decide +kernel⟩
theorem ok_start_of {f : Addr} {fd : FuncData} (F : Df K mg "start_of" sStartOf f fd) : Cal P w K mg base CX0 1 "start_of" ["machine", "name"] spStartOf f fd := by
  refine F.cal (F.fn.ok scStartOf (spF_len fun _ => rfl) (fun cdv A outer s H vs Q E hr h => ?_)) fun _ _ _ _ _ _ us hl => match us, hl with | [_, _], _ => rfl
  obtain ⟨⟨M, x⟩, as, wf, q⟩ := h
  have S := sl_start (N := ["machine", "name"]) as
  refine ⟨_, pss_cons (ps_if (pt_cmpR op_in_seq (pv 1) (pe_ix ix_tup (pv 0) pe_int (fun _ _ => rfl)) (by rfl))
      (pss_one (ps_ret (pe_ix ix_tup (pe_ix ix_tup (pv 0) pe_int (fun _ _ => rfl)) (pe_fm PySem.F.plainAttrs_tuple PySem.F.slot_tuple_index PySem.F.type_tuple_index mt_tix (pe_ix ix_tup (pv 0) pe_int (fun _ _ => rfl)) (pa_cons (pv 1) pa_nil)) (fun _ _ => rfl)))) pss_nil)
    (pss_one (ps_ret (pe_ix ix_tup (pe_ix ix_tup (pv 0) pe_int (fun _ _ => rfl)) (pe_un un_neg pe_int) (fun _ _ => rfl)))), ?_⟩
  have hst : M.starts.length = M.names.length + 1 := wf.st
  have hst0 := hst
  refine q_when (et_ed (ed_inF (ed_var S rfl) (ed_ixT (ed_var S rfl) ed_int rfl))) (fun hb H1 e => ?_) (fun hb H1 e => ?_)
  · have hx : x ∈ M.names := of_decide_eq_true hb
    have hl := List.idxOf_lt_length_iff.mpr hx
    refine sd_ret (ed_ixT (ed_ixT (ed_var (S.ex e) rfl) ed_int rfl) (ed_tix (ed_ixT (ed_var (S.ex e) rfl) ed_int rfl) (ed_var (S.ex e) rfl) hx) (at_eN (get_lt 0 (by show M.names.idxOf x < M.starts.length; omega)))) fun v H2 e2 r => q v H2 (e.trans e2) r
  · have hx : ¬ x ∈ M.names := of_decide_eq_false hb
    have hl : M.names.idxOf x = M.names.length := Nat.le_antisymm List.idxOf_le_length (Nat.not_lt.mp fun z => hx (List.idxOf_lt_length_iff.mp z))
    refine sd_ret (ed_ixT (ed_ixT (ed_var (S.ex e) rfl) ed_int rfl) (ed_neg ed_int) (at_lastN (fun z => by rw [z] at hst; simp at hst))) fun v H2 e2 r => q v H2 (e.trans e2) ?_
    have e3 : stOf M x = M.starts.getD (M.starts.length - 1) 0 := by
      unfold stOf
      rw [hl, hst]
      rfl
    show Rp H2 v (eN (stOf M x))
    rw [e3]
    exact r
end
end GF
set_option Elab.async false
set_option linter.all false
set_option maxRecDepth 100000
set_option maxHeartbeats 4000000
/-! Gf2: statements over slots; ways. -/
namespace GF
open PySem L2 Evl
section
variable {K : PySem.W.Frag} {σ : L2.St} {H H' : Hp} {ta tb te tx : TE} {t u : TT} {ss : List Sd} {D : Ends} {tu tw tz : TS}
theorem ss_set {i : Nat} {d : Dt} (S : Sl H σ ss) (h : EvD te σ H d) (k : ∀ σ' H1, Ex H H1 → Sl H1 σ' (ss.set i (.d d)) → D.nx σ' H1) : tAsg te (gName i) D σ H := h H (Ex.refl H) _ fun v H1 e r => k _ H1 e ((S.ex e).setD i r)
theorem qs_set {i : Nat} {d : Dt} (S : Sl H σ ss) (h : EvD te σ H d) (k : ∀ σ' H1, Ex H H1 → Sl H1 σ' (ss.set i (.d d)) → tz D σ' H1) : tSeq (tAsg te (gName i)) tz D σ H := ss_set (D := { D with nx := tz D }) S h k
/-- a list that is read only -/
theorem ss_setR {i : Nat} {ds : List Dt} (S : Sl H σ ss) (h : EvR te σ H ds) (k : ∀ σ' H1, Ex H H1 → Sl H1 σ' (ss.set i (.l ds)) → D.nx σ' H1) : tAsg te (gName i) D σ H := h H (Ex.refl H) _ fun v H1 e r => k _ H1 e ((S.ex e).setL i r)
theorem qs_setR {i : Nat} {ds : List Dt} (S : Sl H σ ss) (h : EvR te σ H ds) (k : ∀ σ' H1, Ex H H1 → Sl H1 σ' (ss.set i (.l ds)) → tz D σ' H1) : tSeq (tAsg te (gName i)) tz D σ H := ss_setR (D := { D with nx := tz D }) S h k
/-- a new list that will change -/
theorem ss_setN {i : Nat} {ds : List Dt} (S : Sl H σ ss) (h : EvN te σ H ds) (k : ∀ p σ' H1, H p = none → Ex H H1 → Ls H1 p ds → Sl H1 σ' (ss.set i (.v (.ref p))) → D.nx σ' H1) : tAsg te (gName i) D σ H := h H (Ex.refl H) _ fun p H1 hp e r => k p _ H1 hp e r ((S.ex e).setV i _)
theorem qs_setN {i : Nat} {ds : List Dt} (S : Sl H σ ss) (h : EvN te σ H ds) (k : ∀ p σ' H1, H p = none → Ex H H1 → Ls H1 p ds → Sl H1 σ' (ss.set i (.v (.ref p))) → tz D σ' H1) : tSeq (tAsg te (gName i)) tz D σ H := ss_setN (D := { D with nx := tz D }) S h k
theorem set_self {α : Type} : ∀ {l : List α} {i : Nat} {x : α}, l[i]? = some x → l.set i x = l
  | [], _, _, h => by simp at h
  | a :: r, 0, x, h => by simp at h; subst h; rfl
  | a :: r, i + 1, x, h => by
    have := set_self (l := r) (i := i) (x := x) (by simpa using h)
    simp [this]
/-- if c: x = e, told by what x has behind it -/
theorem qs_ifset {i : Nat} {b : Bool} {d : Dt} (S : Sl H σ ss) (h : EvT t σ H b) (h1 : b = true → EvD te σ H d) (h0 : b = false → ss[i]? = some (.d d)) (k : ∀ σ' H1, Ex H H1 → Sl H1 σ' (ss.set i (.d d)) → tz D σ' H1) : tSeq (tIfS t (tAsg te (gName i)) tNext) tz D σ H :=
  q_when h (fun hb H1 e => ss_set (D := { D with nx := tz D }) (S.ex e) ((h1 hb).mono e) fun σ' H2 e2 S2 => k σ' H2 (e.trans e2) S2) fun hb H1 e => k σ H1 e (by rw [set_self (h0 hb)]; exact S.ex e)
/-- a loop over a tuple that changes slots alone -/
theorem ss_forT {α : Type} {j : Nat} {tl : TE} {xs : List α} (S : Sl H σ ss) (enc : α → Dt) (h : EvD tl σ H (.t (xs.map enc))) (I : List α → List Sd) (h0 : ∀ σ H, Sl H σ ss → Sl H σ (I []))
    (hs : ∀ pre a post σ' H', xs = pre ++ a :: post → Ex H H' → Sl H' σ' ((I pre).set j (.d (enc a))) → tu { D with nx := fun σ2 H2 => Ex H H2 ∧ Ex H' H2 ∧ Sl H2 σ2 (I (pre ++ [a])), ct := fun σ2 H2 => Ex H H2 ∧ Ex H' H2 ∧ Sl H2 σ2 (I (pre ++ [a])), bk := D.nx } σ' H')
    (hm : ∀ (N N' : L2.St → Hp → Prop) σ' H', (∀ σ2 H2, N σ2 H2 → N' σ2 H2) → tu { D with nx := N, ct := N, bk := D.nx } σ' H' → tu { D with nx := N', ct := N', bk := D.nx } σ' H')
    (k : ∀ σ' H', Ex H H' → Sl H' σ' (I xs) → D.nx σ' H') : tFor (iTup K tl) (gName j) tu D σ H :=
  sd_forT enc h (fun H1 pre σ' H' => Ex H1 H' ∧ Ex H H' ∧ Sl H' σ' (I pre)) (fun H1 e => ⟨Ex.refl H1, e, h0 _ _ (S.ex e)⟩) (fun H1 pre σ' H' p => Tk.ex p.1) (fun H1 pre a post x σ' H' e es p r =>
    hm _ _ _ _ (fun σ2 H2 q => ⟨p.1.trans q.2.1, q.1, q.2.2⟩) (hs pre a post _ H' es p.2.1 (p.2.2.setD j r))) fun H1 σ' H' e p => k σ' H' p.2.1 p.2.2
theorem qs_forT {α : Type} {j : Nat} {tl : TE} {xs : List α} (S : Sl H σ ss) (enc : α → Dt) (h : EvD tl σ H (.t (xs.map enc))) (I : List α → List Sd) (h0 : ∀ σ H, Sl H σ ss → Sl H σ (I []))
    (hs : ∀ pre a post σ' H', xs = pre ++ a :: post → Ex H H' → Sl H' σ' ((I pre).set j (.d (enc a))) → ∀ N : L2.St → Hp → Prop, (∀ σ2 H2, Ex H' H2 → Sl H2 σ2 (I (pre ++ [a])) → N σ2 H2) → tu { D with nx := N, ct := N, bk := tz D } σ' H')
    (k : ∀ σ' H', Ex H H' → Sl H' σ' (I xs) → tz D σ' H') : tSeq (tFor (iTup K tl) (gName j) tu) tz D σ H :=
  sd_forT (D := { D with nx := tz D }) enc h (fun H1 pre σ' H' => Ex H1 H' ∧ Ex H H' ∧ Sl H' σ' (I pre)) (fun H1 e => ⟨Ex.refl H1, e, h0 _ _ (S.ex e)⟩) (fun H1 pre σ' H' p => Tk.ex p.1) (fun H1 pre a post x σ' H' e es p r =>
    hs pre a post _ H' es p.2.1 (p.2.2.setD j r) _ fun σ2 H2 e2 S2 => ⟨p.1.trans e2, p.2.1.trans e2, S2⟩) fun H1 σ' H' e p => k σ' H' p.2.1 p.2.2
theorem qs_forL {α : Type} {j : Nat} {tl : TE} {xs : List α} (S : Sl H σ ss) (enc : α → Dt) (h : EvR tl σ H (xs.map enc)) (I : List α → List Sd) (h0 : ∀ σ H, Sl H σ ss → Sl H σ (I []))
    (hs : ∀ pre a post σ' H', xs = pre ++ a :: post → Ex H H' → Sl H' σ' ((I pre).set j (.d (enc a))) → ∀ N : L2.St → Hp → Prop, (∀ σ2 H2, Ex H' H2 → Sl H2 σ2 (I (pre ++ [a])) → N σ2 H2) → tu { D with nx := N, ct := N, bk := tz D } σ' H')
    (k : ∀ σ' H', Ex H H' → Sl H' σ' (I xs) → tz D σ' H') : tSeq (tFor (iList K tl) (gName j) tu) tz D σ H :=
  sd_forL (D := { D with nx := tz D }) enc h (fun p H1 pre σ' H' => Ex H1 H' ∧ Ex H H' ∧ Sl H' σ' (I pre)) (fun p H1 e _ => ⟨Ex.refl H1, e, h0 _ _ (S.ex e)⟩) (fun p H1 pre σ' H' _ q => ⟨Tk.ex q.1, fun o h => q.1 _ _ h⟩) (fun p H1 pre a post x σ' H' e es q r =>
    hs pre a post _ H' es q.2.1 (q.2.2.setD j r) _ fun σ2 H2 e2 S2 => ⟨q.1.trans e2, q.2.1.trans e2, S2⟩) fun p H1 σ' H' e q => k σ' H' q.2.1 q.2.2
/-- list(range(n)) -/
theorem en_listRg {n : Nat} (ha : EvD ta σ H (.i (n : Int))) (hn : n ≤ 100000) : EvN (tLstRg (tRg1 ta)) σ H ((List.range n).map eN) := fun H1 e _ q =>
  ha H1 e _ fun v H2 e2 r => by
    refine ⟨(n : Int), r.int, RgOk.of_le (by omega) (by omega) (by omega) (by omega), fun l hl => q l _ (fresh_back e2 hl) (e2.trans (Ex.new hl)) ⟨_, upd_same, ?_⟩⟩
    unfold rgV
    have e0 : ((n : Int) - 0).toNat = n := by omega
    rw [e0]
    have go : ∀ (l : List Nat) (H' : Hp), RpA H' (l.map fun i => V.int ((0 : Int) + (i : Nat))) (l.map eN) := by
      intro l H'
      induction l with
      | nil => exact .nil
      | cons x r ih =>
        refine .cons ?_ ih
        have ez : ((0 : Int) + (x : Int)) = (x : Int) := Int.zero_add _
        show Rp H' (V.int ((0 : Int) + (x : Int))) (eN x)
        rw [ez]
        exact .i _
    exact go _ _
/-- t[..], not the whole -/
theorem ed_slT {tl th : TO} {ds : List Dt} {lo hi : Option Int} (h : EvD te σ H (.t ds)) (h1 : EvO tl σ H lo) (h2 : EvO th σ H hi) (hw : ¬ (HT.sIx ds.length 0 lo = 0 ∧ HT.sIx ds.length ds.length hi = ds.length)) : EvD (tSl (rSlT K) te tl th) σ H (.t (cutD ds lo hi)) := fun H1 e _ q =>
  h H1 e _ fun v H2 e2 r => h1 H2 (e.trans e2) _ fun H3 e3 => h2 H3 ((e.trans e2).trans e3) _ fun H4 e4 => by
    obtain ⟨a, xs, rfl, g1, g2⟩ := (r.ex (e3.trans e4)).tup
    exact ⟨a, xs, rfl, st_of g1, by rw [g2.len]; exact hw, fun p hp => q _ _ (((e2.trans e3).trans e4).trans (Ex.new hp)) (.t upd_same ((g2.cut lo hi).ex (Ex.new hp)))⟩
theorem cut_init (l : List Dt) (d : Dt) : cutD (l ++ [d]) none (some (-1)) = l := by
  unfold cutD
  have e1 : HT.sIx (l ++ [d]).length 0 none = 0 := rfl
  have e2 : HT.sIx (l ++ [d]).length (l ++ [d]).length (some (-1)) = l.length := by
    show (if (-1 : Int) < 0 then ((-1 : Int) + ((l ++ [d]).length : Int)).toNat else min (-1 : Int).toNat (l ++ [d]).length) = l.length
    rw [if_pos (by decide), List.length_append, List.length_singleton]
    omega
  rw [e1, e2, List.drop_zero, Nat.sub_zero, List.take_left]
theorem cut_notwhole (l : List Dt) (d : Dt) : ¬ (HT.sIx (l ++ [d]).length 0 none = 0 ∧ HT.sIx (l ++ [d]).length (l ++ [d]).length (some (-1)) = (l ++ [d]).length) := by
  rintro ⟨_, h⟩
  have e2 : HT.sIx (l ++ [d]).length (l ++ [d]).length (some (-1)) = l.length := by
    show (if (-1 : Int) < 0 then ((-1 : Int) + ((l ++ [d]).length : Int)).toNat else min (-1 : Int).toNat (l ++ [d]).length) = l.length
    rw [if_pos (by decide), List.length_append, List.length_singleton]
    omega
  rw [e2, List.length_append] at h
  simp at h
end
/-! ### slots, where a list changes -/
def Sd.noL : Sd → Bool
  | .l _ => false
  | _ => true
theorem SlP.tk {H H' : Hp} (e : Tk H H') {o : Option V} : ∀ {s : Sd}, s.noL = true → SlP H o s → SlP H' o s
  | .no, _, _ => trivial
  | .d _, _, ⟨v, h, r⟩ => ⟨v, h, r.mono e⟩
  | .l _, n, _ => nomatch n
  | .v _, _, h => h
theorem Sl.tk {H H' : Hp} (e : Tk H H') : ∀ {σ : L2.St} {ss : List Sd}, Sl H σ ss → ss.all Sd.noL = true → Sl H' σ ss
  | _, _, .nil, _ => .nil
  | _, _, .cons p t, n => by
    rw [List.all_cons, Bool.and_eq_true] at n
    exact .cons (p.tk e n.1) (Sl.tk e t n.2)
/-- a list's address, by name -/
theorem Sl.openL {H : Hp} {σ : L2.St} {ss : List Sd} {i : Nat} {ds : List Dt} (S : Sl H σ ss) (h : ss[i]? = some (.l ds)) : ∃ a, Ls H a ds ∧ Sl H σ (ss.set i (.v (.ref a))) := by
  obtain ⟨o, h1, a, rfl, l⟩ := S.get h
  refine ⟨a, l, ?_⟩
  have q := Sl.set (show SlP H (some (.ref a)) (.v (.ref a)) from rfl) i S
  rw [set_self h1] at q
  exact q
theorem Ls.some {H : Hp} {a : Addr} {ds : List Dt} (l : Ls H a ds) : H a ≠ none := fun z => by
  obtain ⟨xs, h, _⟩ := l
  rw [h] at z
  cases z
theorem Ls.ne {H : Hp} {a p : Addr} {ds : List Dt} (l : Ls H a ds) (h : H p = none) : a ≠ p := fun z => l.some (z ▸ h)
/-- another list, behind a store -/
theorem Bt.ls {H H' : Hp} {a l : Addr} {ds : List Dt} (b : Bt l H H') (n : a ≠ l) (x : Ls H a ds) : Ls H' a ds := by
  obtain ⟨xs, h, r⟩ := x
  exact ⟨xs, by rw [b.bt a n]; exact h, r.mono b.tk⟩
section
variable {K : PySem.W.Frag} {σ : L2.St} {H H' : Hp} {ta tb te tx : TE} {t u : TT} {ss : List Sd} {D : Ends} {tu tw tz : TS}
theorem sd_forR {j n : Nat} {tr : TA} (h : EvDs tr σ H [.i (n : Int)]) (hn : n ≤ 100000) (Pv : Nat → L2.St → Hp → Prop) (h0 : ∀ H1, Ex H H1 → Pv 0 σ H1)
    (hs : ∀ i σ' H', i < n → Pv i σ' H' → tu { D with nx := Pv (i + 1), ct := Pv (i + 1), bk := D.nx } (σ'.set j (some (.int (i : Int)))) H') (hd : ∀ σ' H', Pv n σ' H' → D.nx σ' H') : tFor (iRng1 tr) (gName j) tu D σ H :=
  h H (Ex.refl H) _ fun vs H1 e r => by
    cases r with
    | cons r1 r2 =>
      cases r2
      rw [r1.int]
      refine ⟨(n : Int), rfl, by omega, by omega, for_range (lo := 0) (n := n) Pv (h0 H1 e) (fun i σ' H' hi p => ?_) hd⟩
      have e0 : (0 : Int) + (i : Int) = (i : Int) := Int.zero_add _
      show tu { D with nx := Pv (i + 1), ct := Pv (i + 1), bk := D.nx } (σ'.set j (some (.int ((0 : Int) + (i : Int))))) H'
      rw [e0]
      exact hs i σ' H' hi p
theorem qd_forR {j n : Nat} {tr : TA} (h : EvDs tr σ H [.i (n : Int)]) (hn : n ≤ 100000) (Pv : Nat → L2.St → Hp → Prop) (h0 : ∀ H1, Ex H H1 → Pv 0 σ H1)
    (hs : ∀ i σ' H', i < n → Pv i σ' H' → tu { D with nx := Pv (i + 1), ct := Pv (i + 1), bk := tz D } (σ'.set j (some (.int (i : Int)))) H') (hd : ∀ σ' H', Pv n σ' H' → tz D σ' H') : tSeq (tFor (iRng1 tr) (gName j) tu) tz D σ H :=
  sd_forR (D := { D with nx := tz D }) h hn Pv h0 hs hd
end
/-! ### ways, plainly -/
def wNone (M : Mach) : Way := ⟨List.range M.steps.length, -1⟩
def wOne (M : Mach) (s : Nat) : Way := ⟨M.steps.map fun r => r.getD s 0, s⟩
def wBeh (a b : Way) : Way := ⟨a.m.map fun s => b.m.getD s 0, if b.last = -1 then a.last else if a.last = -1 then b.last else -2⟩
structure Way.Ok (n : Nat) (w : Way) : Prop where
  len : w.m.length = n
  lt : ∀ x ∈ w.m, x < n
  la : w.last = -1 ∨ w.last = -2 ∨ (0 ≤ w.last ∧ w.last < n)
theorem wNone_ok (M : Mach) : (wNone M).Ok M.steps.length := ⟨by simp [wNone], fun x hx => by simpa [wNone] using hx, .inl rfl⟩
theorem getD_mem {α : Type} {l : List α} {j : Nat} (d : α) (h : j < l.length) : l.getD j d ∈ l := by rw [getD_of (List.getElem?_eq_getElem h)]; exact List.getElem_mem h
theorem wOne_ok {M : Mach} (wf : M.Wf) {s : Nat} (h : s < M.steps.length) : (wOne M s).Ok M.steps.length := ⟨by simp [wOne], fun x hx => by
  obtain ⟨r, hr, rfl⟩ := List.mem_map.mp hx
  obtain ⟨h1, h2⟩ := wf.rl r hr
  exact h2 _ (getD_mem 0 (by omega)), .inr (.inr ⟨by simp [wOne], by simp [wOne]; exact h⟩)⟩
theorem wBeh_ok {n : Nat} {a b : Way} (ha : a.Ok n) (hb : b.Ok n) : (wBeh a b).Ok n := ⟨by simp [wBeh, ha.len], fun x hx => by
  obtain ⟨r, hr, rfl⟩ := List.mem_map.mp hx
  exact hb.lt _ (getD_mem 0 (by rw [hb.len]; exact ha.lt r hr)), by
  unfold wBeh
  dsimp only
  split
  · exact ha.la
  · split
    · exact hb.la
    · exact .inr (.inl rfl)⟩
mutual
def iSt (M : Mach) (w : Way) : Item → Nat
  | .hole => 0
  | .el n ks => (wGo M w (wNone M) ks).m.getD (stOf M n) 0
def wGo (M : Mach) (w : Way) : Way → List Item → Way
  | f, [] => f
  | f, .hole :: r => wGo M w (wBeh f w) r
  | f, .el n ks :: r => wGo M w (wBeh f (wOne M (iSt M w (.el n ks)))) r
end
def wFil (M : Mach) (its : List Item) (w : Way) : Way := wGo M w (wNone M) its
def itW (M : Mach) (w : Way) : Item → Way
  | .hole => w
  | .el n ks => wOne M (iSt M w (.el n ks))
theorem wGo_cons (M : Mach) (w f : Way) (it : Item) (r : List Item) : wGo M w f (it :: r) = wGo M w (wBeh f (itW M w it)) r := by
  cases it with
  | hole => rw [wGo]; rfl
  | el n ks => rw [wGo]; rfl
theorem wGo_snoc (M : Mach) (w : Way) (it : Item) : ∀ (r : List Item) (f : Way), wGo M w f (r ++ [it]) = wBeh (wGo M w f r) (itW M w it)
  | [], f => by rw [List.nil_append, wGo_cons, wGo, wGo]
  | x :: r, f => by rw [List.cons_append, wGo_cons, wGo_snoc M w it r, wGo_cons]
theorem stOf_lt {M : Mach} (wf : M.Wf) (x : Str) : stOf M x < M.steps.length := by
  unfold stOf
  have h := wf.st
  have h2 : M.names.idxOf x ≤ M.names.length := List.idxOf_le_length
  exact wf.sl _ (getD_mem 0 (by omega))
mutual
theorem iSt_lt {M : Mach} (wf : M.Wf) {w : Way} (hw : w.Ok M.steps.length) : ∀ it : Item, iSt M w it < M.steps.length
  | .hole => by rw [iSt]; exact wf.pos
  | .el n ks => by
    rw [iSt]
    have h := wGo_ok wf hw ks (wNone M) (wNone_ok M)
    exact h.lt _ (getD_mem 0 (by rw [h.len]; exact stOf_lt wf n))
theorem wGo_ok {M : Mach} (wf : M.Wf) {w : Way} (hw : w.Ok M.steps.length) : ∀ (its : List Item) (f : Way), f.Ok M.steps.length → (wGo M w f its).Ok M.steps.length
  | [], f, h => by rw [wGo]; exact h
  | .hole :: r, f, h => by rw [wGo]; exact wGo_ok wf hw r _ (wBeh_ok h hw)
  | .el n ks :: r, f, h => by rw [wGo]; exact wGo_ok wf hw r _ (wBeh_ok h (wOne_ok wf (iSt_lt wf hw (.el n ks))))
end
theorem wFil_ok {M : Mach} (wf : M.Wf) {w : Way} (hw : w.Ok M.steps.length) (its : List Item) : (wFil M its w).Ok M.steps.length := wGo_ok wf hw its _ (wNone_ok M)
mutual
def Item.dep : Item → Nat
  | .hole => 0
  | .el _ ks => deps ks + 1
def deps : List Item → Nat
  | [] => 0
  | x :: r => max x.dep (deps r)
end
theorem dep_mem : ∀ {l : List Item} {x : Item}, x ∈ l → x.dep ≤ deps l
  | y :: r, x, h => by
    rw [deps]
    rcases List.mem_cons.mp h with e | e
    · subst e; exact Nat.le_max_left _ _
    · exact Nat.le_trans (dep_mem e) (Nat.le_max_right _ _)
/-! ### the ways' defs -/
def spWayNone : Sp := spF (fun M : Mach => [.d (encM M)]) (fun M => M.Wf) (fun M => encW (wNone M))
def spWayOne : Sp := spF (fun x : Mach × Nat => [.d (encM x.1), .d (eN x.2)]) (fun x => x.1.Wf ∧ x.2 < x.1.steps.length) (fun x => encW (wOne x.1 x.2))
def spWayBehind : Sp := spF (fun x : Nat × Way × Way => [.d (encW x.2.1), .d (encW x.2.2)]) (fun x => x.2.1.Ok x.1 ∧ x.2.2.Ok x.1 ∧ x.1 ≤ 64) (fun x => encW (wBeh x.2.1 x.2.2))
theorem at_encW {w : Way} {n s : Nat} (h : w.Ok n) (hs : s < n) : atI (w.m.map eN ++ [.i w.last]) (s : Int) = some (eN (w.m.getD s 0)) := by
  refine atI_nat ?_
  rw [List.getElem?_append_left (by rw [List.length_map, h.len]; exact hs), List.getElem?_map, get_lt 0 (by rw [h.len]; exact hs)]
  rfl
section
variable {P : Program} {w : World} {K : PySem.W.Frag} {mg : Str → Option Value} {base : Heap} {f : Addr} {fd : FuncData}
theorem scWayNone : FnScope ["machine"] ["machine"] (defScope sWayNone) := ⟨rfl, rfl, rfl, by decide +kernel, rfl, by decide +kernel, by decide +kernel⟩
theorem ok_way_none (B : Blt mg) (F : Df K mg "way_of_none" sWayNone f fd) : Cal P w K mg base CX0 1 "way_of_none" ["machine"] spWayNone f fd := by
  refine F.cal (F.fn.ok scWayNone (spF_len fun _ => rfl) (fun cdv A outer s H vs Q E hr h => ?_)) fun _ _ _ _ _ _ us hl => match us, hl with | [_], _ => rfl
  obtain ⟨M, as, wf, q⟩ := h
  have S := sl_start (N := ["machine"]) as
  refine ⟨_, pss_one (ps_ret (pe_callTy call_tuple_of (by rfl) B.tuple (by decide +kernel) (pa_cons (pe_op op_cat (pe_listRg rfl (by rfl) B.list (prg_1 (by rfl) B.range (pe_callB call_len_seq (by rfl) B.len PySem.boot_len (pa_cons (pe_ix ix_tup (pv 0) pe_int (fun _ _ => rfl)) pa_nil))))
    (pe_lst (pa_cons (pe_un un_neg pe_int) pa_nil))) pa_nil))), ?_⟩
  have few := wf.few
  refine sd_ret (ed_tupL (en_cat (en_listRg (ed_is (ed_lenT (ed_ixT (ed_var S rfl) ed_int rfl)) (by rw [List.length_map])) (by omega)).r (en_lst (ds_cons (ed_neg ed_int) ds_nil) (by simp)).r (by simp; omega)).r) fun v H1 e r => q v H1 e r
theorem scWayOne : FnScope ["machine", "state", "row"] ["machine", "state"] (defScope sWayOne) := ⟨rfl, rfl, rfl, by decide +kernel, rfl, by decide +kernel, by decide +kernel⟩
theorem ok_way_one (B : Blt mg) (F : Df K mg "way_of_one" sWayOne f fd) : Cal P w K mg base CX0 1 "way_of_one" ["machine", "state"] spWayOne f fd := by
  refine F.cal (F.fn.ok scWayOne (spF_len fun _ => rfl) (fun cdv A outer s H vs Q E hr h => ?_)) fun _ _ _ _ _ _ us hl => match us, hl with | [_, _], _ => rfl
  obtain ⟨⟨M, x⟩, as, ⟨wf, hx⟩, q⟩ := h
  have S := sl_start (N := ["machine", "state", "row"]) as
  refine ⟨_, pss_one (ps_ret (pe_callTy call_tuple_of (by rfl) B.tuple (by decide +kernel) (pa_cons (pe_op op_cat
    (pe_lc (own := [("row", 2)]) (g := gName 2) (tt := tYes) rfl scWayOne.nd (pi_tup (pe_ix ix_tup (pv 0) pe_int (fun _ _ => rfl))) (blkOk_by (N := ["machine", "state", "row"]) (sc := defScope sWayOne) (by decide +kernel))
      (fun _ _ _ _ _ => pg_name (i := 2) scWayOne.nd rfl (Or.inl rfl)) (fun _ _ _ _ _ => pts_nil) (fun _ _ _ _ _ => pe_ix (ixT K) (pv 2) (pv 1) (fun _ _ => rfl)))
    (pe_lst (pa_cons (pv 1) pa_nil))) pa_nil))), ?_⟩
  have few : M.steps.length ≤ 64 := wf.few
  have hx : x < M.steps.length := hx
  refine sd_ret (ed_tupL (en_cat (en_lcT (xs := M.steps) (fun r => .t (r.map eN)) (fun r => eN (r.getD x 0)) (ed_ixT (ed_var S rfl) ed_int rfl) (by omega) (fun r hr y H1 e ry => ?_)).r
    (en_lst (ds_cons (ed_var S rfl) ds_nil) (by simp)).r (by simp; omega)).r) fun v H1 e r => q v H1 e (by
      have e1 : encW (wOne M x) = .t (M.steps.map (fun r => eN (r.getD x 0)) ++ [eN x]) := by
        unfold encW wOne
        rw [List.map_map]
        rfl
      show Rp H1 v (encW (wOne M x))
      rw [e1]
      exact r)
  have S2 := (S.ex e).setD 2 ry
  exact ed_ixT (ed_var S2 rfl) (ed_var S2 rfl) (at_eN (get_lt 0 (by rw [(wf.rl r hr).1]; exact hx)))
theorem scWayBehind : FnScope ["way", "other", "last", "state"] ["way", "other"] (defScope sWayBehind) := ⟨rfl, rfl, rfl, by decide +kernel, rfl, by decide +kernel, by decide +kernel⟩
theorem ok_way_behind (B : Blt mg) (F : Df K mg "way_behind" sWayBehind f fd) : Cal P w K mg base CX0 1 "way_behind" ["way", "other"] spWayBehind f fd := by
  refine F.cal (F.fn.ok scWayBehind (spF_len fun _ => rfl) (fun cdv A outer s H vs Q E hr h => ?_)) fun _ _ _ _ _ _ us hl => match us, hl with | [_, _], _ => rfl
  obtain ⟨⟨n, a, b⟩, as, ⟨ha, hb, few⟩, q⟩ := h
  have ha : a.Ok n := ha
  have hb : b.Ok n := hb
  have few : n ≤ 64 := few
  have S := sl_start (N := ["way", "other", "last", "state"]) as
  refine ⟨_, pss_cons (ps_set (i := 2) scWayBehind.nd rfl (Or.inl rfl) (pe_un un_neg pe_int))
    (pss_cons (ps_if (pt_cmpR op_eq (pe_ix ix_tup (pv 0) (pe_un un_neg pe_int) (fun _ _ => rfl)) (pe_un un_neg pe_int) (nomark _)) (pss_one (ps_set (i := 2) scWayBehind.nd rfl (Or.inl rfl) (pe_ix ix_tup (pv 1) (pe_un un_neg pe_int) (fun _ _ => rfl)))) pss_nil)
    (pss_cons (ps_if (pt_cmpR op_eq (pe_ix ix_tup (pv 1) (pe_un un_neg pe_int) (fun _ _ => rfl)) (pe_un un_neg pe_int) (nomark _)) (pss_one (ps_set (i := 2) scWayBehind.nd rfl (Or.inl rfl) (pe_ix ix_tup (pv 0) (pe_un un_neg pe_int) (fun _ _ => rfl)))) pss_nil)
    (pss_one (ps_ret (pe_callTy call_tuple_of (by rfl) B.tuple (by decide +kernel) (pa_cons (pe_op op_cat
      (pe_lc (own := [("state", 3)]) (g := gName 3) (tt := tYes) rfl scWayBehind.nd (pi_tup (pe_slice sl_tup (pv 0) po_none (po_some (pe_un un_neg pe_int)))) (blkOk_by (N := ["way", "other", "last", "state"]) (sc := defScope sWayBehind) (by decide +kernel))
        (fun _ _ _ _ _ => pg_name (i := 3) scWayBehind.nd rfl (Or.inl rfl)) (fun _ _ _ _ _ => pts_nil) (fun _ _ _ _ _ => pe_ix (ixT K) (pv 1) (pv 3) (fun _ _ => rfl)))
      (pe_lst (pa_cons (pv 2) pa_nil))) pa_nil)))))), ?_⟩
  refine qs_set S (ed_neg ed_int) fun σ1 H1 e1 S1 => ?_
  refine qs_ifset S1 (et_ed (ed_eq (ed_ixT (ed_var S1 rfl) (ed_neg ed_int) at_last) (ed_neg ed_int) rfl rfl rfl)) (d := .i (if a.last = -1 then b.last else -2)) (fun hb => ?_) (fun hb => ?_) fun σ2 H2 e2 S2 => ?_
  · have hc : a.last = -1 := V.int.inj (of_decide_eq_true hb)
    rw [if_pos hc]
    exact ed_ixT (ed_var S1 rfl) (ed_neg ed_int) at_last
  · have hc : ¬ a.last = -1 := fun z => of_decide_eq_false hb (by rw [z])
    rw [if_neg hc]
    rfl
  refine qs_ifset S2 (et_ed (ed_eq (ed_ixT (ed_var S2 rfl) (ed_neg ed_int) at_last) (ed_neg ed_int) rfl rfl rfl)) (d := .i (wBeh a b).last) (fun hb => ?_) (fun hb => ?_) fun σ3 H3 e3 S3 => ?_
  · have hc : b.last = -1 := V.int.inj (of_decide_eq_true hb)
    have e0 : (wBeh a b).last = a.last := by unfold wBeh; dsimp only; rw [if_pos hc]
    rw [e0]
    exact ed_ixT (ed_var S2 rfl) (ed_neg ed_int) at_last
  · have hc : ¬ b.last = -1 := fun z => of_decide_eq_false hb (by rw [z])
    have e0 : (wBeh a b).last = if a.last = -1 then b.last else -2 := by unfold wBeh; dsimp only; rw [if_neg hc]
    rw [e0]
    rfl
  have few2 : a.m.length ≤ 64 := by rw [ha.len]; exact few
  refine sd_ret (ed_tupL (en_cat (en_lcT (xs := a.m) eN (fun x => eN (b.m.getD x 0)) (ed_is (ed_slT (ed_var S3 rfl) eo_none (eo_d (ed_neg ed_int)) (cut_notwhole _ _)) (by rw [cut_init])) (by omega) (fun x hx y H4 e4 ry => ?_)).r
    (en_lst (ds_cons (ed_var S3 rfl) ds_nil) (by simp)).r (by simp; omega)).r) fun v H4 e4 r => q v H4 (((e1.trans e2).trans e3).trans e4) (by
      have e0 : encW (wBeh a b) = .t (a.m.map (fun x => eN (b.m.getD x 0)) ++ [.i (wBeh a b).last]) := by
        unfold encW wBeh
        rw [List.map_map]
        rfl
      show Rp H4 v (encW (wBeh a b))
      rw [e0]
      exact r)
  have S4 := (S3.ex e4).setD 3 ry
  exact ed_ixT (ed_var S4 rfl) (ed_var S4 rfl) (at_encW hb (ha.lt x hx))
end
end GF
set_option Elab.async false
set_option linter.all false
set_option maxRecDepth 100000
set_option maxHeartbeats 4000000
/-! Gf3: an item against a text; rules by name; the way of items. -/
namespace GF
open PySem L2 Evl
section
variable {X : Cx}
/-- a text or a tuple == a text -/
def rEqIS (K : PySem.W.Frag) : R2 := fun x y H Q => ∃ z, y = .str z ∧ ((∃ s, x = .str s ∧ Q (.bl (decide (s = z))) H) ∨ ∃ a xs, x = .ref a ∧ SqT K H a xs ∧ Q (.bl false) H)
theorem op_eqIS (K : PySem.W.Frag) (hu : X.A.units < cLine) (hK : X.K = K := by rfl) : OpR X (compareOp .Eq) (rEqIS K) := by
  subst hK
  intro pins s σ H x y v u Q I rx ry h
  obtain ⟨z, rfl, h⟩ := h
  rcases h with ⟨c, rfl, q⟩ | ⟨a, xs, rfl, hq, q⟩
  · refine op_eq pins s σ H (.str c) (.str z) v u Q I rx ry ⟨rfl, ?_⟩
    have e : decide (V.str c = V.str z) = decide (c = z) := by
      by_cases h : c = z
      · rw [decide_eq_true h, decide_eq_true (by rw [h])]
      · rw [decide_eq_false h, decide_eq_false fun k => h (V.str.inj k)]
    rw [e]
    exact q
  · cases rx
    obtain ⟨t, rfl⟩ := ry
    obtain ⟨its, r, ht, hz⟩ := I.tuple hq
    exact SeqAt.RcAt.tuple_str z t (show s.heap.IsTuple a its.toArray from ht) hu X.prog X.w X.xe _ ⟨.bl false, H, I, rfl, q⟩
/-- a tuple of texts and tuples == a tuple of one text -/
def itemOk (K : PySem.W.Frag) (H : Hp) (x : V) : Prop := (∃ s, x = .str s) ∨ ∃ a xs, x = .ref a ∧ SqT K H a xs
def rEqT1 (K : PySem.W.Frag) : R2 := fun x y H Q => ∃ a b xs z, x = .ref a ∧ y = .ref b ∧ SqT K H a xs ∧ (∀ v ∈ xs, itemOk K H v) ∧ SqT K H b [.str z] ∧ Q (.bl (decide (xs = [.str z]))) H
theorem op_eqT1 (K : PySem.W.Frag) (hu : X.A.units + 1 < cLine) (hK : X.K = K := by rfl) : OpR X (compareOp .Eq) (rEqT1 K) := by
  subst hK
  intro pins s σ H x y v u Q I rx ry h
  obtain ⟨a, b, xs, z, rfl, rfl, ha, hi, hb, q⟩ := h
  cases rx
  cases ry
  obtain ⟨its, r, ht, hz⟩ := I.tuple ha
  obtain ⟨its2, r2, ht2, hz2⟩ := I.tuple hb
  obtain ⟨u2, e2, t2, ru2⟩ := vals1 r2
  subst e2
  subst ru2
  have hl := r.length
  refine SeqAt.eq_tupleAt (e := fun j => decide (xs[j]? = some (.str z))) (show s.heap.IsTuple a its.toArray from ht) (show s.heap.IsTuple b [Value.str z t2].toArray from ht2) (by omega) (fun j h1 h2 => ?_) ?_
  · have h2' : j < 1 := h2
    have hj : j = 0 := by omega
    subst hj
    have h1' : 0 < its.length := by simpa using h1
    cases xs with
    | nil => cases r; simp at h1'
    | cons x0 xr =>
      cases r with
      | cons r0 rr =>
        rename_i u0 ur
        show SeqAt.EqAt X.A.in1 s u0 (.str z t2) _
        rcases hi x0 List.mem_cons_self with ⟨c, rfl⟩ | ⟨p, ps, rfl, hp⟩
        · obtain ⟨t, rfl⟩ := r0
          have e : decide ((V.str c :: xr)[0]? = some (V.str z)) = (c == z) := by
            rw [Bool.eq_iff_iff]
            simp
          rw [e]
          exact SeqAt.EqAt.str_str c t z t2
        · cases r0
          have e : decide ((V.ref p :: xr)[0]? = some (V.str z)) = false := by simp
          rw [e]
          obtain ⟨its3, r3, ht3, _⟩ := I.tuple hp
          exact SeqAt.EqAt.tuple_str z t2 (show s.heap.IsTuple p its3.toArray from ht3) (by show X.A.units + 1 < cLine; exact hu)
  · refine ⟨.bl (decide (xs = [.str z])), H, I, ?_, q⟩
    show Value.bool _ = Value.bool _
    congr 1
    rw [Bool.eq_iff_iff]
    rw [Bool.and_eq_true, beq_iff_eq, List.all_eq_true, decide_eq_true_eq]
    have e3 : its.toArray.size = xs.length := by rw [List.size_toArray, hl]
    rw [e3]
    constructor
    · rintro ⟨h1, h2⟩
      have h2 : xs.length = 1 := h2
      have h3 := h1 0 (by rw [List.mem_range]; show 0 < min xs.length 1; omega)
      match xs, h2, h3 with
      | [y], _, h3 =>
        have := of_decide_eq_true h3
        simp at this
        rw [this]
    · rintro rfl
      refine ⟨fun j hj => ?_, rfl⟩
      have hj' : j < min 1 1 := List.mem_range.mp hj
      have : j = 0 := by omega
      subst this
      simp
end
section
variable {K : PySem.W.Frag} {σ : L2.St} {H H' : Hp} {ta tb te tx : TE}
def isHole : Item → Bool
  | .hole => true
  | _ => false
def star : Str := "*"
theorem ed_eqIS {it : Item} (ha : EvD ta σ H (encI it)) (hb : EvD tb σ H (.s "*")) : EvD (tOp (rEqIS K) ta tb) σ H (.b (isHole it)) := fun H1 e Q q =>
  ha H1 e _ fun v H2 e2 r => hb H2 (e.trans e2) _ fun u H3 e3 r3 => by
    rw [r3.str]
    refine ⟨_, rfl, ?_⟩
    cases it with
    | hole =>
      rw [encI] at r
      rw [r.str]
      exact .inl ⟨_, rfl, by rw [decide_eq_true rfl]; exact q _ H3 (e2.trans e3) (.b true)⟩
    | el n ks =>
      rw [encI] at r
      obtain ⟨a, xs, rfl, h1, _⟩ := (r.ex e3).tup
      exact .inr ⟨a, xs, rfl, st_of h1, q _ H3 (e2.trans e3) (.b false)⟩
theorem item_ok {it : Item} {v : V} (r : Rp H v (encI it)) : itemOk K H v := by
  cases it with
  | hole =>
    rw [encI] at r
    exact .inl ⟨_, r.str⟩
  | el n ks =>
    rw [encI] at r
    obtain ⟨a, xs, rfl, h1, _⟩ := r.tup
    exact .inr ⟨a, xs, rfl, st_of h1⟩
end
/-! ### rules by their names -/
def ruleFor : Rules → Str → Option (List Item)
  | [], _ => none
  | r :: rs, x => if r.1 = x then some r.2 else ruleFor rs x
theorem ruleFor_app (x : Str) : ∀ (pre : Rules) (r : Str × List Item) (post : Rules), ruleFor pre x = none → ruleFor (pre ++ r :: post) x = if r.1 = x then some r.2 else ruleFor post x
  | [], r, post, _ => rfl
  | p :: pre, r, post, h => by
    by_cases hp : p.1 = x
    · simp [ruleFor, hp] at h
    · simp only [ruleFor, if_neg hp] at h
      show (if p.1 = x then some p.2 else ruleFor (pre ++ r :: post) x) = _
      rw [if_neg hp, ruleFor_app x pre r post h]
theorem ruleFor_snoc (x : Str) (pre : Rules) (r : Str × List Item) (h : ruleFor pre x = none) (hr : ¬ r.1 = x) : ruleFor (pre ++ [r]) x = none := by
  rw [ruleFor_app x pre r [] h, if_neg hr]
  rfl
def encO : Option (List Item) → Dt
  | none => .n
  | some its => .t (its.map encI)
def spItemsFor : Sp := spF (fun x : Rules × Str => [.d (encRs x.1), .d (.s x.2)]) (fun _ => True) (fun x => encO (ruleFor x.1 x.2))
section
variable {P : Program} {w : World} {K : PySem.W.Frag} {mg : Str → Option Value} {base : Heap} {f : Addr} {fd : FuncData}
theorem dec_strV {a b : Str} : decide (V.str a = V.str b) = decide (a = b) := by
  by_cases h : a = b
  · rw [decide_eq_true h, decide_eq_true (by rw [h])]
  · rw [decide_eq_false h, decide_eq_false fun k => h (V.str.inj k)]
theorem scItemsFor : FnScope ["turner", "name", "rule"] ["turner", "name"] (defScope sItemsFor) := ⟨rfl, rfl, rfl, by decide +kernel, rfl, by decide +kernel, by decide +kernel⟩
theorem ok_items_for (F : Df K mg "items_for" sItemsFor f fd) : Cal P w K mg base CX0 1 "items_for" ["turner", "name"] spItemsFor f fd := by
  refine F.cal (F.fn.ok scItemsFor (spF_len fun _ => rfl) (fun cdv A outer s H vs Q E hr h => ?_)) fun _ _ _ _ _ _ us hl => match us, hl with | [_, _], _ => rfl
  obtain ⟨⟨R, x⟩, as, _, q⟩ := h
  have q : ∀ v H', Ex H H' → Rp H' v (encO (ruleFor R x)) → Q v H' := q
  have S := sl_start (N := ["turner", "name", "rule"]) as
  refine ⟨_, pss_cons (ps_for PassesOwn.never rfl (pi_tup (pv 0)) (pg_name (i := 2) scItemsFor.nd rfl (Or.inl rfl))
      (pss_one (ps_if (pt_cmpR op_eq (pe_ix ix_tup (pv 2) pe_int (fun _ _ => rfl)) (pv 1) (nomark _)) (pss_one (ps_ret (pe_ix ix_tup (pv 2) pe_int (fun _ _ => rfl)))) pss_nil)))
    (pss_one (ps_ret pe_non)), ?_⟩
  refine qd_forT (xs := R) encRule (ed_var S rfl) (fun H1 pre σ' H' => Ex H1 H' ∧ Ex H H' ∧ Sl H' σ' [.d (encRs R), .d (.s x), .no] ∧ ruleFor pre x = none) (fun H1 e => ⟨Ex.refl H1, e, S.ex e, rfl⟩) (fun H1 pre σ' H' p => Tk.ex p.1) (fun H1 pre a post y σ' H' e es p r => ?_) fun H1 σ' H' e p => ?_
  · obtain ⟨p1, p2, p3, p4⟩ := p
    have S2 := p3.setD 2 r
    refine s_when (et_ed (ed_eq (ed_ixT (ed_var S2 rfl) ed_int rfl) (ed_var S2 rfl) rfl rfl rfl)) (fun hb H2 e2 => ?_) (fun hb H2 e2 => ?_)
    · rw [dec_strV] at hb
      have hx : a.1 = x := of_decide_eq_true hb
      refine sd_ret (ed_ixT (ed_var (S2.ex e2) rfl) ed_int rfl) fun v H3 e3 r3 => q v H3 ((p2.trans e2).trans e3) ?_
      rw [es, ruleFor_app x pre a post p4, if_pos hx]
      exact r3
    · rw [dec_strV] at hb
      have hx : ¬ a.1 = x := of_decide_eq_false hb
      exact ⟨p1.trans e2, p2.trans e2, (S2.drop 2).ex e2, ruleFor_snoc x pre a p4 hx⟩
  · obtain ⟨p1, p2, p3, p4⟩ := p
    refine sd_ret ed_non fun v H2 e2 r => q v H2 (p2.trans e2) ?_
    rw [p4]
    exact r
end
/-! ### the way of items -/
def spItemState (n : Nat) : Sp := spF (fun x : Mach × Str × List Item × Way => [.d (encM x.1), .d (encI (.el x.2.1 x.2.2.1)), .d (encW x.2.2.2)]) (fun x => x.1.Wf ∧ x.2.2.2.Ok x.1.steps.length ∧ deps x.2.2.1 < n) (fun x => eN (iSt x.1 x.2.2.2 (.el x.2.1 x.2.2.1)))
def spWayFilled (n : Nat) : Sp := spF (fun x : Mach × List Item × Way => [.d (encM x.1), .d (.t (x.2.1.map encI)), .d (encW x.2.2)]) (fun x => x.1.Wf ∧ x.2.2.Ok x.1.steps.length ∧ deps x.2.1 < n) (fun x => encW (wFil x.1 x.2.1 x.2.2))
section
variable {P : Program} {w : World} {K : PySem.W.Frag} {mg : Str → Option Value} {base : Heap} {f fS fF fN fB fO : Addr} {fd fdS fdF fdN fdB fdO : FuncData}
theorem scItemState : FnScope ["machine", "item", "way"] ["machine", "item", "way"] (defScope sItemState) := ⟨rfl, rfl, rfl, by decide +kernel, rfl, by decide +kernel, by decide +kernel⟩
theorem ok_item_state {k n : Nat} (F : Df K mg "item_state" sItemState f fd) (CS : Cal P w K mg base CX0 1 "start_of" ["machine", "name"] spStartOf fS fdS) (CF : Cal P w K mg base CX0 (k + 1) "way_filled" ["machine", "items", "way"] (spWayFilled n) fF fdF) :
    Cal P w K mg base CX0 (k + 2) "item_state" ["machine", "item", "way"] (spItemState n) f fd := by
  refine F.cal (F.fn.ok scItemState (spF_len fun _ => rfl) (fun cdv A outer s H vs Q E hr h => ?_)) fun _ _ _ _ _ _ us hl => match us, hl with | [_, _, _], _ => rfl
  obtain ⟨⟨M, nm, ks, W⟩, as, ⟨wf, hw, hn⟩, q⟩ := h
  have wf : M.Wf := wf
  have hw : W.Ok M.steps.length := hw
  have S := sl_start (N := ["machine", "item", "way"]) as
  refine ⟨_, pss_one (ps_ret (pe_ix ix_tup (pe_cal CF hr (pa_cons (pv 0) (pa_cons (pe_ix ix_tup (pv 1) pe_int (fun _ _ => rfl)) (pa_cons (pv 2) pa_nil)))) (pe_cal CS (hr.mono (by omega)) (pa_cons (pv 0) (pa_cons (pe_ix ix_tup (pv 1) pe_int (fun _ _ => rfl)) pa_nil))) (fun _ _ => rfl))), ?_⟩
  have e1 : EvD (tVar 1) (L2.start ["machine", "item", "way"] vs) H (.t [.s nm, .t (ks.map encI)]) := by
    rw [← encI_el]
    exact ed_var S rfl
  refine sd_ret (ed_ixT (ed_call (M, ks, W) (ad_d (ed_var S rfl) (ad_d (ed_ixT e1 ed_int rfl) (ad_d (ed_var S rfl) ad_nil))) ⟨wf, hw, hn⟩) (ed_call (M, nm) (ad_d (ed_var S rfl) (ad_d (ed_ixT e1 ed_int rfl) ad_nil)) wf) (at_encW (wFil_ok wf hw ks) (stOf_lt wf nm))) fun v H2 e2 r => q v H2 e2 ?_
  show Rp H2 v (eN (iSt M W (.el nm ks)))
  rw [iSt]
  exact r
theorem scWayFilled : FnScope ["machine", "items", "way", "found", "item"] ["machine", "items", "way"] (defScope sWayFilled) := ⟨rfl, rfl, rfl, by decide +kernel, rfl, by decide +kernel, by decide +kernel⟩
theorem ok_way_filled {k n : Nat} (B : Blt mg) (F : Df K mg "way_filled" sWayFilled f fd) (CN : Cal P w K mg base CX0 1 "way_of_none" ["machine"] spWayNone fN fdN) (CB : Cal P w K mg base CX0 1 "way_behind" ["way", "other"] spWayBehind fB fdB)
    (CO : Cal P w K mg base CX0 1 "way_of_one" ["machine", "state"] spWayOne fO fdO) (CS : Cal P w K mg base CX0 (k + 1) "item_state" ["machine", "item", "way"] (spItemState n) fS fdS) :
    Cal P w K mg base CX0 (k + 2) "way_filled" ["machine", "items", "way"] (spWayFilled (n + 1)) f fd := by
  refine F.cal (F.fn.ok scWayFilled (spF_len fun _ => rfl) (fun cdv A outer s H vs Q E hr h => ?_)) fun _ _ _ _ _ _ us hl => match us, hl with | [_, _, _], _ => rfl
  obtain ⟨⟨M, its, W⟩, as, ⟨wf, hw, hn⟩, q⟩ := h
  have wf : M.Wf := wf
  have hw : W.Ok M.steps.length := hw
  have hn : deps its < n + 1 := hn
  have few : M.steps.length ≤ 64 := wf.few
  have q : ∀ v H', Ex H H' → Rp H' v (encW (wFil M its W)) → Q v H' := q
  have S := sl_start (N := ["machine", "items", "way", "found", "item"]) as
  have hr1 : Room 1 _ := hr.mono (by omega)
  obtain ⟨th, mh⟩ := B.hole
  refine ⟨_, pss_cons (ps_set (i := 3) scWayFilled.nd rfl (Or.inl rfl) (pe_cal CN hr1 (pa_cons (pv 0) pa_nil)))
    (pss_cons (ps_for PassesOwn.never rfl (pi_tup (pv 1)) (pg_name (i := 4) scWayFilled.nd rfl (Or.inl rfl))
      (pss_one (ps_if (pt_cmpR (op_eqIS K hr.units0) (pv 4) (pe_glob (v := .str "*") rfl mh ⟨_, rfl⟩) (nomark _))
        (pss_one (ps_set (i := 3) scWayFilled.nd rfl (Or.inl rfl) (pe_cal CB hr1 (pa_cons (pv 3) (pa_cons (pv 2) pa_nil)))))
        (pss_one (ps_set (i := 3) scWayFilled.nd rfl (Or.inl rfl) (pe_cal CB hr1 (pa_cons (pv 3) (pa_cons (pe_cal CO hr1 (pa_cons (pv 0) (pa_cons (pe_cal CS hr (pa_cons (pv 0) (pa_cons (pv 4) (pa_cons (pv 2) pa_nil)))) pa_nil))) pa_nil))))))))
    (pss_one (ps_ret (pv 3)))), ?_⟩
  refine qs_set S (ed_call M (ad_d (ed_var S rfl) ad_nil) wf) fun σ1 H1 e1 S1 => ?_
  refine qs_forT (xs := its) S1 encI (ed_var S1 rfl) (fun pre => [.d (encM M), .d (.t (its.map encI)), .d (encW W), .d (encW (wGo M W (wNone M) pre)), .no]) (fun σ H S => by
      rw [wGo]
      exact S) (fun pre it post σ2 H2 es e2 S2 N hN => ?_) fun σ2 H2 e2 S2 => ?_
  · have ok1 : (wGo M W (wNone M) pre).Ok M.steps.length := wGo_ok wf hw pre _ (wNone_ok M)
    have hm : it ∈ its := by rw [es]; simp
    have hd := dep_mem hm
    have gl : EvD (tC (V.str "*")) σ2 H2 (.s "*") := ed_str
    refine s_if (et_ed (ed_eqIS (ed_var S2 rfl) gl)) (fun hb H3 e3 => ?_) (fun hb H3 e3 => ?_)
    · cases it with
      | el _ _ => cases hb
      | hole =>
        refine ss_set (S2.ex e3) (ed_call (M.steps.length, wGo M W (wNone M) pre, W) (ad_d (ed_var (S2.ex e3) rfl) (ad_d (ed_var (S2.ex e3) rfl) ad_nil)) ⟨ok1, hw, few⟩) fun σ4 H4 e4 S4 => hN _ _ (e3.trans e4) ?_
        rw [wGo_snoc]
        exact S4.drop 4
    · cases it with
      | hole => cases hb
      | el nm ks =>
        have hk : deps ks < n := by rw [Item.dep] at hd; omega
        have S3 := S2.ex e3
        refine ss_set S3 (ed_call (M.steps.length, wGo M W (wNone M) pre, wOne M (iSt M W (.el nm ks))) (ad_d (ed_var S3 rfl) (ad_d (ed_call (M, iSt M W (.el nm ks)) (ad_d (ed_var S3 rfl) (ad_d (ed_call (M, nm, ks, W) (ad_d (ed_var S3 rfl) (ad_d (ed_var S3 rfl) (ad_d (ed_var S3 rfl) ad_nil))) ⟨wf, hw, hk⟩) ad_nil)) ⟨wf, iSt_lt wf hw _⟩) ad_nil)) ⟨ok1, wOne_ok wf (iSt_lt wf hw _), few⟩) fun σ4 H4 e4 S4 => hN _ _ (e3.trans e4) ?_
        rw [wGo_snoc]
        exact S4.drop 4
  · exact sd_ret (ed_var S2 rfl) fun v H3 e3 r => q v H3 ((e1.trans e2).trans e3) r
/-- both, at every depth -/
theorem none_fill {k : Nat} (F : Df K mg "way_filled" sWayFilled f fd) : Cal P w K mg base CX0 (k + 1) "way_filled" ["machine", "items", "way"] (spWayFilled 0) f fd := by
  have no : ∀ vs H Q E, ¬ spWayFilled 0 vs H Q E := fun vs H Q E h => by
    obtain ⟨x, _, ⟨_, _, z⟩, _⟩ := h
    exact absurd z (Nat.not_lt_zero _)
  refine F.cal ⟨fun vs H Q E h => absurd h (no vs H Q E), fun A outer s H args us vs Q E _ _ _ _ h => absurd h (no vs H Q E)⟩ fun _ _ _ _ _ _ us hl => match us, hl with | [_, _, _], _ => rfl
theorem ok_fill (B : Blt mg) (F : Df K mg "way_filled" sWayFilled f fd) (G : Df K mg "item_state" sItemState fF fdF) (CN : Cal P w K mg base CX0 1 "way_of_none" ["machine"] spWayNone fN fdN) (CB : Cal P w K mg base CX0 1 "way_behind" ["way", "other"] spWayBehind fB fdB)
    (CO : Cal P w K mg base CX0 1 "way_of_one" ["machine", "state"] spWayOne fO fdO) (CS : Cal P w K mg base CX0 1 "start_of" ["machine", "name"] spStartOf fS fdS) : ∀ n : Nat, Cal P w K mg base CX0 (2 * n + 1) "way_filled" ["machine", "items", "way"] (spWayFilled n) f fd
  | 0 => none_fill F
  | n + 1 => ok_way_filled (k := 2 * n + 1) B F CN CB CO (ok_item_state G CS (ok_fill B F G CN CB CO CS n))
end
end GF
set_option Elab.async false
set_option linter.all false
set_option maxRecDepth 100000
set_option maxHeartbeats 4000000
/-! Gf4: the law's readers: rules, states of documents, ways of rows. -/
namespace GF
open PySem L2 Evl
/-! ### plainly -/
def forD (R : Rules) (x : Str) : Dt := match ruleFor R x with
  | none => .t [.s x]
  | some its => .t (its.map encI)
mutual
def docSt (M : Mach) : Doc → Nat
  | .mk n ks => (docSts M ks).foldl (stp M) (stOf M n)
def docSts (M : Mach) : List Doc → List Nat
  | [] => []
  | d :: r => docSt M d :: docSts M r
end
theorem docSts_map (M : Mach) : ∀ l : List Doc, docSts M l = l.map (docSt M)
  | [] => by simp [docSts]
  | x :: xs => by rw [docSts, docSts_map M xs]; rfl
theorem docSt_mk (M : Mach) (n : Str) (ks : List Doc) : docSt M (.mk n ks) = (ks.map (docSt M)).foldl (stp M) (stOf M n) := by rw [docSt, docSts_map]
mutual
def Doc.ht : Doc → Nat
  | .mk _ ks => hts ks + 1
def hts : List Doc → Nat
  | [] => 0
  | d :: r => max d.ht (hts r)
end
mutual
def Doc.sz : Doc → Nat
  | .mk _ ks => szs ks + 1
def szs : List Doc → Nat
  | [] => 0
  | d :: r => d.sz + szs r
end
theorem ht_mem : ∀ {l : List Doc} {x : Doc}, x ∈ l → x.ht ≤ hts l
  | y :: r, x, h => by
    rw [hts]
    rcases List.mem_cons.mp h with e | e
    · subst e; exact Nat.le_max_left _ _
    · exact Nat.le_trans (ht_mem e) (Nat.le_max_right _ _)
theorem sz_pos : ∀ d : Doc, 0 < d.sz
  | .mk _ ks => by rw [Doc.sz]; omega
theorem sz_mem : ∀ {l : List Doc} {x : Doc}, x ∈ l → x.sz ≤ szs l
  | y :: r, x, h => by
    rw [szs]
    rcases List.mem_cons.mp h with e | e
    · subst e; omega
    · have := sz_mem e; omega
theorem szs_len : ∀ l : List Doc, l.length ≤ szs l
  | [] => Nat.zero_le _
  | d :: r => by
    rw [szs, List.length_cons]
    have := szs_len r
    have := sz_pos d
    omega
theorem szs_app : ∀ l r : List Doc, szs (l ++ r) = szs l + szs r
  | [], r => by rw [List.nil_append, szs, Nat.zero_add]
  | d :: l, r => by rw [List.cons_append, szs, szs, szs_app l r]; omega
theorem stp_lt {M : Mach} (wf : M.Wf) {p q : Nat} (hp : p < M.steps.length) (hq : q < M.steps.length) : stp M p q < M.steps.length := by
  unfold stp
  have h := wf.rl _ (getD_mem (l := M.steps) [] hp)
  exact h.2 _ (getD_mem 0 (by rw [h.1]; exact hq))
theorem fold_lt {M : Mach} (wf : M.Wf) : ∀ {l : List Nat} {p : Nat}, p < M.steps.length → (∀ x ∈ l, x < M.steps.length) → l.foldl (stp M) p < M.steps.length
  | [], _, h, _ => h
  | x :: r, p, h, hl => by
    rw [List.foldl_cons]
    exact fold_lt wf (stp_lt wf h (hl x List.mem_cons_self)) fun y hy => hl y (List.mem_cons_of_mem _ hy)
mutual
theorem docSt_lt {M : Mach} (wf : M.Wf) : ∀ d : Doc, docSt M d < M.steps.length
  | .mk n ks => by
    rw [docSt]
    exact fold_lt wf (stOf_lt wf n) (docSts_lt wf ks)
theorem docSts_lt {M : Mach} (wf : M.Wf) : ∀ (l : List Doc), ∀ x ∈ docSts M l, x < M.steps.length
  | [], x, h => by simp [docSts] at h
  | d :: r, x, h => by
    rw [docSts] at h
    rcases List.mem_cons.mp h with e | e
    · rw [e]; exact docSt_lt wf d
    · exact docSts_lt wf r x e
end
def lastOf (l : List Nat) : Int := match l with
  | [] => -1
  | [x] => (x : Int)
  | _ => -2
def wayOf (M : Mach) (row : List Doc) : Way := ⟨(List.range M.steps.length).map fun s => (row.map (docSt M)).foldl (stp M) s, lastOf (row.map (docSt M))⟩
mutual
def sizeI (z : Int) : Item → Int
  | .hole => z
  | .el _ ks => 1 + sizeIs z ks
def sizeIs (z : Int) : List Item → Int
  | [] => 0
  | x :: r => sizeI z x + sizeIs z r
end
mutual
def fullI (row : List Doc) : Item → List Doc
  | .hole => row
  | .el n ks => [.mk n (fullIs row ks)]
def fullIs (row : List Doc) : List Item → List Doc
  | [] => []
  | x :: r => fullI row x ++ fullIs row r
end
theorem sizeIs_app (z : Int) : ∀ l r : List Item, sizeIs z (l ++ r) = sizeIs z l + sizeIs z r
  | [], r => by rw [List.nil_append, sizeIs, Int.zero_add]
  | x :: l, r => by rw [List.cons_append, sizeIs, sizeIs, sizeIs_app z l r]; omega
theorem fullIs_app (row : List Doc) : ∀ l r : List Item, fullIs row (l ++ r) = fullIs row l ++ fullIs row r
  | [], r => by rw [List.nil_append, fullIs, List.nil_append]
  | x :: l, r => by rw [List.cons_append, fullIs, fullIs, fullIs_app row l r, List.append_assoc]
mutual
theorem size_full (row : List Doc) : ∀ x : Item, sizeI (szs row) x = (szs (fullI row x) : Int)
  | .hole => by rw [sizeI, fullI]
  | .el n ks => by
    rw [sizeI, fullI, szs, szs, Doc.sz, size_fulls row ks]
    omega
theorem size_fulls (row : List Doc) : ∀ l : List Item, sizeIs (szs row) l = (szs (fullIs row l) : Int)
  | [] => by rw [sizeIs, fullIs, szs]; rfl
  | x :: r => by
    rw [sizeIs, fullIs, szs_app, size_full row x, size_fulls row r]
    omega
end
def markOf (M : Mach) (row : List Doc) : Nat := match row with
  | [d] => M.marks.getD (docSt M d) 0
  | _ => 0
/-! ### the defs -/
def spFor : Sp := spF (fun x : Rules × Str => [.d (encRs x.1), .d (.s x.2)]) (fun _ => True) (fun x => forD x.1 x.2)
def spState : Sp := spF (fun x : Mach × Str × List Nat => [.d (encM x.1), .d (.s x.2.1), .l (x.2.2.map eN)]) (fun x => x.1.Wf ∧ ∀ y ∈ x.2.2, y < x.1.steps.length) (fun x => eN (x.2.2.foldl (stp x.1) (stOf x.1 x.2.1)))
def spDocState (n : Nat) : Sp := spF (fun x : Mach × Doc => [.d (encM x.1), .d (encC x.2)]) (fun x => x.1.Wf ∧ x.2.ht ≤ n ∧ x.2.sz ≤ 5000) (fun x => eN (docSt x.1 x.2))
def spWay (n : Nat) : Sp := spF (fun x : Mach × List Doc => [.d (encM x.1), .l (x.2.map encC)]) (fun x => x.1.Wf ∧ hts x.2 ≤ n ∧ szs x.2 ≤ 5000) (fun x => encW (wayOf x.1 x.2))
def spMark (n : Nat) : Sp := spF (fun x : Mach × List Doc => [.d (encM x.1), .l (x.2.map encC)]) (fun x => x.1.Wf ∧ hts x.2 ≤ n ∧ szs x.2 ≤ 5000) (fun x => eN (markOf x.1 x.2))
def spSize (n : Nat) : Sp := spF (fun x : List Item × Int => [.d (.t (x.1.map encI)), .d (.i x.2)]) (fun x => deps x.1 < n) (fun x => .i (sizeIs x.2 x.1))
def spFull (n : Nat) : Sp := spN (fun x : List Item × List Doc => [.d (.t (x.1.map encI)), .l (x.2.map encC)]) (fun x => deps x.1 < n ∧ szs (fullIs x.2 x.1) ≤ 5000) (fun x => (fullIs x.2 x.1).map encC)
section
variable {P : Program} {w : World} {K : PySem.W.Frag} {mg : Str → Option Value} {base : Heap} {f fS fF fN fB fO : Addr} {fd fdS fdF fdN fdB fdO : FuncData}
theorem scFor : FnScope ["_law_rules", "_law_name", "_law_rule"] ["_law_rules", "_law_name"] (defScope sFor) := ⟨rfl, rfl, rfl, by decide +kernel, rfl, by decide +kernel, by decide +kernel⟩
theorem ok_for (F : Df K mg "_law_for" sFor f fd) : Cal P w K mg base CX0 1 "_law_for" ["_law_rules", "_law_name"] spFor f fd := by
  refine F.cal (F.fn.ok scFor (spF_len fun _ => rfl) (fun cdv A outer s H vs Q E hr h => ?_)) fun _ _ _ _ _ _ us hl => match us, hl with | [_, _], _ => rfl
  obtain ⟨⟨R, x⟩, as, _, q⟩ := h
  have q : ∀ v H', Ex H H' → Rp H' v (forD R x) → Q v H' := q
  have S := sl_start (N := ["_law_rules", "_law_name", "_law_rule"]) as
  refine ⟨_, pss_cons (ps_for PassesOwn.never rfl (pi_tup (pv 0)) (pg_name (i := 2) scFor.nd rfl (Or.inl rfl))
      (pss_one (ps_if (pt_cmpR op_eq (pe_ix ix_tup (pv 2) pe_int (fun _ _ => rfl)) (pv 1) (nomark _)) (pss_one (ps_ret (pe_ix ix_tup (pv 2) pe_int (fun _ _ => rfl)))) pss_nil)))
    (pss_one (ps_ret (pe_tup (pa_cons (pv 1) pa_nil)))), ?_⟩
  refine qd_forT (xs := R) encRule (ed_var S rfl) (fun H1 pre σ' H' => Ex H1 H' ∧ Ex H H' ∧ Sl H' σ' [.d (encRs R), .d (.s x), .no] ∧ ruleFor pre x = none) (fun H1 e => ⟨Ex.refl H1, e, S.ex e, rfl⟩) (fun H1 pre σ' H' p => Tk.ex p.1) (fun H1 pre a post y σ' H' e es p r => ?_) fun H1 σ' H' e p => ?_
  · obtain ⟨p1, p2, p3, p4⟩ := p
    have S2 := p3.setD 2 r
    refine s_when (et_ed (ed_eq (ed_ixT (ed_var S2 rfl) ed_int rfl) (ed_var S2 rfl) rfl rfl rfl)) (fun hb H2 e2 => ?_) (fun hb H2 e2 => ?_)
    · rw [dec_strV] at hb
      have hx : a.1 = x := of_decide_eq_true hb
      refine sd_ret (ed_ixT (ed_var (S2.ex e2) rfl) ed_int rfl) fun v H3 e3 r3 => q v H3 ((p2.trans e2).trans e3) ?_
      unfold forD
      rw [es, ruleFor_app x pre a post p4, if_pos hx]
      exact r3
    · rw [dec_strV] at hb
      have hx : ¬ a.1 = x := of_decide_eq_false hb
      exact ⟨p1.trans e2, p2.trans e2, (S2.drop 2).ex e2, ruleFor_snoc x pre a p4 hx⟩
  · obtain ⟨p1, p2, p3, p4⟩ := p
    refine sd_ret (ed_tup (ds_cons (ed_var p3 rfl) ds_nil) (by simp)) fun v H2 e2 r => q v H2 (p2.trans e2) ?_
    unfold forD
    rw [p4]
    exact r
theorem scState : FnScope ["_law_table", "_law_name", "_law_states", "_law_state_here", "_law_other"] ["_law_table", "_law_name", "_law_states"] (defScope sState) := ⟨rfl, rfl, rfl, by decide +kernel, rfl, by decide +kernel, by decide +kernel⟩
theorem at_step {M : Mach} (wf : M.Wf) {p : Nat} (hp : p < M.steps.length) : atI (M.steps.map fun r => Dt.t (r.map eN)) (p : Int) = some (.t ((M.steps.getD p []).map eN)) := atI_nat (by rw [List.getElem?_map, get_lt [] hp]; rfl)
theorem at_step2 {M : Mach} (wf : M.Wf) {p q : Nat} (hp : p < M.steps.length) (hq : q < M.steps.length) : atI ((M.steps.getD p []).map eN) (q : Int) = some (eN (stp M p q)) := at_eN (get_lt 0 (by rw [(wf.rl _ (getD_mem [] hp)).1]; exact hq))
theorem ok_state (F : Df K mg "_law_state" sState f fd) : Cal P w K mg base CX0 1 "_law_state" ["_law_table", "_law_name", "_law_states"] spState f fd := by
  refine F.cal (F.fn.ok scState (spF_len fun _ => rfl) (fun cdv A outer s H vs Q E hr h => ?_)) fun _ _ _ _ _ _ us hl => match us, hl with | [_, _, _], _ => rfl
  obtain ⟨⟨M, x, zs⟩, as, ⟨wf, hz⟩, q⟩ := h
  have wf : M.Wf := wf
  have hz : ∀ y ∈ zs, y < M.steps.length := hz
  have q : ∀ v H', Ex H H' → Rp H' v (eN (zs.foldl (stp M) (stOf M x))) → Q v H' := q
  have S := sl_start (N := ["_law_table", "_law_name", "_law_states", "_law_state_here", "_law_other"]) as
  have hst : M.starts.length = M.names.length + 1 := wf.st
  refine ⟨_, pss_cons (ps_set (i := 3) scState.nd rfl (Or.inl rfl) (pe_ix ix_tup (pe_ix ix_tup (pv 0) pe_int (fun _ _ => rfl)) (pe_un un_neg pe_int) (fun _ _ => rfl)))
    (pss_cons (ps_if (pt_cmpR op_in_seq (pv 1) (pe_ix ix_tup (pv 0) pe_int (fun _ _ => rfl)) (by rfl))
      (pss_one (ps_set (i := 3) scState.nd rfl (Or.inl rfl) (pe_ix ix_tup (pe_ix ix_tup (pv 0) pe_int (fun _ _ => rfl)) (pe_fm PySem.F.plainAttrs_tuple PySem.F.slot_tuple_index PySem.F.type_tuple_index mt_tix (pe_ix ix_tup (pv 0) pe_int (fun _ _ => rfl)) (pa_cons (pv 1) pa_nil)) (fun _ _ => rfl)))) pss_nil)
    (pss_cons (ps_for PassesOwn.never rfl (pi_list (pv 2)) (pg_name (i := 4) scState.nd rfl (Or.inl rfl))
      (pss_one (ps_set (i := 3) scState.nd rfl (Or.inl rfl) (pe_ix ix_tup (pe_ix ix_tup (pe_ix ix_tup (pv 0) pe_int (fun _ _ => rfl)) (pv 3) (fun _ _ => rfl)) (pv 4) (fun _ _ => rfl)))))
    (pss_one (ps_ret (pv 3))))), ?_⟩
  refine qs_set S (ed_ixT (ed_ixT (ed_var S rfl) ed_int rfl) (ed_neg ed_int) (at_lastN (fun z => by rw [z] at hst; simp at hst))) fun σ1 H1 e1 S1 => ?_
  refine qs_ifset S1 (et_ed (ed_inF (ed_var S1 rfl) (ed_ixT (ed_var S1 rfl) ed_int rfl))) (d := eN (stOf M x)) (fun hb => ?_) (fun hb => ?_) fun σ2 H2 e2 S2 => ?_
  · have hx : x ∈ M.names := of_decide_eq_true hb
    have hl := List.idxOf_lt_length_iff.mpr hx
    exact ed_ixT (ed_ixT (ed_var S1 rfl) ed_int rfl) (ed_tix (ed_ixT (ed_var S1 rfl) ed_int rfl) (ed_var S1 rfl) hx) (at_eN (get_lt 0 (by show M.names.idxOf x < M.starts.length; omega)))
  · have hx : ¬ x ∈ M.names := of_decide_eq_false hb
    have hl : M.names.idxOf x = M.names.length := Nat.le_antisymm List.idxOf_le_length (Nat.not_lt.mp fun z => hx (List.idxOf_lt_length_iff.mp z))
    have e3 : stOf M x = M.starts.getD (M.starts.length - 1) 0 := by
      unfold stOf
      rw [hl, hst]
      rfl
    rw [e3]
    rfl
  refine qs_forL (xs := zs) S2 eN (er_var S2 rfl) (fun pre => [.d (encM M), .d (.s x), .l (zs.map eN), .d (eN (pre.foldl (stp M) (stOf M x))), .no]) (fun σ H S => S) (fun pre y post σ3 H3 es e3 S3 N hN => ?_) fun σ3 H3 e3 S3 => ?_
  · have hp : pre.foldl (stp M) (stOf M x) < M.steps.length := fold_lt wf (stOf_lt wf x) fun y hy => hz y (by rw [es]; simp [hy])
    have hy : y < M.steps.length := hz y (by rw [es]; simp)
    refine ss_set S3 (ed_ixT (ed_ixT (ed_ixT (ed_var S3 rfl) ed_int rfl) (ed_var S3 rfl) (at_step wf hp)) (ed_var S3 rfl) (at_step2 wf hp hy)) fun σ4 H4 e4 S4 => hN _ _ e4 ?_
    rw [List.foldl_append]
    exact S4.drop 4
  · exact sd_ret (ed_var S3 rfl) fun v H4 e4 r => q v H4 (((e1.trans e2).trans e3).trans e4) r
theorem scDocState : FnScope ["_law_table", "_law_doc", "_law_child"] ["_law_table", "_law_doc"] (defScope sDocState) := ⟨rfl, rfl, rfl, by decide +kernel, rfl, by decide +kernel, by decide +kernel⟩
theorem ok_doc_state1 {k n : Nat} (F : Df K mg "_law_doc_state" sDocState f fd) (CS : Cal P w K mg base CX0 1 "_law_state" ["_law_table", "_law_name", "_law_states"] spState fS fdS)
    (CD : Cal P w K mg base CX0 (k + 1) "_law_doc_state" ["_law_table", "_law_doc"] (spDocState n) f fd) : Cal P w K mg base CX0 (k + 2) "_law_doc_state" ["_law_table", "_law_doc"] (spDocState (n + 1)) f fd := by
  refine F.cal (F.fn.ok scDocState (spF_len fun _ => rfl) (fun cdv A outer s H vs Q E hr h => ?_)) fun _ _ _ _ _ _ us hl => match us, hl with | [_, _], _ => rfl
  obtain ⟨⟨M, d⟩, as, ⟨wf, hh, hz⟩, q⟩ := h
  obtain ⟨nm, ks⟩ := d
  have wf : M.Wf := wf
  have hh : (Doc.mk nm ks).ht ≤ n + 1 := hh
  have hz : (Doc.mk nm ks).sz ≤ 5000 := hz
  rw [Doc.ht] at hh
  rw [Doc.sz] at hz
  have hkl := szs_len ks
  have S := sl_start (N := ["_law_table", "_law_doc", "_law_child"]) as
  refine ⟨_, pss_one (ps_ret (pe_cal CS (hr.mono (by omega)) (pa_cons (pv 0) (pa_cons (pe_ix ix_tup (pv 1) pe_int (fun _ _ => rfl)) (pa_cons
    (pe_lc (own := [("_law_child", 2)]) (g := gName 2) (tt := tYes) rfl scDocState.nd (pi_tup (pe_ix ix_tup (pv 1) pe_int (fun _ _ => rfl))) (blkOk_by (N := ["_law_table", "_law_doc", "_law_child"]) (sc := defScope sDocState) (by decide +kernel))
      (fun _ _ _ _ _ => pg_name (i := 2) scDocState.nd rfl (Or.inl rfl)) (fun _ _ _ _ _ => pts_nil) (fun _ _ _ _ _ => pe_cal CD hr (pa_cons (pv 0) (pa_cons (pv 2) pa_nil)))) pa_nil))))), ?_⟩
  have e1 : EvD (tVar 1) (L2.start ["_law_table", "_law_doc", "_law_child"] vs) H (.t [.s nm, .t (ks.map encC)]) := by
    rw [← encC_mk]
    exact ed_var S rfl
  refine sd_ret (ed_call (M, nm, ks.map (docSt M)) (ad_d (ed_var S rfl) (ad_d (ed_ixT e1 ed_int rfl) (ad_l (er_is (en_lcT (xs := ks) encC (fun d => eN (docSt M d)) (ed_ixT e1 ed_int rfl) (by omega) (fun d hd y H1 e ry => ?_)).r (by rw [List.map_map]; rfl)) ad_nil))) ⟨wf, fun y hy => ?_⟩) fun v H1 e r => q v H1 e ?_
  · have S2 := (S.ex e).setD 2 ry
    have h1 := ht_mem hd
    have h2 := sz_mem hd
    exact ed_call (M, d) (ad_d (ed_var S2 rfl) (ad_d (ed_var S2 rfl) ad_nil)) ⟨wf, by show d.ht ≤ n; omega, by show d.sz ≤ 5000; omega⟩
  · obtain ⟨d, _, rfl⟩ := List.mem_map.mp hy
    exact docSt_lt wf d
  · show Rp H1 v (eN (docSt M (.mk nm ks)))
    rw [docSt_mk]
    exact r
theorem ok_doc_state (F : Df K mg "_law_doc_state" sDocState f fd) (CS : Cal P w K mg base CX0 1 "_law_state" ["_law_table", "_law_name", "_law_states"] spState fS fdS) : ∀ n : Nat, Cal P w K mg base CX0 (n + 1) "_law_doc_state" ["_law_table", "_law_doc"] (spDocState n) f fd
  | 0 => by
    have no : ∀ vs H Q E, ¬ spDocState 0 vs H Q E := fun vs H Q E h => by
      obtain ⟨⟨M, d⟩, _, ⟨_, z, _⟩, _⟩ := h
      obtain ⟨nm, ks⟩ := d
      have z : (Doc.mk nm ks).ht ≤ 0 := z
      rw [Doc.ht] at z
      omega
    exact F.cal ⟨fun vs H Q E h => absurd h (no vs H Q E), fun A outer s H args us vs Q E _ _ _ _ h => absurd h (no vs H Q E)⟩ fun _ _ _ _ _ _ us hl => match us, hl with | [_, _], _ => rfl
  | n + 1 => ok_doc_state1 F CS (ok_doc_state F CS n)
theorem scWay : FnScope ["_law_table", "_law_row", "_law_found", "_law_states", "_law_state_here", "_law_other", "_law_last", "_law_doc"] ["_law_table", "_law_row"] (defScope sWay) := ⟨rfl, rfl, rfl, by decide +kernel, rfl, by decide +kernel, by decide +kernel⟩
theorem ok_way {n : Nat} (B : Blt mg) (F : Df K mg "_law_way" sWay f fd) (CD : Cal P w K mg base CX0 (n + 1) "_law_doc_state" ["_law_table", "_law_doc"] (spDocState n) fS fdS) : Cal P w K mg base CX0 (n + 2) "_law_way" ["_law_table", "_law_row"] (spWay n) f fd := by
  refine F.cal (F.fn.ok scWay (spF_len fun _ => rfl) (fun cdv A outer s H vs Q E hr h => ?_)) fun _ _ _ _ _ _ us hl => match us, hl with | [_, _], _ => rfl
  obtain ⟨⟨M, row⟩, as, ⟨wf, hh, hz⟩, q⟩ := h
  have wf : M.Wf := wf
  have hh : hts row ≤ n := hh
  have hz : szs row ≤ 5000 := hz
  have few : M.steps.length ≤ 64 := wf.few
  have hrl := szs_len row
  have q : ∀ v H', Ex H H' → Rp H' v (encW (wayOf M row)) → Q v H' := q
  have S := sl_start (N := ["_law_table", "_law_row", "_law_found", "_law_states", "_law_state_here", "_law_other", "_law_last", "_law_doc"]) as
  refine ⟨_, pss_cons (ps_set (i := 2) scWay.nd rfl (Or.inl rfl) (pe_lst pa_nil))
    (pss_cons (ps_setLc (i := 3) (own := [("_law_doc", 7)]) (g := gName 7) (tt := tYes) rfl scWay.nd rfl rfl (sw_true rfl rfl rfl (by decide +kernel)) (pi_list (pv 1)) (blkOk_by (N := ["_law_table", "_law_row", "_law_found", "_law_states", "_law_state_here", "_law_other", "_law_last", "_law_doc"]) (sc := defScope sWay) (by decide +kernel))
      (fun _ _ _ _ _ => pg_name (i := 7) scWay.nd rfl (Or.inl rfl)) (fun _ _ _ _ _ => pts_nil) (fun _ _ _ _ _ => pe_cal CD hr (pa_cons (pv 0) (pa_cons (pv 7) pa_nil))))
    (pss_cons (ps_for PassesOwn.never rfl (pi_range1 rfl B.range (pa_cons (pe_callB (lenK K) (by rfl) B.len PySem.boot_len (pa_cons (pe_ix ix_tup (pv 0) pe_int (fun _ _ => rfl)) pa_nil)) pa_nil)) (pg_name (i := 4) scWay.nd rfl (Or.inl rfl))
      (pss_cons (ps_for PassesOwn.never rfl (pi_list (pv 3)) (pg_name (i := 5) scWay.nd rfl (Or.inl rfl)) (pss_one (ps_set (i := 4) scWay.nd rfl (Or.inl rfl) (pe_ix ix_tup (pe_ix ix_tup (pe_ix ix_tup (pv 0) pe_int (fun _ _ => rfl)) (pv 4) (fun _ _ => rfl)) (pv 5) (fun _ _ => rfl)))))
      (pss_one (ps_expr (pe_bm PySem.F.plainAttrs_list PySem.F.slot_list_append PySem.F.type_list_append mt_append (pv 2) (pa_cons (pv 4) pa_nil))))))
    (pss_cons (ps_set (i := 6) scWay.nd rfl (Or.inl rfl) (pe_un un_neg pe_int))
    (pss_cons (ps_if (pt_cmpR op_eq (pe_callB (lenK K) (by rfl) B.len PySem.boot_len (pa_cons (pv 3) pa_nil)) pe_int (nomark _)) (pss_one (ps_set (i := 6) scWay.nd rfl (Or.inl rfl) (pe_un un_neg pe_int))) pss_nil)
    (pss_cons (ps_if (pt_cmpR op_eq (pe_callB (lenK K) (by rfl) B.len PySem.boot_len (pa_cons (pv 3) pa_nil)) pe_int (nomark _)) (pss_one (ps_set (i := 6) scWay.nd rfl (Or.inl rfl) (pe_ix ix_list (pv 3) pe_int (fun _ _ => rfl)))) pss_nil)
    (pss_one (ps_ret (pe_callTy (tupK K) (by rfl) B.tuple (by decide +kernel) (pa_cons (pe_op op_cat (pv 2) (pe_lst (pa_cons (pv 6) pa_nil))) pa_nil))))))))), ?_⟩
  obtain ⟨a, La, S⟩ := S.openL (i := 1) rfl
  refine qs_setN S (en_lst ds_nil (by simp)) fun l σ1 H1 hl e1 L1 S1 => ?_
  refine qs_setN S1 (en_lcL (xs := row) encC (fun d => eN (docSt M d)) (er_varA S1 rfl (La.ex e1)) (by omega) (fun d hd y H2 e2 ry => ?_)) fun p σ2 H2 hp e2 P2 S2 => ?_
  · have S2 := (S1.ex e2).setD 7 ry
    have h1 := ht_mem hd
    have h2 := sz_mem hd
    exact ed_call (M, d) (ad_d (ed_var S2 rfl) (ad_d (ed_var S2 rfl) ad_nil)) ⟨wf, by show d.ht ≤ n; omega, by show d.sz ≤ 5000; omega⟩
  have hpl : p ≠ l := (L1.ne hp).symm
  -- the states
  generalize hzs : row.map (docSt M) = zs
  have hzl : ∀ y ∈ zs, y < M.steps.length := fun y hy => by
    rw [← hzs] at hy
    obtain ⟨d, _, rfl⟩ := List.mem_map.mp hy
    exact docSt_lt wf d
  have ezs : row.map (fun d => eN (docSt M d)) = zs.map eN := by rw [← hzs, List.map_map]; rfl
  have zlen : zs.length ≤ 5000 := by rw [← hzs, List.length_map]; omega
  rw [ezs] at P2
  refine qd_forR (n := M.steps.length) (ds_cons (ed_is (ed_lenT (ed_ixT (ed_var S2 rfl) ed_int rfl)) (by rw [List.length_map])) ds_nil) (by omega) (fun i σ' H' => Ex H H' ∧ Sl H' σ' [.d (encM M), .no, .v (.ref l), .v (.ref p), .no, .no, .no, .no] ∧ Ls H' p (zs.map eN) ∧ Ls H' l (((List.range i).map fun s => zs.foldl (stp M) s).map eN))
    (fun H3 e3 => ⟨(e1.trans e2).trans e3, (S2.ex e3).drop 1, P2.ex e3, (L1.ex e2).ex e3⟩) (fun i σ' H' hi q => ?_) (fun σ' H' q => ?_)
  · obtain ⟨q1, q2, q3, q4⟩ := q
    have S4 : Sl H' (σ'.set 4 (some (.int (i : Int)))) [.d (encM M), .no, .v (.ref l), .v (.ref p), .d (eN i), .no, .no, .no] := q2.setD 4 (.i _)
    refine qs_forL (xs := zs) S4 eN (er_varA S4 rfl q3) (fun pre => [.d (encM M), .no, .v (.ref l), .v (.ref p), .d (eN (pre.foldl (stp M) i)), .no, .no, .no]) (fun σ H S => S) (fun pre y post σ5 H5 es e5 S5 N hN => ?_) fun σ5 H5 e5 S5 => ?_
    · have hpr : pre.foldl (stp M) i < M.steps.length := fold_lt wf hi fun y hy => hzl y (by rw [es]; simp [hy])
      have hy : y < M.steps.length := hzl y (by rw [es]; simp)
      refine ss_set S5 (ed_ixT (ed_ixT (ed_ixT (ed_var S5 rfl) ed_int rfl) (ed_var S5 rfl) (at_step wf hpr)) (ed_var S5 rfl) (at_step2 wf hpr hy)) fun σ6 H6 e6 S6 => hN _ _ e6 ?_
      rw [List.foldl_append]
      exact S6.drop 5
    · refine sd_app (ev_varV S5 rfl) (q4.ex e5) (ed_var S5 rfl) (by simp; omega) fun H6 H7 e6 b7 L7 => ?_
      refine ⟨b7.ex ((q1.trans e5).trans e6) hl, ((S5.ex e6).tk b7.tk rfl).drop 4, b7.ls hpl ((q3.ex e5).ex e6), ?_⟩
      rw [List.range_succ, List.map_append, List.map_append]
      exact L7
  · obtain ⟨q1, q2, q3, q4⟩ := q
    refine qs_set q2 (ed_neg ed_int) fun σ3 H3 e3 S3 => ?_
    have lz : EvD (tCB (rLenS K) (tCons (tVar 3) tNil)) σ3 H3 (.i (zs.length : Int)) := ed_is (ed_lenL (er_varA S3 rfl (q3.ex e3))) (by rw [List.length_map])
    refine qs_ifset S3 (et_ed (ed_eq lz ed_int rfl rfl rfl)) (d := .i (if zs.length = 0 then -1 else -2)) (fun hb => ?_) (fun hb => ?_) fun σ4 H4 e4 S4 => ?_
    · have h0 : (zs.length : Int) = 0 := V.int.inj (of_decide_eq_true hb)
      rw [if_pos (by omega)]
      exact ed_neg ed_int
    · have h0 : ¬ zs.length = 0 := fun z => of_decide_eq_false hb (by rw [z]; rfl)
      rw [if_neg h0]
      rfl
    have P4 := (q3.ex e3).ex e4
    have lz4 : EvD (tCB (rLenS K) (tCons (tVar 3) tNil)) σ4 H4 (.i (zs.length : Int)) := ed_is (ed_lenL (er_varA S4 rfl P4)) (by rw [List.length_map])
    refine qs_ifset S4 (et_ed (ed_eq lz4 ed_int rfl rfl rfl)) (d := .i (lastOf zs)) (fun hb => ?_) (fun hb => ?_) fun σ5 H5 e5 S5 => ?_
    · have h0 : (zs.length : Int) = 1 := V.int.inj (of_decide_eq_true hb)
      match zs, h0, P4 with
      | [z], _, P4 => exact ed_ixL (er_varA S4 rfl P4) ed_int (d := .i (z : Int)) rfl
    · have h0 : ¬ zs.length = 1 := fun z => of_decide_eq_false hb (by rw [z]; rfl)
      match zs, h0 with
      | [], _ => rfl
      | [_], h0 => exact absurd rfl h0
      | _ :: _ :: _, _ => rfl
    have L5 := ((q4.ex e3).ex e4).ex e5
    refine sd_ret (ed_tupL (en_cat (er_varA S5 rfl L5) (en_lst (ds_cons (ed_var S5 rfl) ds_nil) (by simp)).r (by simp; omega)).r) fun v H6 e6 r => q v H6 ((((q1.trans e3).trans e4).trans e5).trans e6) ?_
    unfold wayOf
    rw [hzs]
    exact r
theorem scMarkL : FnScope ["_law_table", "_law_row"] ["_law_table", "_law_row"] (defScope sMarkL) := ⟨rfl, rfl, rfl, by decide +kernel, rfl, by decide +kernel, by decide +kernel⟩
theorem ok_mark {n : Nat} (B : Blt mg) (F : Df K mg "_law_mark" sMarkL f fd) (CD : Cal P w K mg base CX0 (n + 1) "_law_doc_state" ["_law_table", "_law_doc"] (spDocState n) fS fdS) : Cal P w K mg base CX0 (n + 2) "_law_mark" ["_law_table", "_law_row"] (spMark n) f fd := by
  refine F.cal (F.fn.ok scMarkL (spF_len fun _ => rfl) (fun cdv A outer s H vs Q E hr h => ?_)) fun _ _ _ _ _ _ us hl => match us, hl with | [_, _], _ => rfl
  obtain ⟨⟨M, row⟩, as, ⟨wf, hh, hz⟩, q⟩ := h
  have wf : M.Wf := wf
  have hh : hts row ≤ n := hh
  have hz : szs row ≤ 5000 := hz
  have hml : M.marks.length = M.steps.length := wf.ml
  have q : ∀ v H', Ex H H' → Rp H' v (eN (markOf M row)) → Q v H' := q
  have S := sl_start (N := ["_law_table", "_law_row"]) as
  refine ⟨_, pss_cons (ps_if (pt_cmpR op_ne (pe_callB (lenK K) (by rfl) B.len PySem.boot_len (pa_cons (pv 1) pa_nil)) pe_int (nomark _)) (pss_one (ps_ret pe_int)) pss_nil)
    (pss_one (ps_ret (pe_ix ix_tup (pe_ix ix_tup (pv 0) pe_int (fun _ _ => rfl)) (pe_cal CD hr (pa_cons (pv 0) (pa_cons (pe_ix ix_list (pv 1) pe_int (fun _ _ => rfl)) pa_nil))) (fun _ _ => rfl)))), ?_⟩
  have lz : EvD (tCB (rLenS K) (tCons (tVar 1) tNil)) (L2.start ["_law_table", "_law_row"] vs) H (.i (row.length : Int)) := ed_is (ed_lenL (er_var S rfl)) (by rw [List.length_map])
  refine q_when (et_ed (ed_ne lz ed_int rfl rfl rfl)) (fun hb H1 e1 => ?_) (fun hb H1 e1 => ?_)
  · refine sd_ret ed_int fun v H2 e2 r => q v H2 (e1.trans e2) ?_
    have h0 : ¬ row.length = 1 := fun z => by
      have hb2 := of_decide_eq_false (Bool.not_eq_true' _ ▸ hb)
      exact hb2 (by rw [z]; rfl)
    have e0 : markOf M row = 0 := by
      match row, h0 with
      | [], _ => rfl
      | [_], h0 => exact absurd rfl h0
      | _ :: _ :: _, _ => rfl
    rw [e0]
    exact r
  · have h0 : row.length = 1 := by
      have hb2 : decide (V.int (row.length : Int) = V.int 1) = true := by
        cases h : decide (V.int (row.length : Int) = V.int 1) with
        | true => rfl
        | false => rw [h] at hb; cases hb
      have := V.int.inj (of_decide_eq_true hb2)
      omega
    match row, h0, hh, hz, S, q with
    | [d], _, hh, hz, S, q =>
      have S1 := S.ex e1
      rw [hts, hts] at hh
      rw [szs, szs] at hz
      refine sd_ret (ed_ixT (ed_ixT (ed_var S1 rfl) ed_int rfl) (ed_call (M, d) (ad_d (ed_var S1 rfl) (ad_d (ed_ixL (er_var S1 rfl) ed_int rfl) ad_nil)) ⟨wf, by show d.ht ≤ n; omega, by show d.sz ≤ 5000; omega⟩) (at_eN (get_lt 0 (by rw [hml]; exact docSt_lt wf d)))) fun v H2 e2 r => q v H2 (e1.trans e2) r
end
end GF
set_option Elab.async false
set_option linter.all false
set_option maxRecDepth 100000
set_option maxHeartbeats 4000000
/-! Gf5: size, full, same. -/
namespace GF
open PySem L2 Evl
section
variable {K : PySem.W.Frag} {σ : L2.St} {H H' : Hp} {ta tb te tx : TE} {t u : TT} {ss : List Sd} {D : Ends} {tu tw tz : TS}
/-- xs.extend(ys) -/
theorem sd_ext {l : Addr} {ds es : List Dt} (ha : Ev ta σ H (.ref l)) (hl : Ls H l ds) (h : EvR te σ H es) (hz : ds.length + es.length ≤ 100000) (k : ∀ H1 H2, Ex H H1 → Bt l H1 H2 → Ls H2 l (ds ++ es) → D.nx σ H2) :
    tDrop (tBM K "list" rExtend ta (tCons te tNil)) D σ H := by
  obtain ⟨xs, h1, h2⟩ := hl
  refine ha H (Ex.refl H) _ fun H1 e1 => ⟨Or.inl ⟨rfl, xs, sq_of (e1 l _ h1)⟩, h H1 e1 _ fun p H2 e2 r => ?_⟩
  obtain ⟨ys, h3, h4⟩ := r
  have g := e2 l _ (e1 l _ h1)
  refine ⟨l, p, xs, ys, rfl, rfl, g, h3, sz_of (by rw [h2.len, h4.len]; exact hz), k H2 _ (e1.trans e2) ⟨Tk.updL g, fun b hb => upd_ne hb⟩ ⟨_, upd_same, ?_⟩⟩
  exact ((h2.ex (e1.trans e2)).app h4).mono (Tk.updL g)
theorem qd_ext {l : Addr} {ds es : List Dt} (ha : Ev ta σ H (.ref l)) (hl : Ls H l ds) (h : EvR te σ H es) (hz : ds.length + es.length ≤ 100000) (k : ∀ H1 H2, Ex H H1 → Bt l H1 H2 → Ls H2 l (ds ++ es) → tz D σ H2) :
    tSeq (tDrop (tBM K "list" rExtend ta (tCons te tNil))) tz D σ H := sd_ext (D := { D with nx := tz D }) ha hl h hz k
end
section
variable {P : Program} {w : World} {K : PySem.W.Frag} {mg : Str → Option Value} {base : Heap} {f fS fF fN fB fO : Addr} {fd fdS fdF fdN fdB fdO : FuncData}
theorem scSize : FnScope ["_law_items_here", "_law_size_here", "_law_many", "_law_item"] ["_law_items_here", "_law_size_here"] (defScope sSize) := ⟨rfl, rfl, rfl, by decide +kernel, rfl, by decide +kernel, by decide +kernel⟩
theorem ok_size1 {k n : Nat} (F : Df K mg "_law_size" sSize f fd) (C : Cal P w K mg base CX0 (k + 1) "_law_size" ["_law_items_here", "_law_size_here"] (spSize n) f fd) : Cal P w K mg base CX0 (k + 2) "_law_size" ["_law_items_here", "_law_size_here"] (spSize (n + 1)) f fd := by
  refine F.cal (F.fn.ok scSize (spF_len fun _ => rfl) (fun cdv A outer s H vs Q E hr h => ?_)) fun _ _ _ _ _ _ us hl => match us, hl with | [_, _], _ => rfl
  obtain ⟨⟨its, z⟩, as, hn, q⟩ := h
  have hn : deps its < n + 1 := hn
  have q : ∀ v H', Ex H H' → Rp H' v (.i (sizeIs z its)) → Q v H' := q
  have S := sl_start (N := ["_law_items_here", "_law_size_here", "_law_many", "_law_item"]) as
  refine ⟨_, pss_cons (ps_set (i := 2) scSize.nd rfl (Or.inl rfl) pe_int)
    (pss_cons (ps_for PassesOwn.never rfl (pi_tup (pv 0)) (pg_name (i := 3) scSize.nd rfl (Or.inl rfl))
      (pss_one (ps_if (pt_cmpR (op_eqIS K hr.units0) (pv 3) pe_str (nomark _))
        (pss_one (ps_set (i := 2) scSize.nd rfl (Or.inl rfl) (pe_op op_add (pv 2) (pv 1))))
        (pss_one (ps_set (i := 2) scSize.nd rfl (Or.inl rfl) (pe_op op_add (pe_op op_add (pv 2) pe_int) (pe_cal C hr (pa_cons (pe_ix ix_tup (pv 3) pe_int (fun _ _ => rfl)) (pa_cons (pv 1) pa_nil)))))))))
    (pss_one (ps_ret (pv 2)))), ?_⟩
  refine qs_set S ed_int fun σ1 H1 e1 S1 => ?_
  refine qs_forT (xs := its) S1 encI (ed_var S1 rfl) (fun pre => [.d (.t (its.map encI)), .d (.i z), .d (.i (sizeIs z pre)), .no]) (fun σ H S => by rw [sizeIs]; exact S) (fun pre it post σ2 H2 es e2 S2 N hN => ?_) fun σ2 H2 e2 S2 => ?_
  · have hm : it ∈ its := by rw [es]; simp
    have hd := dep_mem hm
    refine s_if (et_ed (ed_eqIS (ed_var S2 rfl) ed_str)) (fun hb H3 e3 => ?_) (fun hb H3 e3 => ?_)
    · cases it with
      | el _ _ => cases hb
      | hole =>
        refine ss_set (S2.ex e3) (ed_i0 (ed_var (S2.ex e3) rfl) (ed_var (S2.ex e3) rfl)) fun σ4 H4 e4 S4 => hN _ _ (e3.trans e4) ?_
        rw [sizeIs_app, sizeIs, sizeIs, sizeI, Int.add_zero]
        exact S4.drop 3
    · cases it with
      | hole => cases hb
      | el nm ks =>
        have hk : deps ks < n := by rw [Item.dep] at hd; omega
        have S3 := S2.ex e3
        have e4 : EvD (tVar 3) σ2 H3 (.t [.s nm, .t (ks.map encI)]) := by
          rw [← encI_el]
          exact ed_var S3 rfl
        refine ss_set S3 (ed_i0 (ed_i0 (ed_var S3 rfl) ed_int) (ed_call (ks, z) (ad_d (ed_ixT e4 ed_int rfl) (ad_d (ed_var S3 rfl) ad_nil)) hk)) fun σ4 H4 e4 S4 => hN _ _ (e3.trans e4) ?_
        rw [sizeIs_app, sizeIs, sizeIs, sizeI, Int.add_zero, ← Int.add_assoc]
        exact S4.drop 3
  · exact sd_ret (ed_var S2 rfl) fun v H3 e3 r => q v H3 ((e1.trans e2).trans e3) r
theorem ok_size (F : Df K mg "_law_size" sSize f fd) : ∀ n : Nat, Cal P w K mg base CX0 (n + 1) "_law_size" ["_law_items_here", "_law_size_here"] (spSize n) f fd
  | 0 => by
    have no : ∀ vs H Q E, ¬ spSize 0 vs H Q E := fun vs H Q E h => by
      obtain ⟨x, _, z, _⟩ := h
      exact absurd z (Nat.not_lt_zero _)
    exact F.cal ⟨fun vs H Q E h => absurd h (no vs H Q E), fun A outer s H args us vs Q E _ _ _ _ h => absurd h (no vs H Q E)⟩ fun _ _ _ _ _ _ us hl => match us, hl with | [_, _], _ => rfl
  | n + 1 => ok_size1 F (ok_size F n)
theorem scFull : FnScope ["_law_items_here", "_law_row", "_law_found", "_law_item"] ["_law_items_here", "_law_row"] (defScope sFull) := ⟨rfl, rfl, rfl, by decide +kernel, rfl, by decide +kernel, by decide +kernel⟩
theorem ok_full1 {k n : Nat} (B : Blt mg) (F : Df K mg "_law_full" sFull f fd) (C : Cal P w K mg base CX0 (k + 1) "_law_full" ["_law_items_here", "_law_row"] (spFull n) f fd) : Cal P w K mg base CX0 (k + 2) "_law_full" ["_law_items_here", "_law_row"] (spFull (n + 1)) f fd := by
  refine F.cal (F.fn.ok scFull (spN_len fun _ => rfl) (fun cdv A outer s H vs Q E hr h => ?_)) fun _ _ _ _ _ _ us hl => match us, hl with | [_, _], _ => rfl
  obtain ⟨⟨its, row⟩, as, ⟨hn, hz⟩, q⟩ := h
  have hn : deps its < n + 1 := hn
  have hz : szs (fullIs row its) ≤ 5000 := hz
  have q : ∀ p H', H p = none → Ex H H' → Ls H' p ((fullIs row its).map encC) → Q (.ref p) H' := q
  have S := sl_start (N := ["_law_items_here", "_law_row", "_law_found", "_law_item"]) as
  refine ⟨_, pss_cons (ps_set (i := 2) scFull.nd rfl (Or.inl rfl) (pe_lst pa_nil))
    (pss_cons (ps_for PassesOwn.never rfl (pi_tup (pv 0)) (pg_name (i := 3) scFull.nd rfl (Or.inl rfl))
      (pss_one (ps_if (pt_cmpR (op_eqIS K hr.units0) (pv 3) pe_str (nomark _))
        (pss_one (ps_expr (pe_bm PySem.F.plainAttrs_list PySem.F.slot_list_extend PySem.F.type_list_extend mt_extend (pv 2) (pa_cons (pv 1) pa_nil))))
        (pss_one (ps_expr (pe_bm PySem.F.plainAttrs_list PySem.F.slot_list_append PySem.F.type_list_append mt_append (pv 2) (pa_cons (pe_tup (pa_cons (pe_ix ix_tup (pv 3) pe_int (fun _ _ => rfl)) (pa_cons
          (pe_callTy (tupK K) (by rfl) B.tuple (by decide +kernel) (pa_cons (pe_cal C hr (pa_cons (pe_ix ix_tup (pv 3) pe_int (fun _ _ => rfl)) (pa_cons (pv 1) pa_nil))) pa_nil)) pa_nil))) pa_nil)))))))
    (pss_one (ps_ret (pv 2)))), ?_⟩
  obtain ⟨a, La, S⟩ := S.openL (i := 1) rfl
  refine qs_setN S (en_lst ds_nil (by simp)) fun l σ1 H1 hl e1 L1 S1 => ?_
  have hal : a ≠ l := La.ne hl
  refine qd_forT (xs := its) encI (ed_var S1 rfl) (fun H2 pre σ' H' => Tk H2 H' ∧ Ex H H' ∧ Sl H' σ' [.d (.t (its.map encI)), .v (.ref a), .v (.ref l), .no] ∧ Ls H' l ((fullIs row pre).map encC))
    (fun H2 e2 => ⟨Tk.refl _, e1.trans e2, S1.ex e2, by rw [fullIs]; exact L1.ex e2⟩) (fun H2 pre σ' H' p => p.1) (fun H2 pre it post x σ' H' e2 es p r => ?_) fun H2 σ' H' e2 p => ?_
  · obtain ⟨p1, p2, p3, p4⟩ := p
    have hm : it ∈ its := by rw [es]; simp
    have hd := dep_mem hm
    have S2 := p3.setD 3 r
    have ez : szs (fullIs row its) = szs (fullIs row pre) + (szs (fullI row it) + szs (fullIs row post)) := by rw [es, fullIs_app, szs_app, fullIs, szs_app]
    have l1 := szs_len (fullIs row pre)
    have l2 := szs_len (fullI row it)
    refine s_if (et_ed (ed_eqIS (ed_var S2 rfl) ed_str)) (fun hb H3 e3 => ?_) (fun hb H3 e3 => ?_)
    · cases it with
      | el _ _ => cases hb
      | hole =>
        rw [fullI] at ez l2
        have S3 := S2.ex e3
        refine sd_ext (ev_varV S3 rfl) (p4.ex e3) (er_varA S3 rfl (La.ex (p2.trans e3))) (by simp; omega) fun H4 H5 e4 b5 L5 => ⟨(p1.trans (Tk.ex (e3.trans e4))).trans b5.tk, b5.ex ((p2.trans e3).trans e4) hl, ((S3.ex e4).tk b5.tk rfl).drop 3, ?_⟩
        rw [fullIs_app, fullIs, fullIs, fullI, List.append_nil, List.map_append]
        exact L5
    · cases it with
      | hole => cases hb
      | el nm ks =>
        have hk : deps ks < n := by rw [Item.dep] at hd; omega
        rw [fullI, szs, szs, Doc.sz] at ez
        have S3 := S2.ex e3
        have e4 : EvD (tVar 3) (σ'.set 3 (some x)) H3 (.t [.s nm, .t (ks.map encI)]) := by
          rw [← encI_el]
          exact ed_var S3 rfl
        refine sd_app (ev_varV S3 rfl) (p4.ex e3) (ed_tup (ds_cons (ed_ixT e4 ed_int rfl) (ds_cons (ed_tupL (en_call (ks, row) (ad_d (ed_ixT e4 ed_int rfl) (ad_l (er_varA S3 rfl (La.ex (p2.trans e3))) ad_nil)) ⟨hk, by show szs (fullIs row ks) ≤ 5000; omega⟩).r) ds_nil)) (by simp)) (by simp; omega)
          fun H4 H5 e4 b5 L5 => ⟨(p1.trans (Tk.ex (e3.trans e4))).trans b5.tk, b5.ex ((p2.trans e3).trans e4) hl, ((S3.ex e4).tk b5.tk rfl).drop 3, ?_⟩
        rw [fullIs_app, fullIs, fullIs, fullI, List.append_nil, List.map_append, List.map_singleton, encC_mk]
        exact L5
  · obtain ⟨p1, p2, p3, p4⟩ := p
    exact ev_varV p3 rfl H' (Ex.refl H') _ fun H3 e3 => q l H3 hl (p2.trans e3) (p4.ex e3)
theorem ok_full (B : Blt mg) (F : Df K mg "_law_full" sFull f fd) : ∀ n : Nat, Cal P w K mg base CX0 (n + 1) "_law_full" ["_law_items_here", "_law_row"] (spFull n) f fd
  | 0 => by
    have no : ∀ vs H Q E, ¬ spFull 0 vs H Q E := fun vs H Q E h => by
      obtain ⟨x, _, ⟨z, _⟩, _⟩ := h
      exact absurd z (Nat.not_lt_zero _)
    exact F.cal ⟨fun vs H Q E h => absurd h (no vs H Q E), fun A outer s H args us vs Q E _ _ _ _ h => absurd h (no vs H Q E)⟩ fun _ _ _ _ _ _ us hl => match us, hl with | [_, _], _ => rfl
  | n + 1 => ok_full1 B F (ok_full B F n)
end
/-! ### the same -/
mutual
def plainD : Dt → Bool
  | .i _ => true
  | .s _ => true
  | .t l => plainDs l
  | _ => false
def plainDs : List Dt → Bool
  | [] => true
  | x :: r => plainD x && plainDs r
end
mutual
def dpD : Dt → Nat
  | .t l => dpDs l + 1
  | _ => 0
def dpDs : List Dt → Nat
  | [] => 0
  | x :: r => max (dpD x) (dpDs r)
end
theorem plain_mem : ∀ {l : List Dt} {x : Dt}, plainDs l = true → x ∈ l → plainD x = true
  | y :: r, x, h, hx => by
    rw [plainDs, Bool.and_eq_true] at h
    rcases List.mem_cons.mp hx with e | e
    · rw [e]; exact h.1
    · exact plain_mem h.2 e
theorem dp_mem : ∀ {l : List Dt} {x : Dt}, x ∈ l → dpD x ≤ dpDs l
  | y :: r, x, h => by
    rw [dpDs]
    rcases List.mem_cons.mp h with e | e
    · subst e; exact Nat.le_max_left _ _
    · exact Nat.le_trans (dp_mem e) (Nat.le_max_right _ _)
section
variable {X : Cx}
theorem pgTup (K : PySem.W.Frag) {es : List Expr} {k : Nat} {t : TGs} {n : Nat} {pos : Pos} (hc : X.calm = true) (h : PGs X es t) (hK : X.K = K := by rfl)
    (hn : (assignEach es X.env).length = n := by rfl) (hst : (assignEach es X.env).findIdx? (·.1) = none := by rfl) : PG X (.Tuple es k pos) (gTup K n t) := hK ▸ pg_tup hc h hn hst
theorem isiK (K : PySem.W.Frag) (h : X.K = K := by rfl) : CallR X (.builtin "isinstance") (rIsi K) := h ▸ call_isi
theorem zipK (K : PySem.W.Frag) {e e2 : Expr} {ta : TA} {p pos tpos : Pos} {elts : List Expr} {kk : Nat} (hm : X.mg "zip" = none) (ha : PA X [e, e2] ta) (hK : X.K = K := by rfl) (hg : Gl X "zip" := by rfl)
    (hs : starEach [e, e2] X.env = (false, eval e X.env) :: starEach [e2] X.env := by rfl) (hpl : (backTo pos (starEach [e2] X.env)).any (·.1) = false := by rfl) :
    PI X (.Tuple elts kk tpos) (.Call (.Name "zip" p) [e, e2] [] pos) (RZ.iZipA K ta) := hK ▸ RZ.pi_zipA hg hm ha hs hpl
end
section
variable {K : PySem.W.Frag} {σ : L2.St} {H H' : Hp} {ta tb te tx : TE}
/-- a value's type -/
def tyD : Dt → String
  | .n => "NoneType"
  | .b _ => "bool"
  | .i _ => "int"
  | .s _ => "str"
  | .t _ => "tuple"
  | .f _ => "tuple"
theorem tyx {v : V} {d : Dt} (r : Rp H v d) : TyX K H v (.type (tyD d)) := by
  cases r with
  | n => exact .base .non
  | b x => exact .base (.bl x)
  | i x => exact .base (.int x)
  | s x => exact .base (.str x)
  | t h _ => exact .base (.tup h)
  | f h _ _ _ => exact .fTuple h
theorem ed_isi (T : String) {d : Dt} {c : String} {b : Bool} (ha : EvD ta σ H d) (hk : kitB T c = some b) (ht : tyD d = T := by rfl) : EvD (tCB (rIsi K) (tCons ta (tCons (tC (.ty c)) tNil))) σ H (.b b) := fun H1 e _ q =>
  ha H1 e _ fun v H2 e2 r => ⟨v, .ty c, _, .type c, b, rfl, .ty c, tyx r, kit_ty (by rw [ht]; exact hk), q _ H2 e2 (.b b)⟩
theorem ed_andV {a b : Bool} (h1 : EvD ta σ H (.b a)) (h2 : a = true → EvD tb σ H (.b b)) : EvD (tAndV ta tb) σ H (.b (a && b)) := ed_ev (ev_andV (ev_bl h1) fun z => ev_bl (h2 z)) fun _ _ => .b _
theorem ed_notV {a : Bool} (h1 : EvD ta σ H (.b a)) : EvD (tNotV ta) σ H (.b (!a)) := ed_ev (ev_notV (ev_bl h1)) fun _ _ => .b _
theorem wipe2 (σ : L2.St) {j k : Nat} (h : j ≠ k) (x y : Option V) : wipe (((wipe σ [j, k]).set j x).set k y) [j, k] = wipe σ [j, k] := by
  show ((((σ.set k none).set j none).set j x).set k y |>.set k none).set j none = (σ.set k none).set j none
  rw [List.set_set, List.set_set, List.set_comm _ _ (Ne.symm h), List.set_set, List.set_comm _ _ h, List.set_set]
/-- [e for a, b in zip(x, y)] over two tuples alike -/
theorem en_zip {j k : Nat} (hjk : j ≠ k) {tr : TA} {ds : List Dt} (g : Dt → Dt) (h : EvDs tr σ H [.t ds, .t ds]) (hn : ds.length ≤ 40000)
    (he : ∀ d ∈ ds, ∀ x y H1, Ex H H1 → Rp H1 x d → Rp H1 y d → EvD te (((wipe σ [j, k]).set j (some x)).set k (some y)) H1 (g d)) :
    EvN (tLc (RZ.iZipA K tr) (gTup K 2 (gCons (gName j) (gCons (gName k) gNil))) tYes te [j, k]) σ H (ds.map g) := fun H0 e Q q => h H0 e _ fun vs H1 e1 r => by
  cases r with
  | cons r1 rr =>
  cases rr with
  | cons r2 rr =>
  cases rr
  obtain ⟨a, xs, rfl, ha, hx⟩ := r1.tup
  obtain ⟨b, ys, rfl, hb, hy⟩ := r2.tup
  refine ⟨a, b, xs, ys, rfl, Or.inr ⟨st_of ha, st_of hb, fun Dl hD => ?_⟩⟩
  refine ⟨fun i m H' => m = ds.length - i ∧ i ≤ ds.length ∧ Cd H1 Dl ((ds.take i).map g) H', ⟨ds.length, by simp, Nat.zero_le _, hD, Ex.new hD, [], upd_same, .nil⟩, ?_⟩
  rintro i m H' ⟨rfl, hi, p⟩
  have qa : SqT K H' a xs := st_of (p.2.1 _ _ ha)
  have qb : SqT K H' b ys := st_of (p.2.1 _ _ hb)
  by_cases hlt : i < ds.length
  · have hd : ds[i]? = some ds[i] := List.getElem?_eq_getElem hlt
    obtain ⟨x, hx1, rx⟩ := hx.get hd
    obtain ⟨y, hy1, ry⟩ := hy.get hd
    refine .inr ⟨⟨xs, ys, x, y, qa, qb, hx1, hy1⟩, fun H'' => Cd H1 Dl ((ds.take (i + 1)).map g) H'', fun H'' c => ⟨ds.length - (i + 1), by omega, rfl, hlt, c⟩, fun v H'' hv => ?_⟩
    obtain ⟨T, x', y', rfl, hT, rfl, f1, f2⟩ := hv
    have ex : x' = x := Option.some.inj ((f1 xs qa).symm.trans hx1)
    have ey : y' = y := Option.some.inj ((f2 ys qb).symm.trans hy1)
    subst ex ey
    have eT : Ex H' (upd H' T (.tup [x', y'])) := Ex.new hT
    refine ⟨T, [x', y'], rfl, st_of upd_same, rfl, x', [y'], rfl, y', [], rfl, rfl, ?_⟩
    have p' : Cd H1 Dl ((ds.take i).map g) (upd H' T (.tup [x', y'])) := ⟨p.1, p.2.1.trans eT, p.2.2.ex eT⟩
    refine ⟨wipe2 σ hjk _ _, cd_turn p' (by rw [List.length_map, List.length_take]; omega) (he ds[i] (List.getElem_mem hlt) x' y' _ ((e.trans e1).trans p'.2.1) (rx.ex p'.2.1) (ry.ex p'.2.1)) fun H5 c => ?_⟩
    rw [List.take_add_one, hd, List.map_append]
    exact c
  · have e0 : i = ds.length := by omega
    subst e0
    refine .inl ⟨⟨xs, ys, qa, qb, .inl (by rw [hx.len]; exact Nat.le_refl _)⟩, ?_⟩
    rw [List.take_length] at p
    exact q Dl H' (fresh_back e1 p.1) (e1.trans p.2.1) p.2.2
theorem ed_all {bs : List Bool} (ha : EvR ta σ H (bs.map .b)) : EvD (tCB (rAll K) (tCons ta tNil)) σ H (.b (bs.all id)) := fun H1 e _ q =>
  ha H1 e _ fun p H2 e2 r => by
    obtain ⟨xs, h1, h2⟩ := r
    have e3 := h2.bls
    subst e3
    exact ⟨p, bs, rfl, sq_of h1, q _ H2 e2 (.b _)⟩
end
mutual
def wideD : Dt → Bool
  | .t l => decide (l.length ≤ 40000) && wideDs l
  | _ => true
def wideDs : List Dt → Bool
  | [] => true
  | x :: r => wideD x && wideDs r
end
theorem wide_mem : ∀ {l : List Dt} {x : Dt}, wideDs l = true → x ∈ l → wideD x = true
  | y :: r, x, h, hx => by
    rw [wideDs, Bool.and_eq_true] at h
    rcases List.mem_cons.mp hx with e | e
    · rw [e]; exact h.1
    · exact wide_mem h.2 e
def spSame (n : Nat) : Sp := spF (fun d : Dt => [.d d, .d d]) (fun d => plainD d = true ∧ wideD d = true ∧ dpD d < n) (fun _ => .b true)
section
variable {P : Program} {w : World} {K : PySem.W.Frag} {mg : Str → Option Value} {base : Heap} {f fS fF fN fB fO : Addr} {fd fdS fdF fdN fdB fdO : FuncData}
theorem scSame : FnScope ["_law_found", "_law_due", "_law_a", "_law_b"] ["_law_found", "_law_due"] (defScope sSame) := ⟨rfl, rfl, rfl, by decide +kernel, rfl, by decide +kernel, by decide +kernel⟩
theorem ok_same1 {k n : Nat} (B : Blt mg) (F : Df K mg "_law_same" sSame f fd) (C : Cal P w K mg base CX0 (k + 1) "_law_same" ["_law_found", "_law_due"] (spSame n) f fd) : Cal P w K mg base CX0 (k + 2) "_law_same" ["_law_found", "_law_due"] (spSame (n + 1)) f fd := by
  refine F.cal (F.fn.ok scSame (spF_len fun _ => rfl) (fun cdv A outer s H vs Q E hr h => ?_)) fun _ _ _ _ _ _ us hl => match us, hl with | [_, _], _ => rfl
  obtain ⟨d, as, ⟨hp, hw, hd⟩, q⟩ := h
  have hp : plainD d = true := hp
  have hw : wideD d = true := hw
  have hd : dpD d < n + 1 := hd
  have q : ∀ v H', Ex H H' → Rp H' v (.b true) → Q v H' := q
  have S := sl_start (N := ["_law_found", "_law_due", "_law_a", "_law_b"]) as
  refine ⟨_, pss_cons (ps_if (pt_val (pe_callB (isiK K) (by rfl) B.isinstance (by decide +kernel) (pa_cons (pv 1) (pa_cons (pe_bltn (v := .ty "tuple") (by rfl) B.tuple (by decide +kernel) rfl) pa_nil))))
      (pss_cons (ps_if (PW.pt (pw_or (pt_not (pt_val (pe_callB (isiK K) (by rfl) B.isinstance (by decide +kernel) (pa_cons (pv 0) (pa_cons (pe_bltn (v := .ty "tuple") (by rfl) B.tuple (by decide +kernel) rfl) pa_nil)))))
          (pw_or1 (pt_cmpR op_ne (pe_callB (lenK K) (by rfl) B.len PySem.boot_len (pa_cons (pv 0) pa_nil)) (pe_callB (lenK K) (by rfl) B.len PySem.boot_len (pa_cons (pv 1) pa_nil)) (nomark _)))))
        (pss_one (ps_ret pe_bl)) pss_nil)
      (pss_one (ps_ret (pe_callB (cr_all rfl) (by rfl) B.all (by decide +kernel) (pa_cons
        (pe_lc (own := [("_law_a", 2), ("_law_b", 3)]) (g := gTup K 2 (gCons (gName 2) (gCons (gName 3) gNil))) (tt := tYes) rfl scSame.nd (zipK K B.zip (pa_cons (pv 0) (pa_cons (pv 1) pa_nil))) (blkOk_by (N := ["_law_found", "_law_due", "_law_a", "_law_b"]) (sc := defScope sSame) (by decide +kernel))
          (fun _ _ _ _ _ => pgTup K (n := 2) rfl (pgs_cons (pg_name (i := 2) scSame.nd rfl (Or.inl rfl)) (pgs_cons (pg_name (i := 3) scSame.nd rfl (Or.inl rfl)) pgs_nil))) (fun _ _ _ _ _ => pts_nil)
          (fun _ _ _ _ _ => pe_cal C hr (pa_cons (pv 2) (pa_cons (pv 3) pa_nil)))) pa_nil))))) pss_nil)
    (pss_cons (ps_if (pt_val (pe_callB (isiK K) (by rfl) B.isinstance (by decide +kernel) (pa_cons (pv 1) (pa_cons (pe_bltn (v := .ty "str") (by rfl) B.str (by decide +kernel) rfl) pa_nil))))
      (pss_one (ps_ret (pe_and (pe_callB (isiK K) (by rfl) B.isinstance (by decide +kernel) (pa_cons (pv 0) (pa_cons (pe_bltn (v := .ty "str") (by rfl) B.str (by decide +kernel) rfl) pa_nil))) (pe_one (pe_cmpR op_eq (pv 0) (pv 1) (nomark _)))))) pss_nil)
    (pss_one (ps_ret (pe_and (pe_callB (isiK K) (by rfl) B.isinstance (by decide +kernel) (pa_cons (pv 0) (pa_cons (pe_bltn (v := .ty "int") (by rfl) B.int (by decide +kernel) rfl) pa_nil)))
      (pe_and (pe_not (pe_callB (isiK K) (by rfl) B.isinstance (by decide +kernel) (pa_cons (pv 0) (pa_cons (pe_bltn (v := .ty "bool") (by rfl) B.bool (by decide +kernel) rfl) pa_nil))))
        (pe_one (pe_cmpR op_eq (pv 0) (pv 1) (nomark _)))))))), ?_⟩
  cases d with
  | n => simp [plainD] at hp
  | b x => simp [plainD] at hp
  | f l => simp [plainD] at hp
  | t l =>
    rw [plainD] at hp
    rw [wideD, Bool.and_eq_true, decide_eq_true_eq] at hw
    rw [dpD] at hd
    refine q_when (b := true) (et_edB (ed_isi "tuple" (ed_var S rfl) (by decide +kernel))) (fun _ H1 e1 => ?_) (fun z => nomatch z)
    have S1 := S.ex e1
    refine q_when (b := false) ?_ (fun z => nomatch z) (fun _ H2 e2 => ?_)
    · refine et_is (et_or (a := false) (b := false) (et_is (et_not (a := true) (et_edB (ed_isi "tuple" (ed_var S1 rfl) (by decide +kernel)))) rfl) fun _ => ?_) rfl
      refine et_is (et_ed (ed_ne (ed_lenT (ed_var S1 rfl)) (ed_lenT (ed_var S1 rfl)) rfl rfl rfl)) ?_
      rw [decide_eq_true rfl]; rfl
    · have S2 := S1.ex e2
      refine sd_ret (ed_is (ed_all (bs := l.map fun _ => true) (er_is (en_zip (j := 2) (k := 3) (by decide) (fun _ => .b true) (ds_cons (ed_var S2 rfl) (ds_cons (ed_var S2 rfl) ds_nil)) hw.1 (fun d hm x y H3 e3 rx ry => ?_)).r (by rw [List.map_map]; rfl))) (by congr 1; simp)) fun v H3 e3 r => q v H3 ((e1.trans e2).trans e3) r
      have S3 : Sl H3 (((wipe (L2.start ["_law_found", "_law_due", "_law_a", "_law_b"] vs) [2, 3]).set 2 (some x)).set 3 (some y)) [.d (.t l), .d (.t l), .d d, .d d] := ((((S2.ex e3).setN 3 none).setN 2 none).setD 2 rx).setD 3 ry
      have h1 := dp_mem hm
      exact ed_call d (ad_d (ed_var S3 rfl) (ad_d (ed_var S3 rfl) ad_nil)) ⟨plain_mem hp hm, wide_mem hw.2 hm, by show dpD d < n; omega⟩
  | s x =>
    refine q_when (b := false) (et_edB (ed_isi "str" (ed_var S rfl) (by decide +kernel))) (fun z => nomatch z) (fun _ H1 e1 => ?_)
    have S1 := S.ex e1
    refine q_when (b := true) (et_edB (ed_isi "str" (ed_var S1 rfl) (by decide +kernel))) (fun _ H2 e2 => ?_) (fun z => nomatch z)
    have S2 := S1.ex e2
    exact sd_ret (ed_is (ed_andV (a := true) (ed_isi "str" (ed_var S2 rfl) (by decide +kernel)) fun _ => ed_eq (ed_var S2 rfl) (ed_var S2 rfl) rfl rfl rfl) (by rw [decide_eq_true rfl]; rfl)) fun v H3 e3 r => q v H3 ((e1.trans e2).trans e3) r
  | i x =>
    refine q_when (b := false) (et_edB (ed_isi "int" (ed_var S rfl) (by decide +kernel))) (fun z => nomatch z) (fun _ H1 e1 => ?_)
    have S1 := S.ex e1
    refine q_when (b := false) (et_edB (ed_isi "int" (ed_var S1 rfl) (by decide +kernel))) (fun z => nomatch z) (fun _ H2 e2 => ?_)
    have S2 := S1.ex e2
    refine sd_ret (ed_is (ed_andV (a := true) (ed_isi "int" (ed_var S2 rfl) (by decide +kernel)) fun _ => ed_andV (a := true) (ed_is (ed_notV (a := false) (ed_isi "int" (ed_var S2 rfl) (by decide +kernel))) rfl) fun _ => ed_eq (ed_var S2 rfl) (ed_var S2 rfl) rfl rfl rfl) (by rw [decide_eq_true rfl]; rfl)) fun v H3 e3 r => q v H3 ((e1.trans e2).trans e3) r
theorem ok_same (B : Blt mg) (F : Df K mg "_law_same" sSame f fd) : ∀ n : Nat, Cal P w K mg base CX0 (n + 1) "_law_same" ["_law_found", "_law_due"] (spSame n) f fd
  | 0 => by
    have no : ∀ vs H Q E, ¬ spSame 0 vs H Q E := fun vs H Q E h => by
      obtain ⟨x, _, ⟨_, _, z⟩, _⟩ := h
      exact absurd z (Nat.not_lt_zero _)
    exact F.cal ⟨fun vs H Q E h => absurd h (no vs H Q E), fun A outer s H args us vs Q E _ _ _ _ h => absurd h (no vs H Q E)⟩ fun _ _ _ _ _ _ us hl => match us, hl with | [_, _], _ => rfl
  | n + 1 => ok_same1 B F (ok_same B F n)
end
end GF
set_option Elab.async false
set_option linter.all false
set_option maxRecDepth 100000
set_option maxHeartbeats 4000000
/-! Gf6: what the law draws: cells, tapes, numbers off a tape. -/
namespace GF
open PySem L2 Evl
/-! ### some int -/
def EvI (te : TE) (σ : L2.St) (H : Hp) (P : Int → Prop) : Prop := ∀ H1, Ex H H1 → ∀ Q : VK, (∀ z H2, P z → Ex H1 H2 → Q (.int z) H2) → te σ H1 Q
/-- a tape: a list of ints -/
def Tp (H : Hp) (l : Addr) : Prop := ∃ ns : List Int, H l = some (.lst (ns.map V.int))
theorem Tp.ex {H H' : Hp} {l : Addr} (e : Ex H H') (t : Tp H l) : Tp H' l := let ⟨ns, h⟩ := t; ⟨ns, e l _ h⟩
/-- all but l stays -/
def Exb (l : Addr) (H H' : Hp) : Prop := ∀ b o, b ≠ l → H b = some o → H' b = some o
theorem Exb.refl (l : Addr) (H : Hp) : Exb l H H := fun _ _ _ h => h
theorem Exb.trans {l : Addr} {H H1 H2 : Hp} (a : Exb l H H1) (b : Exb l H1 H2) : Exb l H H2 := fun x o n h => b x o n (a x o n h)
theorem Exb.of {l : Addr} {H H' : Hp} (e : Ex H H') : Exb l H H' := fun b o _ h => e b o h
theorem Exb.bt {l : Addr} {H H' : Hp} (b : Bt l H H') : Exb l H H' := fun a o n h => by rw [b.bt a n]; exact h
theorem Exb.ex {l : Addr} {H0 H H' : Hp} (x : Exb l H H') (e : Ex H0 H) (n : H0 l = none) : Ex H0 H' := fun b o h => x b o (ne_of_none h n) (e b o h)
theorem Exb.tk {l : Addr} {H H' : Hp} (x : Exb l H H') (t : Tp H l) : Tk H H' := fun a o i h => x a o (fun z => by
  obtain ⟨ns, g⟩ := t
  rw [z, g] at h
  cases h
  cases i) h
theorem Exb.ls {l a : Addr} {H H' : Hp} {ds : List Dt} (x : Exb l H H') (t : Tp H l) (n : a ≠ l) (s : Ls H a ds) : Ls H' a ds := let ⟨xs, h, r⟩ := s; ⟨xs, x a _ n h, r.mono (x.tk t)⟩
theorem Tp.ne {H : Hp} {l p : Addr} (t : Tp H l) (h : H p = none) : l ≠ p := fun z => by
  obtain ⟨ns, g⟩ := t
  rw [z, h] at g
  cases g
theorem Ls.tp {H : Hp} {l : Addr} {ns : List Int} (s : Ls H l (ns.map .i)) : Tp H l := let ⟨xs, h, r⟩ := s; ⟨ns, by rw [h, r.ints]⟩
/-- drawn with a tape at l -/
def EvX (l : Addr) (te : TE) (σ : L2.St) (H : Hp) (P : Dt → Prop) : Prop := ∀ H1, Exb l H H1 → Tp H1 l → ∀ Q : VK, (∀ v d H2, P d → Exb l H1 H2 → Tp H2 l → Rp H2 v d → Q v H2) → te σ H1 Q
section
variable {K : PySem.W.Frag} {σ : L2.St} {H H' : Hp} {ta tb te tx : TE} {t u : TT} {ss : List Sd} {D : Ends} {tu tw tz : TS} {l : Addr}
theorem EvD.evI {x : Int} (h : EvD te σ H (.i x)) : EvI te σ H (fun z => z = x) := fun H1 e Q q => h H1 e Q fun v H2 e2 r => by rw [r.int]; exact q x H2 rfl e2
theorem ex_of {d : Dt} (h : ∀ H1, Exb l H H1 → Tp H1 l → EvD te σ H1 d) : EvX l te σ H (fun x => x = d) := fun H1 x t Q q => h H1 x t H1 (Ex.refl H1) Q fun v H2 e r => q v d H2 rfl (.of e) (t.ex e) r
theorem ex_weak {P P' : Dt → Prop} (h : EvX l te σ H P) (k : ∀ d, P d → P' d) : EvX l te σ H P' := fun H1 x t Q q => h H1 x t Q fun v d H2 p => q v d H2 (k d p)
theorem sd_appI {Pz : Int → Prop} {ds : List Dt} (ha : Ev ta σ H (.ref l)) (hl : Ls H l ds) (h : EvI te σ H Pz) (hz : ds.length < 100000) (k : ∀ z H1 H2, Pz z → Ex H H1 → Bt l H1 H2 → Ls H2 l (ds ++ [.i z]) → D.nx σ H2) :
    tDrop (tBM K "list" rAppend ta (tCons te tNil)) D σ H := by
  obtain ⟨xs, h1, h2⟩ := hl
  refine ha H (Ex.refl H) _ fun H1 e1 => ⟨Or.inl ⟨rfl, xs, sq_of (e1 l _ h1)⟩, h H1 e1 _ fun z H2 pz e2 => ?_⟩
  have g := e2 l _ (e1 l _ h1)
  refine ⟨l, xs, .int z, rfl, rfl, g, sz_lt (by rw [h2.len]; exact hz), k z H2 _ pz (e1.trans e2) ⟨Tk.updL g, fun b hb => upd_ne hb⟩ ⟨_, upd_same, ?_⟩⟩
  exact (((h2.ex (e1.trans e2)).app (.one (.i z)))).mono (Tk.updL g)
/-! ### the defs' promises -/
def cellV (ns : List Int) (k : Int) : Int := ns.getD k.toNat 0
def spCellAt (K : PySem.W.Frag) : Sp := fun vs H Q _ => ∃ (a : Addr) (ns : List Int) (k : Int), vs = [.ref a, .int k] ∧ SqL K H a (ns.map V.int) ∧ 0 ≤ k ∧ ∀ H', Ex H H' → Q (.int (cellV ns k)) H'
def spMix : Sp := fun vs H Q _ => ∃ (c k : Int), vs = [.int c, .int k] ∧ 0 ≤ k ∧ k ≤ 1000 ∧ ∀ z H', Ex H H' → Q (.int z) H'
def spTape : Sp := fun vs H Q _ => ∃ (c m : Int), vs = [.int c, .int m] ∧ 0 ≤ m ∧ m ≤ 1000 ∧ ∀ p H', H p = none → Ex H H' → Tp H' p → Q (.ref p) H'
def spNext : Sp := fun vs H Q _ => ∃ (l : Addr) (m : Nat), vs = [.ref l, .int (m : Int)] ∧ Tp H l ∧ 0 < m ∧ ∀ (r : Nat) H', r < m → Exb l H H' → Tp H' l → Q (.int (r : Int)) H'
theorem ed_cell {a : Addr} {i : Nat} {ns : List Int} {k : Int} {E : XK} (S : Sl H σ ss) (h : ss[i]? = some (.v (.ref a))) (q : SqL K H a (ns.map V.int)) (hk : EvD te σ H (.i k)) (h0 : 0 ≤ k) : EvD (tCall (spCellAt K) [] E (tCons (tVar i) (tCons te tNil))) σ H (.i (cellV ns k)) := fun H1 e Q qq =>
  (ea_cons (ev_varV S h) (ea_cons (ev_int hk) ea_nil)) H1 e _ fun H2 e2 => ⟨a, ns, k, rfl, ex_l (e.trans e2) q, h0, fun H' e4 => qq _ _ (e2.trans e4) (.i _)⟩
theorem ei_mix {c k : Int} {E : XK} (hc : EvD ta σ H (.i c)) (hk : EvD tb σ H (.i k)) (h0 : 0 ≤ k) (h1 : k ≤ 1000) : EvI (tCall spMix [] E (tCons ta (tCons tb tNil))) σ H (fun _ => True) := fun H1 e Q q =>
  (ea_cons (ev_int hc) (ea_cons (ev_int hk) ea_nil)) H1 e _ fun H2 e2 => ⟨c, k, rfl, h0, h1, fun z H' e3 => q z H' trivial (e2.trans e3)⟩
/-- a new tape -/
def EvT1 (te : TE) (σ : L2.St) (H : Hp) : Prop := ∀ H1, Ex H H1 → ∀ Q : VK, (∀ p H2, H1 p = none → Ex H1 H2 → Tp H2 p → Q (.ref p) H2) → te σ H1 Q
theorem et_tape {c : Int} {m : Nat} {E : XK} (hc : EvD ta σ H (.i c)) (hm : EvD tb σ H (.i (m : Int))) (h : m ≤ 1000) : EvT1 (tCall spTape [] E (tCons ta (tCons tb tNil))) σ H := fun H1 e Q q =>
  (ea_cons (ev_int hc) (ea_cons (ev_int hm) ea_nil)) H1 e _ fun H2 e2 => ⟨c, m, rfl, by omega, by omega, fun p H' hp e4 t => q p H' (fresh_back e2 hp) (e2.trans e4) t⟩
theorem qt_set {i : Nat} (S : Sl H σ ss) (h : EvT1 te σ H) (k : ∀ p σ' H1, H p = none → Ex H H1 → Tp H1 p → Sl H1 σ' (ss.set i (.v (.ref p))) → tz D σ' H1) : tSeq (tAsg te (gName i)) tz D σ H := h H (Ex.refl H) _ fun p H1 hp e t => k p _ H1 hp e t ((S.ex e).setV i _)
/-- a number off the tape -/
theorem ex_next {i m : Nat} {E : XK} (h : ∀ H1, Exb l H H1 → Tp H1 l → Ev (tVar i) σ H1 (.ref l)) (hm : ∀ H1, Exb l H H1 → Tp H1 l → EvD te σ H1 (.i (m : Int))) (h0 : 0 < m) : EvX l (tCall spNext [] E (tCons (tVar i) (tCons te tNil))) σ H (fun d => ∃ r : Nat, r < m ∧ d = eN r) := fun H1 x t Q q =>
  (ea_cons (h H1 x t) (ea_cons (ev_int (hm H1 x t)) ea_nil)) H1 (Ex.refl H1) _ fun H2 e2 => ⟨l, m, rfl, t.ex e2, h0, fun r H' hr x4 t4 => q _ _ _ ⟨r, hr, rfl⟩ ((Exb.of e2).trans x4) t4 (.i _)⟩
end
theorem Txb {l : Addr} {H H' : Hp} {σ : L2.St} {ss : List Sd} (x : Exb l H H') (t : Tp H l) (S : Sl H σ ss) (n : ss.all Sd.noL = true) : Sl H' σ ss := S.tk (x.tk t) n
section
variable {P : Program} {w : World} {K : PySem.W.Frag} {mg : Str → Option Value} {base : Heap} {f fS fF fN fB fO : Addr} {fd fdS fdF fdN fdB fdO : FuncData}
theorem scCellAt : FnScope ["_law_script", "_law_k"] ["_law_script", "_law_k"] (defScope sCellAt) := ⟨rfl, rfl, rfl, by decide +kernel, rfl, by decide +kernel, by decide +kernel⟩
theorem ok_cell_at (B : Blt mg) (F : Df K mg "_law_cell_at" sCellAt f fd) : Cal P w K mg base CX0 1 "_law_cell_at" ["_law_script", "_law_k"] (spCellAt K) f fd := by
  refine F.cal (F.fn.ok scCellAt (fun vs H Q E h => ?_) (fun cdv A outer s H vs Q E hr h => ?_)) fun _ _ _ _ _ _ us hl => match us, hl with | [_, _], _ => rfl
  · obtain ⟨a, ns, k, rfl, _⟩ := h
    rfl
  obtain ⟨a, ns, k, rfl, hS, h0, q⟩ := h
  refine ⟨_, pss_cons (ps_if (pt_cmpR op_lt (pv 1) (pe_callB (lenK K) (by rfl) B.len PySem.boot_len (pa_cons (pv 0) pa_nil)) (nomark _)) (pss_one (ps_ret (pe_ix ix_list (pv 0) (pv 1) (fun _ _ => rfl)))) pss_nil)
    (pss_one (ps_ret pe_int)), ?_⟩
  refine ⟨_, rfl, _, rfl, a, _, rfl, .inl hS, _, _, rfl, rfl, _, rfl, ?_⟩
  have hl : (ns.map V.int).length = ns.length := List.length_map _
  refine ite2 (fun c => ?_) (fun c => ?_)
  · have c' : k < (((ns.map V.int).length : Nat) : Int) := of_decide_eq_true c
    rw [hl] at c'
    have hk : k = ((k.toNat : Nat) : Int) := by omega
    have hkl : k.toNat < ns.length := by omega
    refine ⟨_, rfl, _, rfl, a, _, k, .int (cellV ns k), rfl, rfl, hS, ?_, q H (Ex.refl H)⟩
    unfold cellV
    rw [hk]
    refine atI_nat ?_
    rw [List.getElem?_map, Int.toNat_natCast, get_lt 0 hkl]
    rfl
  · have c' : ¬ k < (((ns.map V.int).length : Nat) : Int) := fun z => c (decide_eq_true z)
    rw [hl] at c'
    have e : cellV ns k = 0 := by
      unfold cellV
      rw [List.getD_eq_getElem?_getD, List.getElem?_eq_none (by omega)]
      rfl
    have := q H (Ex.refl H)
    rw [e] at this
    exact this
theorem scMix : FnScope ["_law_number", "_law_k", "_law_blend"] ["_law_number", "_law_k"] (defScope sMix) := ⟨rfl, rfl, rfl, by decide +kernel, rfl, by decide +kernel, by decide +kernel⟩
theorem ok_mix (F : Df K mg "_law_mix" sMix f fd) : Cal P w K mg base CX0 1 "_law_mix" ["_law_number", "_law_k"] spMix f fd := by
  refine F.cal (F.fn.ok scMix (fun vs H Q E h => ?_) (fun cdv A outer s H vs Q E hr h => ?_)) fun _ _ _ _ _ _ us hl => match us, hl with | [_, _], _ => rfl
  · obtain ⟨a, k, rfl, _⟩ := h
    rfl
  obtain ⟨c, k, rfl, h0, h1, q⟩ := h
  have S : Sl H (L2.start ["_law_number", "_law_k", "_law_blend"] [V.int c, V.int k]) [.d (.i c), .d (.i k), .no] := .cons ⟨_, rfl, .i _⟩ (.cons ⟨_, rfl, .i _⟩ (.cons trivial .nil))
  refine ⟨_, pss_cons (ps_set (i := 2) scMix.nd rfl (Or.inl rfl) (pe_op op_mod (pe_op op_mul (pe_op op_add (pe_op op_add (pv 0) pe_int) (pe_op op_mul (pv 1) (pv 1))) pe_int) pe_int))
    (pss_one (ps_ret (pe_op op_mod (pe_op op_mul (pv 2) (pe_op op_add (pe_op op_add (pe_op op_fdiv (pv 2) pe_int) (pe_op op_mul pe_int (pv 1))) pe_int)) pe_int))), ?_⟩
  refine qs_set S (ed_iC (ed_iC (ed_i0 (ed_i0 (ed_var S rfl) ed_int) (ed_iC (ed_var S rfl) (ed_var S rfl) (.inl ⟨by omega, by omega⟩))) ed_int (.inr ⟨by decide, by decide⟩)) ed_int (by decide)) fun σ1 H1 e1 S1 => ?_
  refine sd_ret (ed_iC (ed_iC (ed_var S1 rfl) (ed_i0 (ed_i0 (ed_iC (ed_var S1 rfl) ed_int ⟨by decide, by decide⟩) (ed_iC ed_int (ed_var S1 rfl) (.inl ⟨by decide, by decide⟩))) ed_int) (.inl ⟨?_, ?_⟩)) ed_int (by decide)) fun v H2 e2 r => by rw [r.int]; exact q _ H2 (e1.trans e2)
  · have := Int.emod_nonneg ((c + 1 + k * k) * 48271) (b := 2147483629) (by decide)
    omega
  · have := Int.emod_lt_of_pos ((c + 1 + k * k) * 48271) (b := 2147483629) (by decide)
    omega
theorem scTape : FnScope ["_law_cell", "_law_many", "_law_found", "_law_rest", "_law_k"] ["_law_cell", "_law_many"] (defScope sTape) := ⟨rfl, rfl, rfl, by decide +kernel, rfl, by decide +kernel, by decide +kernel⟩
theorem ok_tape (B : Blt mg) (F : Df K mg "_law_tape" sTape f fd) (CM : Cal P w K mg base CX0 1 "_law_mix" ["_law_number", "_law_k"] spMix fS fdS) : Cal P w K mg base CX0 2 "_law_tape" ["_law_cell", "_law_many"] spTape f fd := by
  refine F.cal (F.fn.ok scTape (fun vs H Q E h => ?_) (fun cdv A outer s H vs Q E hr h => ?_)) fun _ _ _ _ _ _ us hl => match us, hl with | [_, _], _ => rfl
  · obtain ⟨a, k, rfl, _⟩ := h
    rfl
  obtain ⟨c, m, rfl, h0, h1, q⟩ := h
  obtain ⟨m, rfl⟩ : ∃ n : Nat, m = (n : Int) := ⟨m.toNat, by omega⟩
  have S : Sl H (L2.start ["_law_cell", "_law_many", "_law_found", "_law_rest", "_law_k"] [V.int c, V.int m]) [.d (.i c), .d (.i m), .no, .no, .no] := .cons ⟨_, rfl, .i _⟩ (.cons ⟨_, rfl, .i _⟩ (.cons trivial (.cons trivial (.cons trivial .nil))))
  refine ⟨_, pss_cons (ps_set (i := 2) scTape.nd rfl (Or.inl rfl) (pe_lst pa_nil))
    (pss_cons (ps_set (i := 3) scTape.nd rfl (Or.inl rfl) (pv 0))
    (pss_cons (ps_for PassesOwn.never rfl (pi_range1 rfl B.range (pa_cons (pv 1) pa_nil)) (pg_name (i := 4) scTape.nd rfl (Or.inl rfl))
      (pss_one (ps_if (pt_cmpR op_ge (pv 3) (pe_op op_pow pe_int pe_int) (nomark _))
        (pss_cons (ps_expr (pe_bm PySem.F.plainAttrs_list PySem.F.slot_list_append PySem.F.type_list_append mt_append (pv 2) (pa_cons (pe_op op_mod (pv 3) pe_int) pa_nil)))
          (pss_one (ps_set (i := 3) scTape.nd rfl (Or.inl rfl) (pe_op op_fdiv (pv 3) pe_int))))
        (pss_one (ps_expr (pe_bm PySem.F.plainAttrs_list PySem.F.slot_list_append PySem.F.type_list_append mt_append (pv 2) (pa_cons (pe_cal CM hr (pa_cons (pv 0) (pa_cons (pv 4) pa_nil))) pa_nil)))))))
    (pss_one (ps_ret (pe_revL (pv 2)))))), ?_⟩
  refine qs_setN S (en_lst ds_nil (by simp)) fun l σ1 H1 hl e1 L1 S1 => ?_
  refine qs_set S1 (ed_var S1 rfl) fun σ2 H2 e2 S2 => ?_
  refine qd_forR (n := m) (ds_cons (ed_var S2 rfl) ds_nil) (by omega) (fun i σ' H' => Ex H H' ∧ ∃ (r : Int) (ns : List Int), Sl H' σ' [.d (.i c), .d (.i m), .v (.ref l), .d (.i r), .no] ∧ Ls H' l (ns.map .i) ∧ ns.length ≤ i)
    (fun H3 e3 => ⟨(e1.trans e2).trans e3, c, [], S2.ex e3, (L1.ex e2).ex e3, by simp⟩) (fun i σ' H' hi p => ?_) fun σ' H' p => ?_
  · obtain ⟨p1, r, ns, p2, p3, p4⟩ := p
    have S3 := p2.setD 4 (.i (i : Int))
    refine s_if (et_ed (ed_cmp0 (ed_var S3 rfl) (ed_iC ed_int ed_int ⟨by decide, by decide, by decide⟩))) (fun hb H4 e4 => ?_) (fun hb H4 e4 => ?_)
    · have S4 := S3.ex e4
      refine qd_app (ev_varV S4 rfl) (p3.ex e4) (ed_iC (ed_var S4 rfl) ed_int (by decide)) (by rw [List.length_map]; omega) fun H5 H6 e5 b6 L6 => ?_
      have S6 := (S4.ex e5).tk b6.tk rfl
      refine ss_set S6 (ed_iC (ed_var S6 rfl) ed_int ⟨by decide, by decide⟩) fun σ7 H7 e7 S7 => ⟨(b6.ex ((p1.trans e4).trans e5) hl).trans e7, r / 1000003, ns ++ [r % 1000003], S7.drop 4, ?_, by simp; omega⟩
      rw [List.map_append]
      exact L6.ex e7
    · have S4 := S3.ex e4
      refine sd_appI (ev_varV S4 rfl) (p3.ex e4) (ei_mix (ed_var S4 rfl) (ed_var S4 rfl) (by omega) (by omega)) (by rw [List.length_map]; omega) fun z H5 H6 _ e5 b6 L6 => ?_
      refine ⟨b6.ex ((p1.trans e4).trans e5) hl, r, ns ++ [z], ((S4.ex e5).tk b6.tk rfl).drop 4, ?_, by simp; omega⟩
      rw [List.map_append]
      exact L6
  · obtain ⟨p1, r, ns, p2, p3, p4⟩ := p
    unfold tRet tRevL
    refine (ev_varV (i := 2) (v := .ref l) p2 rfl) H' (Ex.refl _) _ fun H3 e3 => ?_
    obtain ⟨xs, g1, g2⟩ := p3.ex e3
    refine ⟨l, xs, rfl, sq_of g1, fun p hp => q p _ (fresh_back (p1.trans e3) hp) ((p1.trans e3).trans (Ex.new hp)) ⟨ns.reverse, ?_⟩⟩
    rw [upd_same, g2.ints, List.map_reverse]
theorem scNext : FnScope ["_law_tape_here", "_law_many"] ["_law_tape_here", "_law_many"] (defScope sNext) := ⟨rfl, rfl, rfl, by decide +kernel, rfl, by decide +kernel, by decide +kernel⟩
theorem dpall_ints {H : Hp} : ∀ ns : List Int, DpAll K H (ns.map V.int) (ns.map .int)
  | [] => .nil
  | n :: ns => .cons (.int n) (dpall_ints ns)
theorem canLay_ints : ∀ ns : List Int, PyData.canLayAll0 (ns.map .int) = true
  | [] => by simp [PyData.canLayAll0]
  | n :: ns => by simp [PyData.canLayAll0, PyData.canLay0, canLay_ints ns]
theorem depthA_ints : ∀ ns : List Int, PyData.depthAll (ns.map .int) ≤ 1
  | [] => by simp [PyData.depthAll]
  | n :: ns => by simp [PyData.depthAll, PyData.depth]; exact depthA_ints ns
theorem depth_ints (ns : List Int) : (PyData.list (ns.map .int)).depth ≤ 64 := by
  have := depthA_ints ns
  simp only [PyData.depth]
  omega
theorem ok_next (F : Df K mg "_law_next" sNext f fd) : Cal P w K mg base CX0 1 "_law_next" ["_law_tape_here", "_law_many"] spNext f fd := by
  refine F.cal (F.fn.ok scNext (fun vs H Q E h => ?_) (fun cdv A outer s H vs Q E hr h => ?_)) fun _ _ _ _ _ _ us hl => match us, hl with | [_, _], _ => rfl
  · obtain ⟨a, k, rfl, _⟩ := h
    rfl
  obtain ⟨l, m, rfl, ⟨ns, hT⟩, h0, q⟩ := h
  refine ⟨_, pss_cons (ps_if (pt_cmpR (op_eqD hr.units) (pv 0) (pe_lst pa_nil) (nomark _)) (pss_one (ps_ret pe_int)) pss_nil)
    (pss_one (ps_ret (pe_op op_mod (pe_bm0 PySem.F.plainAttrs_list PySem.F.slot_list_pop PySem.F.type_list_pop mt_pop (pv 0)) (pv 1)))), ?_⟩
  refine ⟨_, rfl, Nat.zero_le _, fun p hp => ?_⟩
  have e1 : Ex H (upd H p (.lst [])) := Ex.new hp
  have g1 := e1 l _ hT
  refine ⟨.list (ns.map .int), .list [], .lst (SqL.of g1) (dpall_ints ns), .lst (SqL.of upd_same) .nil, ?_, by decide +kernel, _, rfl, ?_⟩
  · unfold SeqAt.shaped
    rw [Bool.and_eq_true]
    exact ⟨by simp [PyData.canLay0, canLay_ints ns], decide_eq_true (depth_ints ns)⟩
  have ev : PyData.eqv (.list (ns.map .int)) (.list []) = decide (ns = []) := by
    cases ns with
    | nil => simp [PyData.eqv, PyData.eqvAll]
    | cons n r => simp [PyData.eqv, PyData.eqvAll]
  rw [ev]
  refine ite2 (fun c => ?_) (fun c => ?_)
  · exact q 0 _ h0 (Exb.of e1) ⟨ns, g1⟩
  · have hne : ns ≠ [] := fun z => c (decide_eq_true z)
    have hlast : (ns.map V.int)[(ns.map V.int).length - 1]? = some (.int (ns.getLast hne)) := by
      rw [List.length_map, List.getElem?_map, List.getLast_eq_getElem, List.getElem?_eq_getElem (by have := List.length_pos_iff.mpr hne; omega)]
      rfl
    refine ⟨_, rfl, .inl ⟨rfl, _, SqL.of g1⟩, l, _, _, rfl, rfl, g1, hlast, _, rfl, _, _, rfl, rfl, by show (0 : Int) < (m : Int); omega, ?_⟩
    have b : Bt l (upd H p (.lst [])) (upd (upd H p (.lst [])) l (.lst (ns.map V.int).dropLast)) := ⟨Tk.updL g1, fun b hb => upd_ne hb⟩
    have e5 : ns.getLast hne % (m : Int) = (((ns.getLast hne % (m : Int)).toNat : Nat) : Int) := by
      have := Int.emod_nonneg (ns.getLast hne) (b := (m : Int)) (by omega)
      omega
    show Q (V.int (ns.getLast hne % (m : Int))) _
    rw [e5]
    refine q _ _ ?_ ((Exb.of e1).trans (Exb.bt b)) ⟨ns.dropLast, ?_⟩
    · have := Int.emod_lt_of_pos (ns.getLast hne) (b := (m : Int)) (by omega)
      have := Int.emod_nonneg (ns.getLast hne) (b := (m : Int)) (by omega)
      omega
    · rw [upd_same, List.map_dropLast]
end
end GF
set_option Elab.async false
set_option linter.all false
set_option maxRecDepth 100000
set_option maxHeartbeats 4000000
/-! Gf7: the pool of names. -/
namespace GF
open PySem L2 Evl
/-- small letters alone, one at least -/
structure Ltr (x : Str) : Prop where
  few : x.length ≤ 100
  ne : x.cps.toList ≠ []
  lo : ∀ c ∈ x.cps.toList, 97 ≤ c
theorem Ltr.star {x : Str} (h : Ltr x) : x ≠ ("*" : Str) := fun z => by
  have e : (("*" : Str)).cps.toList = [42] := by decide +kernel
  have := h.lo 42 (by rw [z, e]; simp)
  omega
theorem Ltr.empty {x : Str} (h : Ltr x) : x ≠ ("" : Str) := fun z => h.ne (by rw [z]; decide +kernel)
def abc : Str := "abcdefghijklmnopqrstuvwxyz"
theorem abc_len : abc.length = 26 := by decide +kernel
theorem abc_at : ∀ i, i < 26 → abc.cps.toList[i]? = some (97 + i) := by
  have h : (List.range 26).all (fun i => decide (abc.cps.toList[i]? = some (97 + i))) = true := by decide +kernel
  intro i hi
  exact of_decide_eq_true (List.all_eq_true.mp h i (List.mem_range.mpr hi))
def let1 (i : Nat) : Str := ⟨#[97 + i]⟩
theorem let1_ltr (i : Nat) : Ltr (let1 i) := ⟨by show 1 ≤ 100; decide, by simp [let1], fun c hc => by simp [let1] at hc; omega⟩
theorem abc_get {z : Int} : atI abc.cps.toList (z % 26) = some (97 + (z % 26).toNat) := by
  have h1 := Int.emod_nonneg z (b := 26) (by decide)
  have h2 := Int.emod_lt_of_pos z (b := 26) (by decide)
  have e : z % 26 = (((z % 26).toNat : Nat) : Int) := by omega
  conv => lhs; rw [e]
  exact atI_nat (abc_at _ (by omega))
section
variable {X : Cx}
def rJoinK (K : PySem.W.Frag) : V → List V → Hp → VK → Prop := fun x xs H Q => ∃ a p, ∃ ys : List Str, x = .str a ∧ xs = [.ref p] ∧ (SqL K H p (ys.map V.str) ∨ SqT K H p (ys.map V.str)) ∧
      (ys.map (·.length)).sum + ys.length * a.length ≤ 16777216 ∧ Q (.str (Txt.join a ys)) H
theorem joinK (K : PySem.W.Frag) {o e : Expr} {to te : TE} {apos pos : Pos} (ho : PE X o to) (he : PE X e te) (h : X.K = K := by rfl) (hs : starEach [e] X.env = [(false, eval e X.env)] := by rfl) (hbase : attributeBase o "join" X.env (eval o X.env) = eval o X.env := by rfl) (hline : (apos.endLine == pos.line) = true := by rfl) :
    PE X (.Call (.Attribute o "join" apos) [e] [] pos) (tM1 (rJoinK K) to te) := h ▸ pe_join ho he hs hbase hline
end
section
variable {K : PySem.W.Frag} {σ : L2.St} {H H' : Hp} {ta tb te tx : TE} {tl th : TO}
theorem ed_ixS {z : Str} {k : Int} {c : Nat} (ha : EvD ta σ H (.s z)) (hb : EvD tb σ H (.i k)) (hz : z.length ≤ 1000) (h : atI z.cps.toList k = some c) : EvD (tOp rIxS ta tb) σ H (.s ⟨#[c]⟩) := ed_ev (ev_op (ev_str ha) (ev_int hb) (rv_ixS (by omega) h)) fun _ _ => .s _
def rAddStr : R2 := fun x y H Q => ∃ i j, x = .str i ∧ y = .str j ∧ i.length + j.length ≤ sizeLine ∧ Q (.str (i ++ j)) H
theorem op_addS {X : Cx} : OpR X (binaryOp .Add) rAddStr := op_add_str
theorem ed_addS {x y : Str} (ha : EvD ta σ H (.s x)) (hb : EvD tb σ H (.s y)) (hz : x.length + y.length ≤ 1000) : EvD (tOp rAddStr ta tb) σ H (.s (x ++ y)) := ed_ev (ev_op (ev_str ha) (ev_str hb) (rv_val fun H1 _ Q q => ⟨x, y, rfl, rfl, sz_of (by omega), q⟩)) fun _ _ => .s _
theorem ed_slS {z : Str} {lo hi : Option Int} (h : EvD te σ H (.s z)) (h1 : EvO tl σ H lo) (h2 : EvO th σ H hi) (hz : z.length ≤ 1000) : EvD (tSl rSlS te tl th) σ H (.s (cutS z lo hi)) := fun H1 e _ q =>
  h H1 e _ fun v H2 e2 r => h1 H2 (e.trans e2) _ fun H3 e3 => h2 H3 ((e.trans e2).trans e3) _ fun H4 e4 => by
    rw [r.str]
    exact ⟨z, rfl, sz_of (by omega), q _ H4 ((e2.trans e3).trans e4) (.s _)⟩
theorem ed_join {a : Str} {ys : List Str} (h : EvD ta σ H (.s a)) (hl : EvR te σ H (ys.map .s)) (hz : (ys.map (·.length)).sum + ys.length * a.length ≤ 16777216) : EvD (tM1 (rJoinK K) ta te) σ H (.s (Txt.join a ys)) := fun H1 e _ q =>
  h H1 e _ fun v H2 e2 r => ⟨⟨a, r.str⟩, hl H2 (e.trans e2) _ fun p H3 e3 l => by
    obtain ⟨xs, g1, g2⟩ := l
    have e4 := g2.strs
    subst e4
    rw [r.str]
    exact ⟨a, p, ys, rfl, rfl, Or.inl (sq_of g1), hz, q _ H3 (e2.trans e3) (.s _)⟩⟩
end
theorem join_cons (a x y : Str) (r : List Str) : Str.join a (x :: y :: r) = x ++ a ++ Str.join a (y :: r) := rfl
theorem join_chars : ∀ ys : List Str, (Txt.join ("" : Str) ys).cps.toList = (ys.map fun y => y.cps.toList).flatten := by
  intro ys
  have e0 : (("" : Str)).cps.toList = [] := by decide +kernel
  show (Builtin.Str.glued ("" : Str) ys).cps.toList = _
  rw [StrLaws.glued_eq_join]
  induction ys with
  | nil => rfl
  | cons x r ih =>
    cases r with
    | nil => simp [Str.join]
    | cons y r =>
      rw [join_cons, Str.cps_append, Str.cps_append, Array.toList_append, Array.toList_append, ih, e0]
      simp
theorem str_len (x : Str) : x.length = x.cps.toList.length := by simp [Str.length]
theorem cut_sub {z : Str} {lo hi : Option Int} {c : Nat} (h : c ∈ (cutS z lo hi).cps.toList) : c ∈ z.cps.toList := by
  unfold cutS at h
  have h' : c ∈ (z.cps.toList.drop (HT.sIx z.length 0 lo)).take (HT.sIx z.length z.length hi - HT.sIx z.length 0 lo) := by simpa using h
  exact List.mem_of_mem_drop (List.mem_of_mem_take h')
theorem cut_len {z : Str} {lo hi : Option Int} : (cutS z lo hi).length ≤ z.length := by
  rw [str_len, str_len]
  unfold cutS
  simp
  omega
def base8 (s : Int) : Str := Txt.join ("" : Str) ((List.range 8).map fun k : Nat => let1 ((s + 3 * (k : Int)) % 26).toNat)
theorem base8_list (s : Int) : (base8 s).cps.toList = (List.range 8).map fun k : Nat => 97 + ((s + 3 * (k : Int)) % 26).toNat := by
  unfold base8
  rw [join_chars, List.map_map]
  rfl
theorem base8_len (s : Int) : (base8 s).length = 8 := by rw [str_len, base8_list]; simp
theorem base8_lo {s : Int} {c : Nat} (h : c ∈ (base8 s).cps.toList) : 97 ≤ c := by
  rw [base8_list] at h
  obtain ⟨k, _, rfl⟩ := List.mem_map.mp h
  omega
theorem app_list (x y : Str) : (x ++ y).cps.toList = x.cps.toList ++ y.cps.toList := by rw [Str.cps_append, Array.toList_append]
def spNames : Sp := fun vs H Q _ => ∃ c : Int, vs = [.int c] ∧ ∀ (xs : List Str) p H', xs.length = 9 → (∀ x ∈ xs, Ltr x) → H p = none → Ex H H' → Ls H' p (xs.map .s) → Q (.ref p) H'
section
variable {P : Program} {w : World} {K : PySem.W.Frag} {mg : Str → Option Value} {base : Heap} {f fS fF fN fB fO : Addr} {fd fdS fdF fdN fdB fdO : FuncData}
abbrev nNames : List Str := ["_law_cell", "_law_letters", "_law_start", "_law_base", "_law_at", "_law_first", "_law_k"]
theorem scNames : FnScope nNames ["_law_cell"] (defScope sNames) := ⟨rfl, rfl, rfl, by decide +kernel, rfl, by decide +kernel, by decide +kernel⟩
theorem ok_names (B : Blt mg) (F : Df K mg "_law_names" sNames f fd) : Cal P w K mg base CX0 1 "_law_names" ["_law_cell"] spNames f fd := by
  refine F.cal (F.fn.ok scNames (fun vs H Q E h => ?_) (fun cdv A outer s H vs Q E hr h => ?_)) fun _ _ _ _ _ _ us hl => match us, hl with | [_], _ => rfl
  · obtain ⟨a, rfl, _⟩ := h
    rfl
  obtain ⟨c, rfl, q⟩ := h
  have S : Sl H (L2.start nNames [V.int c]) [.d (.i c), .no, .no, .no, .no, .no, .no] := .cons ⟨_, rfl, .i _⟩ (.cons trivial (.cons trivial (.cons trivial (.cons trivial (.cons trivial (.cons trivial .nil))))))
  refine ⟨_, pss_cons (ps_set (i := 1) scNames.nd rfl (Or.inr rfl) pe_str)
    (pss_cons (ps_set (i := 2) scNames.nd rfl (Or.inr rfl) (pe_op op_mod (pv 0) pe_int))
    (pss_cons (ps_set (i := 3) scNames.nd rfl (Or.inr rfl) (joinK K pe_str (pe_lc (own := [("_law_k", 6)]) (g := gName 6) (tt := tYes) rfl scNames.nd (pi_range1 rfl B.range (pa_cons pe_int pa_nil)) (blkOk_by (N := nNames) (sc := defScope sNames) (by decide +kernel))
        (fun _ _ _ _ _ => pg_name (i := 6) scNames.nd rfl (Or.inl rfl)) (fun _ _ _ _ _ => pts_nil) (fun _ _ _ _ _ => pe_ix ix_str (pv 1) (pe_op op_mod (pe_op op_add (pv 2) (pe_op op_mul pe_int (pv 6))) pe_int) (fun _ _ => rfl)))))
    (pss_cons (ps_if (pt_cmpR op_eq (pe_op op_mod (pe_op op_fdiv (pv 0) pe_int) pe_int) pe_int (nomark _))
      (pss_cons (ps_set (i := 4) scNames.nd rfl (Or.inr rfl) (pe_op op_mod (pe_op op_fdiv (pv 0) pe_int) pe_int))
      (pss_cons (ps_set (i := 5) scNames.nd rfl (Or.inr rfl) (pe_op op_mod (pe_op op_fdiv (pv 0) pe_int) pe_int))
      (pss_one (ps_ret (pe_lc (own := [("_law_k", 6)]) (g := gName 6) (tt := tYes) rfl scNames.nd (pi_range1 rfl B.range (pa_cons pe_int pa_nil)) (blkOk_by (N := nNames) (sc := defScope sNames) (by decide +kernel))
        (fun _ _ _ _ _ => pg_name (i := 6) scNames.nd rfl (Or.inl rfl)) (fun _ _ _ _ _ => pts_nil)
        (fun _ _ _ _ _ => pe_op op_addS (pe_op op_addS (pe_slice sl_str (pv 3) po_none (po_some (pv 4))) (pe_ix ix_str (pv 1) (pe_op op_mod (pe_op op_add (pv 5) (pv 6)) pe_int) (fun _ _ => rfl))) (pe_slice sl_str (pv 3) (po_some (pe_op op_add (pv 4) pe_int)) po_none))))))) pss_nil)
    (pss_cons (ps_if (pt_cmpR op_eq (pe_op op_mod (pe_op op_fdiv (pv 0) pe_int) pe_int) pe_int (nomark _))
      (pss_one (ps_ret (pe_op op_cat (pe_lc (own := [("_law_k", 6)]) (g := gName 6) (tt := tYes) rfl scNames.nd (pi_range1 rfl B.range (pa_cons pe_int pa_nil)) (blkOk_by (N := nNames) (sc := defScope sNames) (by decide +kernel))
        (fun _ _ _ _ _ => pg_name (i := 6) scNames.nd rfl (Or.inl rfl)) (fun _ _ _ _ _ => pts_nil) (fun _ _ _ _ _ => pe_slice sl_str (pv 3) po_none (po_some (pe_op op_add (pv 6) pe_int))))
        (pe_lst (pa_cons (pe_slice sl_str (pv 3) (po_some pe_int) po_none) pa_nil))))) pss_nil)
    (pss_one (ps_ret (pe_lc (own := [("_law_k", 6)]) (g := gName 6) (tt := tYes) rfl scNames.nd (pi_range1 rfl B.range (pa_cons pe_int pa_nil)) (blkOk_by (N := nNames) (sc := defScope sNames) (by decide +kernel))
        (fun _ _ _ _ _ => pg_name (i := 6) scNames.nd rfl (Or.inl rfl)) (fun _ _ _ _ _ => pts_nil) (fun _ _ _ _ _ => pe_ix ix_str (pv 1) (pe_op op_mod (pe_op op_add (pv 2) (pe_op op_mul pe_int (pv 6))) pe_int) (fun _ _ => rfl))))))))), ?_⟩
  have la : abc.length ≤ 1000 := by rw [abc_len]; decide
  refine qs_set (d := .s abc) S ed_str fun σ1 H1 e1 S1 => ?_
  refine qs_set S1 (ed_iC (ed_var S1 rfl) ed_int (by decide)) fun σ2 H2 e2 S2 => ?_
  generalize hs : c % 26 = st at S2
  have three : ∀ (H : Hp) (σ : L2.St) (a b : Int), EvD (tC (V.int a)) σ H (.i a) := fun _ _ _ _ => ed_int
  refine qs_set (d := .s (base8 st)) S2 (ed_join (ys := (List.range 8).map fun k : Nat => let1 ((st + 3 * (k : Int)) % 26).toNat) ed_str (er_is (en_lcR (n := 8) (fun k => .s (let1 ((st + 3 * (k : Int)) % 26).toNat)) (ds_cons ed_int ds_nil) (by decide) (fun k H3 hk e3 => ?_)).r (by rw [List.map_map]; rfl)) ?_) fun σ3 H3 e3 S3 => ?_
  · have S4 := (S2.ex e3).setD 6 (.i (k : Int))
    exact ed_ixS (ed_var S4 rfl) (ed_iC (ed_i0 (ed_var S4 rfl) (ed_iC ed_int (ed_var S4 rfl) (.inl ⟨by decide, by decide⟩))) ed_int (by decide)) la abc_get
  · have : ((List.range 8).map fun k : Nat => let1 ((st + 3 * (k : Int)) % 26).toNat).map (·.length) = (List.range 8).map fun _ => 1 := by
      rw [List.map_map]
      rfl
    rw [this]
    have e0 : (("" : Str)).length = 0 := by decide +kernel
    rw [e0]
    simp
    decide
  have lb : (base8 st).length ≤ 1000 := by rw [base8_len]; decide
  have E3 := (e1.trans e2).trans e3
  refine q_when (et_ed (ed_eq (ed_iC (ed_iC (ed_var S3 rfl) ed_int ⟨by decide, by decide⟩) ed_int (by decide)) ed_int rfl rfl rfl)) (fun hb H4 e4 => ?_) (fun hb H4 e4 => ?_)
  · refine qs_set (S3.ex e4) (ed_iC (ed_iC (ed_var (S3.ex e4) rfl) ed_int ⟨by decide, by decide⟩) ed_int (by decide)) fun σ5 H5 e5 S5 => ?_
    refine qs_set S5 (ed_iC (ed_iC (ed_var S5 rfl) ed_int ⟨by decide, by decide⟩) ed_int (by decide)) fun σ6 H6 e6 S6 => ?_
    generalize ha : c / 78 % 8 = at0 at S6
    generalize hf : c / 624 % 26 = fi at S6
    refine sn_ret (en_lcR (n := 9) (fun k => .s (cutS (base8 st) none (some at0) ++ let1 ((fi + (k : Int)) % 26).toNat ++ cutS (base8 st) (some (at0 + 1)) none)) (ds_cons ed_int ds_nil) (by decide) (fun k H7 hk e7 => ?_)) fun p H7 hp e7 L => ?_
    · have S8 := (S6.ex e7).setD 6 (.i (k : Int))
      have l1 : (cutS (base8 st) none (some at0)).length ≤ 8 := by rw [← base8_len st]; exact cut_len
      have l2 : (cutS (base8 st) (some (at0 + 1)) none).length ≤ 8 := by rw [← base8_len st]; exact cut_len
      have l3 : ∀ i, (let1 i).length = 1 := fun _ => rfl
      exact ed_addS (ed_addS (ed_slS (ed_var S8 rfl) eo_none (eo_d (ed_var S8 rfl)) lb) (ed_ixS (ed_var S8 rfl) (ed_iC (ed_i0 (ed_var S8 rfl) (ed_var S8 rfl)) ed_int (by decide)) la abc_get) (by show _ + (let1 _).length ≤ 1000; rw [l3]; omega))
        (ed_slS (ed_var S8 rfl) (eo_d (ed_i0 (ed_var S8 rfl) ed_int)) eo_none lb) (by show (_ ++ let1 _).length + _ ≤ 1000; rw [Str.length_append, l3]; omega)
    · refine q ((List.range 9).map fun k : Nat => cutS (base8 st) none (some at0) ++ let1 ((fi + (k : Int)) % 26).toNat ++ cutS (base8 st) (some (at0 + 1)) none) p H7 (by simp) (fun x hx => ?_) (fresh_back (((E3.trans e4).trans e5).trans e6) hp) ((((E3.trans e4).trans e5).trans e6).trans e7) (by rw [List.map_map]; exact L)
      obtain ⟨k, _, rfl⟩ := List.mem_map.mp hx
      have l1 : (cutS (base8 st) none (some at0)).length ≤ 8 := by rw [← base8_len st]; exact cut_len
      have l2 : (cutS (base8 st) (some (at0 + 1)) none).length ≤ 8 := by rw [← base8_len st]; exact cut_len
      have l3 : ∀ i, (let1 i).length = 1 := fun _ => rfl
      refine ⟨by rw [Str.length_append, Str.length_append, l3]; omega, by rw [app_list, app_list]; simp [let1], fun ch hc => ?_⟩
      rw [app_list, app_list] at hc
      rcases List.mem_append.mp hc with h | h
      · rcases List.mem_append.mp h with h | h
        · exact base8_lo (cut_sub h)
        · exact (let1_ltr _).lo ch h
      · exact base8_lo (cut_sub h)
  have S4 := S3.ex e4
  refine q_when (et_ed (ed_eq (ed_iC (ed_iC (ed_var S4 rfl) ed_int ⟨by decide, by decide⟩) ed_int (by decide)) ed_int rfl rfl rfl)) (fun hb H5 e5 => ?_) (fun hb H5 e5 => ?_)
  · have S5 := S4.ex e5
    refine sn_ret (en_cat (en_lcR (n := 8) (fun k => .s (cutS (base8 st) none (some ((k : Int) + 1)))) (ds_cons ed_int ds_nil) (by decide) (fun k H7 hk e7 => ?_)).r (en_lst (ds_cons (ed_slS (ed_var S5 rfl) (eo_d ed_int) eo_none lb) ds_nil) (by simp)).r (by simp)) fun p H7 hp e7 L => ?_
    · have S8 := (S5.ex e7).setD 6 (.i (k : Int))
      exact ed_slS (ed_var S8 rfl) eo_none (eo_d (ed_i0 (ed_var S8 rfl) ed_int)) lb
    · refine q ((List.range 8).map (fun k : Nat => cutS (base8 st) none (some ((k : Int) + 1))) ++ [cutS (base8 st) (some 1) none]) p H7 (by simp) (fun x hx => ?_) (fresh_back ((E3.trans e4).trans e5) hp) (((E3.trans e4).trans e5).trans e7) (by rw [List.map_append, List.map_map]; exact L)
      have bl := base8_list st
      rcases List.mem_append.mp hx with h | h
      · obtain ⟨k, hk, rfl⟩ := List.mem_map.mp h
        refine ⟨Nat.le_trans cut_len (by rw [base8_len]; decide), fun z => ?_, fun ch hc => base8_lo (cut_sub hc)⟩
        have hz := congrArg List.length z
        unfold cutS at hz
        have e1 : HT.sIx (base8 st).length (base8 st).length (some ((k : Int) + 1)) = min (k + 1) (base8 st).length := by
          have := HT.sIx_nat (base8 st).length (base8 st).length (k + 1)
          rw [← this]
          rfl
        have e2 : HT.sIx (base8 st).length 0 none = 0 := rfl
        rw [e1, e2, base8_len] at hz
        simp [bl] at hz
      · rw [List.mem_singleton.mp h]
        refine ⟨Nat.le_trans cut_len (by rw [base8_len]; decide), fun z => ?_, fun ch hc => base8_lo (cut_sub hc)⟩
        have hz := congrArg List.length z
        unfold cutS at hz
        have e1 : HT.sIx (base8 st).length 0 (some 1) = min 1 (base8 st).length := HT.sIx_nat (base8 st).length 0 1
        have e2 : HT.sIx (base8 st).length (base8 st).length none = (base8 st).length := rfl
        rw [e1, e2, base8_len] at hz
        simp [bl] at hz
  have S5 := S4.ex e5
  refine sn_ret (en_lcR (n := 9) (fun k => .s (let1 ((st + 5 * (k : Int)) % 26).toNat)) (ds_cons ed_int ds_nil) (by decide) (fun k H7 hk e7 => ?_)) fun p H7 hp e7 L => ?_
  · have S8 := (S5.ex e7).setD 6 (.i (k : Int))
    exact ed_ixS (ed_var S8 rfl) (ed_iC (ed_i0 (ed_var S8 rfl) (ed_iC ed_int (ed_var S8 rfl) (.inl ⟨by decide, by decide⟩))) ed_int (by decide)) la abc_get
  · refine q ((List.range 9).map fun k : Nat => let1 ((st + 5 * (k : Int)) % 26).toNat) p H7 (by simp) (fun x hx => ?_) (fresh_back ((E3.trans e4).trans e5) hp) (((E3.trans e4).trans e5).trans e7) (by rw [List.map_map]; exact L)
    obtain ⟨k, _, rfl⟩ := List.mem_map.mp hx
    exact let1_ltr _
end
end GF
set_option Elab.async false
set_option linter.all false
set_option maxRecDepth 100000
set_option maxHeartbeats 4000000
/-! Gf8: lists drawn off a tape; the machine. -/
namespace GF
open PySem L2 Evl
def cutA {α : Type} (l : List α) (lo hi : Option Int) : List α := (l.drop (HT.sIx l.length 0 lo)).take (HT.sIx l.length l.length hi - HT.sIx l.length 0 lo)
theorem cutD_map {α : Type} (f : α → Dt) (l : List α) (lo hi : Option Int) : cutD (l.map f) lo hi = (cutA l lo hi).map f := by
  unfold cutD cutA
  rw [List.length_map, ← List.map_drop, ← List.map_take]
theorem cutA_len {α : Type} (l : List α) (lo hi : Option Int) : (cutA l lo hi).length ≤ l.length := by
  unfold cutA
  rw [List.length_take, List.length_drop]
  omega
theorem cutA_mem {α : Type} {l : List α} {lo hi : Option Int} {x : α} (h : x ∈ cutA l lo hi) : x ∈ l := List.mem_of_mem_drop (List.mem_of_mem_take h)
theorem cutA_len2 {α : Type} (l : List α) (k : Nat) : (cutA l none (some (k : Int))).length ≤ k := by
  unfold cutA
  have e1 : HT.sIx l.length 0 none = 0 := rfl
  rw [e1, HT.sIx_nat, List.length_take]
  omega
/-- a list drawn with the tape -/
def EvXL (l : Addr) (te : TE) (σ : L2.St) (H : Hp) (n m : Nat) : Prop := ∀ H1, Exb l H H1 → Tp H1 l → ∀ Q : VK, (∀ p (ns : List Nat) H2, H1 p = none → Exb l H1 H2 → Tp H2 l → Ls H2 p (ns.map eN) → ns.length = n → (∀ x ∈ ns, x < m) → Q (.ref p) H2) → te σ H1 Q
section
variable {K : PySem.W.Frag} {σ : L2.St} {H H' : Hp} {ta tb te tx : TE} {t u : TT} {ss : List Sd} {D : Ends} {tu tw tz : TS} {l : Addr}
theorem Exb.back {l p : Addr} {H H' : Hp} (x : Exb l H H') (t : Tp H l) (h : H' p = none) (n : p ≠ l) : H p = none := by
  cases q : H p with
  | none => rfl
  | some o => rw [x p o n q] at h; cases h
def Cx1 (l : Addr) (H : Hp) (Dl : Addr) (m i : Nat) (H' : Hp) : Prop := H Dl = none ∧ Exb l H H' ∧ Tp H' l ∧ ∃ ns : List Nat, Ls H' Dl (ns.map eN) ∧ ns.length = i ∧ ∀ x ∈ ns, x < m
theorem cx_turn {Dl : Addr} {m i : Nat} {σ2 : L2.St} (t0 : Tp H l) (p : Cx1 l H Dl m i H') (hz : i < 100000) (he : EvX l te σ2 H' (fun d => ∃ r : Nat, r < m ∧ d = eN r)) :
    tYes σ2 H' fun b H3 => if b = true then te σ2 H3 fun y H4 => ∃ acc, H4 Dl = some (.lst acc) ∧ acc.length < sizeLine ∧ Cx1 l H Dl m (i + 1) (upd H4 Dl (.lst (acc ++ [y]))) else Cx1 l H Dl m (i + 1) H3 := by
  obtain ⟨p1, p2, p3, ns, p4, p5, p6⟩ := p
  have hne : Dl ≠ l := (t0.ne p1).symm
  show te σ2 H' fun y H4 => ∃ acc, H4 Dl = some (.lst acc) ∧ acc.length < sizeLine ∧ Cx1 l H Dl m (i + 1) (upd H4 Dl (.lst (acc ++ [y])))
  refine he H' (Exb.refl l H') p3 _ fun v d H4 hd x4 t4 r => ?_
  obtain ⟨r0, hr0, rfl⟩ := hd
  obtain ⟨xs, g1, g2⟩ := x4.ls p3 hne p4
  have b : Bt Dl H4 (upd H4 Dl (.lst (xs ++ [v]))) := ⟨Tk.updL g1, fun b hb => upd_ne hb⟩
  have hl := g2.len
  rw [List.length_map, p5] at hl
  refine ⟨xs, g1, sz_lt (by omega), p1, fun a o n h => ?_, ?_, ns ++ [r0], ⟨_, upd_same, ?_⟩, by rw [List.length_append, p5]; rfl, fun x hx => ?_⟩
  · rw [b.bt a (ne_of_none h p1)]
    exact x4 a o n (p2 a o n h)
  · obtain ⟨zs, hz⟩ := t4
    exact ⟨zs, by rw [b.bt l hne.symm]; exact hz⟩
  · rw [List.map_append]
    exact (g2.app (.one r)).mono b.tk
  · rcases List.mem_append.mp hx with h | h
    · exact p6 x h
    · rw [List.mem_singleton.mp h]; exact hr0
theorem ex_lcR {j n m : Nat} {tr : TA} (h : ∀ H1, Exb l H H1 → Tp H1 l → EvDs tr σ H1 [.i (n : Int)]) (hn : n ≤ 40000) (he : ∀ (k : Nat) H1, k < n → Exb l H H1 → Tp H1 l → EvX l te (σ.set j (some (.int (k : Int)))) H1 (fun d => ∃ r : Nat, r < m ∧ d = eN r)) :
    EvXL l (tLc (iRng1 tr) (gName j) tYes te [j]) σ H n m := fun H0 x0 t0 Q q => h H0 x0 t0 H0 (Ex.refl H0) _ fun vs H1 e1 r => by
  cases r with
  | cons r1 r2 =>
    cases r2
    rw [r1.int]
    have t1 := t0.ex e1
    refine ⟨(n : Int), rfl, by omega, by omega, fun Dl hD => ?_⟩
    refine lc_range (lo := 0) (n := n) (fun i H' => Cx1 l H1 Dl m i H') ⟨hD, Exb.of (Ex.new hD), t1.ex (Ex.new hD), [], ⟨[], upd_same, .nil⟩, rfl, by simp⟩ (fun i H' hi p => ?_) (fun H' p => ?_)
    · have e0 : (0 : Int) + (i : Int) = (i : Int) := Int.zero_add _
      show wipe ((wipe σ [j]).set j (some (.int ((0 : Int) + (i : Int))))) [j] = wipe σ [j] ∧ tYes ((wipe σ [j]).set j (some (.int ((0 : Int) + (i : Int))))) H' _
      rw [e0]
      have es : (wipe σ [j]).set j (some (V.int (i : Int))) = σ.set j (some (.int (i : Int))) := set2 σ j none _
      rw [es]
      exact ⟨set2 σ j _ none, cx_turn t1 p (by omega) (he i H' hi ((x0.trans (Exb.of e1)).trans p.2.1) p.2.2.1)⟩
    · obtain ⟨p1, p2, p3, ns, p4, p5, p6⟩ := p
      exact q Dl ns H' (fresh_back e1 p1) ((Exb.of e1).trans p2) p3 p4 p5 p6
/-- over a new list of texts -/
theorem ex_lcL {j m : Nat} {tl : TE} {ds : List Dt} (h : ∀ H1, Exb l H H1 → Tp H1 l → EvN tl σ H1 ds) (hn : ds.length ≤ 40000) (he : ∀ x H1, Exb l H H1 → Tp H1 l → EvX l te (σ.set j (some x)) H1 (fun d => ∃ r : Nat, r < m ∧ d = eN r)) :
    EvXL l (tLc (iList K tl) (gName j) tYes te [j]) σ H ds.length m := fun H0 x0 t0 Q q => h H0 x0 t0 H0 (Ex.refl H0) _ fun a H1 ha e1 r => by
  obtain ⟨vs, h1, h2⟩ := r
  have t1 := t0.ex e1
  have hal : a ≠ l := (t0.ne ha).symm
  have hvl := h2.len
  refine ⟨a, rfl, ⟨vs, sq_of h1⟩, fun Dl hD => ?_⟩
  refine lc_list (xs := vs) (fun i H' => Cx1 l H1 Dl m i H') ⟨hD, Exb.of (Ex.new hD), t1.ex (Ex.new hD), [], ⟨[], upd_same, .nil⟩, rfl, by simp⟩ (fun i H' _ p => sq_of (p.2.1 _ _ hal h1)) (fun i x H' hi p => ?_) (fun H' p => ?_)
  · have es : (wipe σ [j]).set j (some x) = σ.set j (some x) := set2 σ j none _
    have hlt : i < vs.length := (List.getElem?_eq_some_iff.mp hi).1
    show wipe ((wipe σ [j]).set j (some x)) [j] = wipe σ [j] ∧ tYes ((wipe σ [j]).set j (some x)) H' _
    rw [es]
    exact ⟨set2 σ j _ none, cx_turn t1 p (by omega) (he x H' ((x0.trans (Exb.of e1)).trans p.2.1) p.2.2.1)⟩
  · obtain ⟨p1, p2, p3, ns, p4, p5, p6⟩ := p
    exact q Dl ns H' (fresh_back e1 p1) ((Exb.of e1).trans p2) p3 p4 (by rw [p5, hvl]) p6
theorem qx_setL {i n m : Nat} (S : Sl H σ ss) (hL : ss.all Sd.noL = true) (t0 : Tp H l) (h : EvXL l te σ H n m) (k : ∀ p (ns : List Nat) σ' H1, H p = none → Exb l H H1 → Tp H1 l → Ls H1 p (ns.map eN) → ns.length = n → (∀ x ∈ ns, x < m) → Sl H1 σ' (ss.set i (.v (.ref p))) → tz D σ' H1) : tSeq (tAsg te (gName i)) tz D σ H :=
  h H (Exb.refl l H) t0 _ fun p ns H1 hp x t1 L h1 h2 => k p ns _ H1 hp x t1 L h1 h2 ((S.tk (x.tk t0) hL).setV i _)
theorem qx_set {i : Nat} {Pd : Dt → Prop} (S : Sl H σ ss) (hL : ss.all Sd.noL = true) (t0 : Tp H l) (h : EvX l te σ H Pd) (k : ∀ d σ' H1, Pd d → Exb l H H1 → Tp H1 l → Sl H1 σ' (ss.set i (.d d)) → tz D σ' H1) : tSeq (tAsg te (gName i)) tz D σ H :=
  h H (Exb.refl l H) t0 _ fun v d H1 hd x t1 r => k d _ H1 hd x t1 ((S.tk (x.tk t0) hL).setD i r)
/-- sorted(xs), texts -/
theorem qd_sortS {i : Nat} {xs : List Str} (S : Sl H σ ss) (h : EvR ta σ H (xs.map .s)) (hn : xs.length < 64) (k : ∀ (ys : List Str) p σ' H1, ys.Perm xs → H p = none → Ex H H1 → Ls H1 p (ys.map .s) → Sl H1 σ' (ss.set i (.v (.ref p))) → tz D σ' H1) :
    tSeq (tAsg (tCB (rSortedS K) (tCons ta tNil)) (gName i)) tz D σ H := by
  refine h H (Ex.refl H) _ fun a H1 e1 L => ?_
  obtain ⟨vs, g1, g2⟩ := L
  have e3 := g2.strs
  subst e3
  refine ⟨a, xs, rfl, sq_of g1, hn, fun ys p pm _ hp => ?_⟩
  exact k ys p _ _ pm (fresh_back e1 hp) (e1.trans (Ex.new hp)) ⟨_, upd_same, rpa_strs ys⟩ ((S.ex (e1.trans (Ex.new hp))).setV i _)
theorem ed_max {a b : Int} (ha : EvD ta σ H (.i a)) (hb : EvD tb σ H (.i b)) : EvD (tCB rMax2 (tCons ta (tCons tb tNil))) σ H (.i (if b > a then b else a)) := ed_ev (ev_max2 (ev_int ha) (ev_int hb)) fun _ _ => .i _
def rMin2 : List V → Hp → VK → Prop := fun xs H Q => ∃ i j, xs = [.int i, .int j] ∧ Q (.int (if j < i then j else i)) H
theorem ed_min {a b : Int} (ha : EvD ta σ H (.i a)) (hb : EvD tb σ H (.i b)) : EvD (tCB rMin2 (tCons ta (tCons tb tNil))) σ H (.i (if b < a then b else a)) := ed_ev (ev_cb (r := rMin2) (ea_cons (ev_int ha) (ea_cons (ev_int hb) ea_nil)) fun H1 _ Q q => ⟨a, b, rfl, q H1 (Ex.refl H1)⟩) fun _ _ => .i _
end
/-- if c: x = [..], by a word of what is behind it -/
theorem q_ifN {σ : L2.St} {H : Hp} {te : TE} {t : TT} {D : Ends} {tz : TS} {i : Nat} {b : Bool} (M : L2.St → Hp → Prop) (h : EvT t σ H b) (h1 : b = true → ∃ ds, EvN te σ H ds ∧ ∀ p H1, H p = none → Ex H H1 → Ls H1 p ds → M (σ.set i (some (.ref p))) H1)
    (h0 : b = false → ∀ H1, Ex H H1 → M σ H1) (k : ∀ σ' H', M σ' H' → tz D σ' H') : tSeq (tIfS t (tAsg te (gName i)) tNext) tz D σ H :=
  q_when h (fun hb H1 e => by
    obtain ⟨ds, he, hm⟩ := h1 hb
    exact he H1 e _ fun p H2 hp e2 l => k _ _ (hm p H2 (fresh_back e hp) (e.trans e2) l)) fun hb H1 e => k σ H1 (h0 hb H1 e)
def eR (r : List Nat) : Dt := .t (r.map eN)
def spMachine (K : PySem.W.Frag) : Sp := fun vs H Q _ => ∃ (a : Addr) (ns : List Int) (st : Int) (l : Addr) (xs : List Str), vs = [.ref a, .int st, .ref l, .int 4] ∧ SqL K H a (ns.map V.int) ∧ 0 ≤ st ∧ Ls H l (xs.map .s) ∧ (∀ x ∈ xs, Ltr x) ∧ xs.length = 9 ∧
  ∀ M v H', Ex H H' → M.Wf → M.names.length ≤ 9 → (∀ x ∈ M.names, Ltr x) → M.steps.length ≤ 4 → M.forms.length ≤ 9 → Rp H' v (encM M) → Q v H'
abbrev nMachine : List Str := ["_law_script", "_law_start", "_law_pool", "_law_most", "_law_first", "_law_many", "_law_forms", "_law_names_here", "_law_tape_here", "_law_starts", "_law_way_here", "_law_steps", "_law_p", "_law_row", "_law_marks", "_law_name", "_law_q"]
section
variable {P : Program} {w : World} {K : PySem.W.Frag} {mg : Str → Option Value} {base : Heap} {f fC fT fN fB fO : Addr} {fd fdC fdT fdN fdB fdO : FuncData}
theorem scMachine : FnScope nMachine ["_law_script", "_law_start", "_law_pool", "_law_most"] (defScope sMachine) := ⟨rfl, rfl, rfl, by decide +kernel, rfl, by decide +kernel, by decide +kernel⟩
theorem ok_machine (B : Blt mg) (F : Df K mg "_law_machine" sMachine f fd) (CC : Cal P w K mg base CX0 1 "_law_cell_at" ["_law_script", "_law_k"] (spCellAt K) fC fdC) (CT : Cal P w K mg base CX0 2 "_law_tape" ["_law_cell", "_law_many"] spTape fT fdT)
    (CN : Cal P w K mg base CX0 1 "_law_next" ["_law_tape_here", "_law_many"] spNext fN fdN) : Cal P w K mg base CX0 3 "_law_machine" ["_law_script", "_law_start", "_law_pool", "_law_most"] (spMachine K) f fd := by
  refine F.cal (F.fn.ok scMachine (fun vs H Q E h => ?_) (fun cdv A outer s H vs Q E hr h => ?_)) fun _ _ _ _ _ _ us hl => match us, hl with | [_, _, _, _], _ => rfl
  · obtain ⟨a, ns, st, l, xs, rfl, _⟩ := h
    rfl
  obtain ⟨a, ns, st, pl, xs, rfl, hS, hst, hP, hL, h9, q⟩ := h
  have S : Sl H (L2.start nMachine [.ref a, .int st, .ref pl, .int 4]) [.v (.ref a), .d (.i st), .v (.ref pl), .d (.i 4), .no, .no, .no, .no, .no, .no, .no, .no, .no, .no, .no, .no, .no] :=
    .cons rfl (.cons ⟨_, rfl, .i _⟩ (.cons rfl (.cons ⟨_, rfl, .i _⟩ (Sl.rep 13))))
  have hr1 : Room 1 _ := hr.mono (by decide)
  refine ⟨_, pss_cons (ps_set (i := 4) scMachine.nd rfl (Or.inl rfl) (pe_cal CC hr1 (pa_cons (pv 0) (pa_cons (pv 1) pa_nil))))
    (pss_cons (ps_set (i := 5) scMachine.nd rfl (Or.inr rfl) (pe_op op_add pe_int (pe_op op_mod (pv 4) (pv 3))))
    (pss_cons (ps_set (i := 6) scMachine.nd rfl (Or.inr rfl) (pe_slice sl_list (pv 2) po_none (po_some (pe_op op_mod (pe_op op_fdiv (pv 4) pe_int) pe_int))))
    (pss_cons (ps_set (i := 7) scMachine.nd rfl (Or.inl rfl) (pe_callB cr_sortedS (by rfl) B.sorted (by decide +kernel) (pa_cons (pe_slice sl_list (pe_slice sl_list (pv 2) (po_some (pe_op op_mod (pe_op op_fdiv (pv 4) pe_int) pe_int)) po_none) po_none (po_some (pe_op op_mod (pe_op op_fdiv (pv 4) pe_int) pe_int))) pa_nil)))
    (pss_cons (ps_set (i := 8) scMachine.nd rfl (Or.inr rfl) (pe_cal CT hr (pa_cons (pe_cal CC hr1 (pa_cons (pv 0) (pa_cons (pe_op op_add (pv 1) pe_int) pa_nil))) (pa_cons pe_int pa_nil))))
    (pss_cons (ps_setLc (i := 9) (own := [("_law_name", 15)]) (g := gName 15) (tt := tYes) rfl scMachine.nd rfl rfl (sw_true rfl rfl rfl (by decide +kernel)) (pi_list (pe_op op_cat (pv 7) (pe_lst (pa_cons pe_str pa_nil)))) (blkOk_by (N := nMachine) (sc := defScope sMachine) (by decide +kernel))
      (fun _ _ _ _ _ => pg_name (i := 15) scMachine.nd rfl (Or.inl rfl)) (fun _ _ _ _ _ => pts_nil) (fun _ _ _ _ _ => pe_cal CN hr1 (pa_cons (pv 8) (pa_cons (pv 5) pa_nil))))
    (pss_cons (ps_set (i := 8) scMachine.nd rfl (Or.inr rfl) (pe_cal CT hr (pa_cons (pe_cal CC hr1 (pa_cons (pv 0) (pa_cons (pe_op op_add (pv 1) pe_int) pa_nil))) (pa_cons pe_int pa_nil))))
    (pss_cons (ps_set (i := 10) scMachine.nd rfl (Or.inl rfl) (pe_cal CN hr1 (pa_cons (pv 8) (pa_cons pe_int pa_nil))))
    (pss_cons (ps_set (i := 11) scMachine.nd rfl (Or.inl rfl) (pe_lst pa_nil))
    (pss_cons (ps_for PassesOwn.never rfl (pi_range1 (by rfl) B.range (pa_cons (pv 5) pa_nil)) (pg_name (i := 12) scMachine.nd rfl (Or.inr rfl))
      (pss_cons (ps_set (i := 13) scMachine.nd rfl (Or.inr rfl) (pe_lc (own := [("_law_q", 16)]) (g := gName 16) (tt := tYes) rfl scMachine.nd (pi_range1 (by rfl) B.range (pa_cons (pv 5) pa_nil)) (blkOk_by (N := nMachine) (sc := defScope sMachine) (by decide +kernel))
        (fun _ _ _ _ _ => pg_name (i := 16) scMachine.nd rfl (Or.inl rfl)) (fun _ _ _ _ _ => pts_nil) (fun _ _ _ _ _ => pe_cal CN hr1 (pa_cons (pv 8) (pa_cons (pv 5) pa_nil)))))
      (pss_cons (ps_if (pt_cmpR op_eq (pv 10) pe_int (nomark _)) (pss_one (ps_set (i := 13) scMachine.nd rfl (Or.inr rfl) (pe_lc (own := [("_law_q", 16)]) (g := gName 16) (tt := tYes) rfl scMachine.nd (pi_range1 (by rfl) B.range (pa_cons (pv 5) pa_nil)) (blkOk_by (N := nMachine) (sc := defScope sMachine) (by decide +kernel))
        (fun _ _ _ _ _ => pg_name (i := 16) scMachine.nd rfl (Or.inl rfl)) (fun _ _ _ _ _ => pts_nil) (fun _ _ _ _ _ => pe_op op_mod (pe_op op_add (pe_op op_add (pv 12) (pv 16)) pe_int) (pv 5))))) pss_nil)
      (pss_cons (ps_if (pt_cmpR op_eq (pv 10) pe_int (nomark _)) (pss_one (ps_set (i := 13) scMachine.nd rfl (Or.inr rfl) (pe_lc (own := [("_law_q", 16)]) (g := gName 16) (tt := tYes) rfl scMachine.nd (pi_range1 (by rfl) B.range (pa_cons (pv 5) pa_nil)) (blkOk_by (N := nMachine) (sc := defScope sMachine) (by decide +kernel))
        (fun _ _ _ _ _ => pg_name (i := 16) scMachine.nd rfl (Or.inl rfl)) (fun _ _ _ _ _ => pts_nil) (fun _ _ _ _ _ => pe_callB (call_max2 rfl) (by rfl) B.max (by decide +kernel) (pa_cons (pv 12) (pa_cons (pv 16) pa_nil)))))) pss_nil)
      (pss_cons (ps_if (pt_cmpR op_eq (pv 10) pe_int (nomark _)) (pss_one (ps_set (i := 13) scMachine.nd rfl (Or.inr rfl) (pe_lc (own := [("_law_q", 16)]) (g := gName 16) (tt := tYes) rfl scMachine.nd (pi_range1 (by rfl) B.range (pa_cons (pv 5) pa_nil)) (blkOk_by (N := nMachine) (sc := defScope sMachine) (by decide +kernel))
        (fun _ _ _ _ _ => pg_name (i := 16) scMachine.nd rfl (Or.inl rfl)) (fun _ _ _ _ _ => pts_nil) (fun _ _ _ _ _ => pe_callB (call_min2 rfl) (by rfl) B.min (by decide +kernel) (pa_cons (pe_op op_add (pe_op op_add (pv 12) pe_int) (pe_op op_mul (pe_op op_mod (pe_ix (ixL K) (pv 13) pe_int (fun _ _ => rfl)) pe_int) (pv 16))) (pa_cons (pe_op op_sub (pv 5) pe_int) pa_nil)))))) pss_nil)
      (pss_one (ps_expr (pe_bm PySem.F.plainAttrs_list PySem.F.slot_list_append PySem.F.type_list_append mt_append (pv 11) (pa_cons (pe_callTy (tupK K) (by rfl) B.tuple (by decide +kernel) (pa_cons (pv 13) pa_nil)) pa_nil)))))))))
    (pss_cons (ps_set (i := 8) scMachine.nd rfl (Or.inr rfl) (pe_cal CT hr (pa_cons (pe_cal CC hr1 (pa_cons (pv 0) (pa_cons (pe_op op_add (pv 1) pe_int) pa_nil))) (pa_cons pe_int pa_nil))))
    (pss_cons (ps_setLc (i := 14) (own := [("_law_p", 12)]) (g := gName 12) (tt := tYes) rfl scMachine.nd rfl rfl (sw_true rfl rfl rfl (by decide +kernel)) (pi_range1 (by rfl) B.range (pa_cons (pv 5) pa_nil)) (blkOk_by (N := nMachine) (sc := defScope sMachine) (by decide +kernel))
      (fun _ _ _ _ _ => pg_name (i := 12) scMachine.nd rfl (Or.inl rfl)) (fun _ _ _ _ _ => pts_nil) (fun _ _ _ _ _ => pe_cal CN hr1 (pa_cons (pv 8) (pa_cons (pe_op op_shl pe_int (pe_callB (lenK K) (by rfl) B.len PySem.boot_len (pa_cons (pv 6) pa_nil))) pa_nil))))
    (pss_one (ps_ret (pe_tup (pa_cons (pe_callTy (tupK K) (by rfl) B.tuple (by decide +kernel) (pa_cons (pv 6) pa_nil)) (pa_cons (pe_callTy call_tupF (by rfl) B.tuple (by decide +kernel) (pa_cons (pv 7) pa_nil)) (pa_cons (pe_callTy (tupK K) (by rfl) B.tuple (by decide +kernel) (pa_cons (pv 9) pa_nil))
      (pa_cons (pe_callTy (tupK K) (by rfl) B.tuple (by decide +kernel) (pa_cons (pv 11) pa_nil)) (pa_cons (pe_callTy (tupK K) (by rfl) B.tuple (by decide +kernel) (pa_cons (pv 14) pa_nil)) pa_nil))))))))))))))))))), ?_⟩
  have four : ((4 : Nat) : Int) = 4 := rfl
  -- first, many
  refine qs_set S (ed_cell S rfl hS (ed_var S rfl) hst) fun σ1 H1 e1 S1 => ?_
  generalize cellV ns st = fi at S1
  obtain ⟨n, hn1, hn2, hn3⟩ : ∃ n : Nat, (1 : Int) + fi % 4 = (n : Int) ∧ 0 < n ∧ n ≤ 4 := by
    have h1 := Int.emod_nonneg fi (b := 4) (by decide)
    have h2 := Int.emod_lt_of_pos fi (b := 4) (by decide)
    exact ⟨((1 : Int) + fi % 4).toNat, by omega, by omega, by omega⟩
  refine qs_set (d := .i (n : Int)) S1 (ed_is (ed_i0 ed_int (ed_iC (ed_var S1 rfl) (ed_var S1 rfl) (by decide))) (by rw [hn1])) fun σ2 H2 e2 S2 => ?_
  have E2 := e1.trans e2
  -- forms
  refine qs_setN S2 (en_is (en_sl (er_varA S2 rfl (hP.ex E2)) eo_none (eo_d (ed_iC (ed_iC (ed_var S2 rfl) ed_int ⟨by decide, by decide⟩) ed_int (by decide)))) (cutD_map _ _ _ _)) fun p6 σ3 H3 hp6 e3 L6 S3 => ?_
  have lf := cutA_len xs none (some (fi / 8 % 10))
  generalize cutA xs none (some (fi / 8 % 10)) = fs at L6 lf
  have E3 := E2.trans e3
  -- names
  refine qd_sortS (xs := cutA (cutA xs (some (fi / 80 % 9)) none) none (some (fi / 720 % 5))) S3 (er_is (en_sl (er_is (en_sl (er_varA S3 rfl (hP.ex E3)) (eo_d (ed_iC (ed_iC (ed_var S3 rfl) ed_int ⟨by decide, by decide⟩) ed_int (by decide))) eo_none).r (cutD_map _ _ _ _)) eo_none
    (eo_d (ed_iC (ed_iC (ed_var S3 rfl) ed_int ⟨by decide, by decide⟩) ed_int (by decide)))).r (cutD_map _ _ _ _)) (by
      have h1 := cutA_len (cutA xs (some (fi / 80 % 9)) none) none (some (fi / 720 % 5))
      have h2 := cutA_len xs (some (fi / 80 % 9)) none
      omega) fun ys p7 σ4 H4 pm hp7 e4 L7 S4 => ?_
  have ly : ys.length ≤ 9 := by
    have h1 := cutA_len (cutA xs (some (fi / 80 % 9)) none) none (some (fi / 720 % 5))
    have h2 := cutA_len xs (some (fi / 80 % 9)) none
    rw [pm.length_eq]
    omega
  have gy : ∀ y ∈ ys, Ltr y := fun y hy => hL y (cutA_mem (cutA_mem (pm.mem_iff.mp hy)))
  have E4 := E3.trans e4
  -- the first tape
  refine qt_set S4 (et_tape (m := 5) (ed_cell S4 rfl (ex_l E4 hS) (ed_i0 (ed_var S4 rfl) ed_int) (by omega)) ed_int (by decide)) fun l1 σ5 H5 hl1 e5 t5 S5 => ?_
  refine qx_setL (n := (ys.map Dt.s ++ [Dt.s ""]).length) (m := n) S5 rfl t5 (ex_lcL (fun Ha x t => en_cat (er_varA (Txb x t5 S5 rfl) rfl (x.ls t5 (L7.ne hl1) (L7.ex e5))) (en_lst (ds_cons ed_str ds_nil) (by simp)).r (by simp; omega)) (by simp; omega)
    (fun v Ha x t => ex_next (fun Hb x2 t2 => ev_varV ((Txb (x.trans x2) t5 S5 rfl).setN 15 (some v)) rfl) (fun Hb x2 t2 => ed_var ((Txb (x.trans x2) t5 S5 rfl).setN 15 (some v)) rfl) hn2)) fun p9 sts σ6 H6 hp9 x6 t6 L9 lst gst S6 => ?_
  have e46 : Ex H4 H6 := x6.ex e5 hl1
  have E6 := E4.trans e46
  -- the second tape
  refine qt_set S6 (et_tape (m := 66) (ed_cell S6 rfl (ex_l E6 hS) (ed_i0 (ed_var S6 rfl) ed_int) (by omega)) ed_int (by decide)) fun l2 σ7 H7 hl2 e7 t7 S7 => ?_
  refine qx_set S7 rfl t7 (ex_next (m := 5) (fun Ha x t => ev_varV (Txb x t7 S7 rfl) rfl) (fun Ha x t => ed_int) (by decide)) fun d8 σ8 H8 hd8 x8 t8 S8 => ?_
  obtain ⟨wv, hwv, rfl⟩ := hd8
  have e68 : Ex H6 H8 := x8.ex e7 hl2
  refine qs_setN S8 (en_lst ds_nil (by simp)) fun p11 σ9 H9 hp11 e9 L11 S9 => ?_
  have t9 := t8.ex e9
  have n11 : p11 ≠ l2 := (t8.ne hp11).symm
  have f11 : H6 p11 = none := fresh_back e68 hp11
  -- the rows
  refine qd_forR (n := n) (ds_cons (ed_var S9 rfl) ds_nil) (by omega) (fun i σ' H' => Ex H6 H' ∧ Sl H' σ' [.v (.ref a), .d (.i st), .v (.ref pl), .d (.i 4), .no, .d (.i (n : Int)), .v (.ref p6), .v (.ref p7), .v (.ref l2), .v (.ref p9), .d (eN wv), .v (.ref p11), .no, .no, .no, .no, .no] ∧ Tp H' l2 ∧
      ∃ rows : List (List Nat), Ls H' p11 (rows.map eR) ∧ rows.length = i ∧ ∀ r ∈ rows, r.length = n ∧ ∀ x ∈ r, x < n)
    (fun Ha e => ⟨(e68.trans e9).trans e, (((S9.ex e).drop 4).drop 15), t9.ex e, [], L11.ex e, rfl, by simp⟩) (fun i σ' H' hi p => ?_) (fun σ' H' p => ?_)
  · obtain ⟨q1, q2, q3, rows, q4, q5, q6⟩ := p
    have T1 := q2.setD 12 (.i (i : Int))
    refine qx_setL (n := n) (m := n) T1 rfl q3 (ex_lcR (fun Ha x t => ds_cons (ed_var (Txb x q3 T1 rfl) rfl) ds_nil) (by omega)
      (fun k Ha hk x t => ex_next (fun Hb x2 t2 => ev_varV ((Txb (x.trans x2) q3 T1 rfl).setN 16 (some (.int (k : Int)))) rfl) (fun Hb x2 t2 => ed_var ((Txb (x.trans x2) q3 T1 rfl).setN 16 (some (.int (k : Int)))) rfl) hn2)) fun pr r1 σa Ha hpr xa ta La lr gr Sa => ?_
    have q4a := xa.ls q3 n11 q4
    have q1a : Ex H6 Ha := xa.ex q1 hl2
    have npr : pr ≠ l2 := (q3.ne hpr).symm
    have npr2 : pr ≠ p11 := fun z => q4.some (by rw [← z]; exact hpr)
    -- what holds between the ifs
    let Mid : L2.St → Hp → Prop := fun σ' H' => Ex H6 H' ∧ Tp H' l2 ∧ Ls H' p11 (rows.map eR) ∧ ∃ (pq : Addr) (r : List Nat), Sl H' σ' [.v (.ref a), .d (.i st), .v (.ref pl), .d (.i 4), .no, .d (.i (n : Int)), .v (.ref p6), .v (.ref p7), .v (.ref l2), .v (.ref p9), .d (eN wv), .v (.ref p11), .d (.i (i : Int)), .v (.ref pq), .no, .no, .no] ∧
      Ls H' pq (r.map eN) ∧ r.length = n ∧ ∀ x ∈ r, x < n
    have mid0 : Mid σa Ha := ⟨q1a, ta, q4a, pr, r1, Sa, La, lr, gr⟩
    have mex : ∀ {σ' H' H''}, Ex H' H'' → Mid σ' H' → Mid σ' H'' := fun {σ' H' H''} e m => by
      obtain ⟨m1, m2, m3, pq, r, m4, m5, m6, m7⟩ := m
      exact ⟨m1.trans e, m2.ex e, m3.ex e, pq, r, m4.ex e, m5.ex e, m6, m7⟩
    -- a row made anew
    have mset : ∀ {σ' H' H'' p} {r : List Nat}, Ex H' H'' → Mid σ' H' → Ls H'' p (r.map eN) → r.length = n → (∀ x ∈ r, x < n) → Mid (σ'.set 13 (some (.ref p))) H'' := fun {σ' H' H'' p r} e m L h1 h2 => by
      obtain ⟨m1, m2, m3, pq, r', m4, m5, m6, m7⟩ := m
      exact ⟨m1.trans e, m2.ex e, m3.ex e, p, r, (m4.ex e).setV 13 (.ref p), L, h1, h2⟩
    have E16 : ∀ {σ' H' H'' pq} {k : Nat}, Ex H' H'' → Sl H' σ' [.v (.ref a), .d (.i st), .v (.ref pl), .d (.i 4), .no, .d (.i (n : Int)), .v (.ref p6), .v (.ref p7), .v (.ref l2), .v (.ref p9), .d (eN wv), .v (.ref p11), .d (.i (i : Int)), .v (.ref pq), .no, .no, .no] →
        Sl H'' (σ'.set 16 (some (.int (k : Int)))) [.v (.ref a), .d (.i st), .v (.ref pl), .d (.i 4), .no, .d (.i (n : Int)), .v (.ref p6), .v (.ref p7), .v (.ref l2), .v (.ref p9), .d (eN wv), .v (.ref p11), .d (.i (i : Int)), .v (.ref pq), .no, .no, .d (.i (k : Int))] := fun {σ' H' H'' pq k} e S => (S.ex e).setD 16 (.i _)
    refine q_ifN Mid (et_ed (ed_eq (ed_var Sa rfl) ed_int rfl rfl rfl)) (fun _ => ?_) (fun _ Hb e => mex e mid0) fun σb Hb mb => ?_
    · refine ⟨_, en_lcR (n := n) (fun k => eN ((i + k + 1) % n)) (ds_cons (ed_var Sa rfl) ds_nil) (by omega) (fun k Hb hk e => ?_), fun p Hb hp e L => mset (r := (List.range n).map fun k => (i + k + 1) % n) e mid0 (by rw [List.map_map]; exact L) (by simp) (fun x hx => ?_)⟩
      · have S16 := E16 (k := k) e Sa
        exact ed_is (ed_iC (ed_i0 (ed_i0 (ed_var S16 rfl) (ed_var S16 rfl)) ed_int) (ed_var S16 rfl) (by show (0 : Int) < (n : Int); omega)) (by
          show Dt.i _ = Dt.i _
          congr 1)
      · obtain ⟨k, _, rfl⟩ := List.mem_map.mp hx
        exact Nat.mod_lt _ hn2
    obtain ⟨b1, b2, b3, pqb, rb, Sb, b5, b6, b7⟩ := id mb
    refine q_ifN Mid (et_ed (ed_eq (ed_var Sb rfl) ed_int rfl rfl rfl)) (fun _ => ?_) (fun _ Hc e => mex e mb) fun σc Hc mc => ?_
    · refine ⟨_, en_lcR (n := n) (fun k => eN (max i k)) (ds_cons (ed_var Sb rfl) ds_nil) (by omega) (fun k Hc hk e => ?_), fun p Hc hp e L => mset (r := (List.range n).map fun k => max i k) e mb (by rw [List.map_map]; exact L) (by simp) (fun x hx => ?_)⟩
      · have S16 := E16 (k := k) e Sb
        exact ed_is (ed_max (ed_var S16 rfl) (ed_var S16 rfl)) (by
          show Dt.i _ = Dt.i _
          congr 1
          split <;> omega)
      · obtain ⟨k, hk, rfl⟩ := List.mem_map.mp hx
        have := List.mem_range.mp hk
        omega
    obtain ⟨c1, c2, c3, pqc, rc, Sc, c5, c6, c7⟩ := id mc
    refine q_ifN Mid (et_ed (ed_eq (ed_var Sc rfl) ed_int rfl rfl rfl)) (fun _ => ?_) (fun _ Hd e => mex e mc) fun σd Hd md => ?_
    · have hr0 : 0 < rc.length := by omega
      refine ⟨_, en_lcR (n := n) (fun k => eN (min (i + 1 + rc.getD 0 0 % 2 * k) (n - 1))) (ds_cons (ed_var Sc rfl) ds_nil) (by omega) (fun k Hd hk e => ?_), fun p Hd hp e L => mset (r := (List.range n).map fun k => min (i + 1 + rc.getD 0 0 % 2 * k) (n - 1)) e mc (by rw [List.map_map]; exact L) (by simp) (fun x hx => ?_)⟩
      · have S16 := E16 (k := k) e Sc
        have hb2 : rc.getD 0 0 % 2 < 2 := Nat.mod_lt _ (by decide)
        exact ed_is (ed_min (ed_i0 (ed_i0 (ed_var S16 rfl) ed_int) (ed_iC (ed_iC (ed_ixL (er_varA S16 rfl (c5.ex e)) ed_int (at_eN (j := 0) (get_lt 0 hr0))) ed_int (by decide)) (ed_var S16 rfl) (.inl ⟨by show -(2 ^ 64) < ((rc.getD 0 0 : Nat) : Int) % 2; omega, by show ((rc.getD 0 0 : Nat) : Int) % 2 < 2 ^ 64; omega⟩))) (ed_i0 (ed_var S16 rfl) ed_int)) (by
          show Dt.i _ = Dt.i _
          congr 1
          have e1 : ((rc.getD 0 0 : Nat) : Int) % 2 * (k : Int) = (((rc.getD 0 0 % 2 * k : Nat)) : Int) := by push_cast; rfl
          rw [e1]
          split <;> omega)
      · obtain ⟨k, hk, rfl⟩ := List.mem_map.mp hx
        omega
    obtain ⟨d1, d2, d3, pqd, rd, Sd', d5, d6, d7⟩ := md
    refine sd_app (ev_varV Sd' rfl) d3 (ed_tupL (er_varA Sd' rfl d5)) (by simp; omega) fun He Hf ee bf Lf => ?_
    refine ⟨bf.ex (d1.trans ee) f11, (((Sd'.ex ee).tk bf.tk rfl).drop 12).drop 13, ?_, rows ++ [rd], ?_, by simp [q5], fun r hr => ?_⟩
    · obtain ⟨zs, hz⟩ := d2.ex ee
      exact ⟨zs, by rw [bf.bt l2 n11.symm]; exact hz⟩
    · rw [List.map_append]
      exact Lf
    · rcases List.mem_append.mp hr with h | h
      · exact q6 r h
      · rw [List.mem_singleton.mp h]; exact ⟨d6, d7⟩
  · obtain ⟨q1, q2, q3, rows, q4, q5, q6⟩ := p
    have Eq1 := E6.trans q1
    refine qt_set q2 (et_tape (m := 8) (ed_cell q2 rfl (ex_l Eq1 hS) (ed_i0 (ed_var q2 rfl) ed_int) (by omega)) ed_int (by decide)) fun l3 σa Ha hl3 ea ta Sa => ?_
    -- the lists as they stand
    have L6a : Ls H' p6 (fs.map .s) := ((L6.ex e4).ex e46).ex q1
    have L7a : Ls H' p7 (ys.map .s) := (L7.ex e46).ex q1
    have L9a : Ls H' p9 (sts.map eN) := L9.ex q1
    refine qx_setL (n := n) (m := 2 ^ fs.length) Sa rfl ta (ex_lcR (fun Hb x t => ds_cons (ed_var (Txb x ta Sa rfl) rfl) ds_nil) (by omega)
      (fun k Hb hk x t => ex_next (fun Hc x2 t2 => ev_varV ((Txb (x.trans x2) ta Sa rfl).setN 12 (some (.int (k : Int)))) rfl)
        (fun Hc x2 t2 => ed_is (ed_iC ed_int (ed_lenL (er_varA ((Txb (x.trans x2) ta Sa rfl).setN 12 (some (.int (k : Int)))) rfl ((x.trans x2).ls ta (L6a.ne hl3) (L6a.ex ea)))) ⟨by rw [List.length_map]; omega, by rw [List.length_map]; omega, by decide⟩) (by
          show Dt.i _ = Dt.i _
          congr 1
          rw [List.length_map, Int.toNat_natCast, Int.one_mul]
          push_cast
          rfl)) (Nat.two_pow_pos _))) fun p14 mks σb Hb hp14 xb tb Lm lm gm Sb => ?_
    have eb : Ex H' Hb := xb.ex ea hl3
    refine sd_ret (ed_tup (ds_cons (ed_tupL (er_varA Sb rfl (L6a.ex eb))) (ds_cons (ed_tupF (er_varA Sb rfl (L7a.ex eb))) (ds_cons (ed_tupL (er_varA Sb rfl (L9a.ex eb))) (ds_cons (ed_tupL (er_varA Sb rfl (q4.ex eb))) (ds_cons (ed_tupL (er_varA Sb rfl Lm)) ds_nil))))) (by simp)) fun v Hc ec r => ?_
    have lst2 : sts.length = ys.length + 1 := by rw [lst]; simp
    refine q ⟨fs, ys, sts, rows, mks⟩ v Hc ((Eq1.trans eb).trans ec) ⟨lst2, by show mks.length = rows.length; omega, by show 0 < rows.length; omega, fun x hx => by show x < rows.length; have := gst x hx; omega, fun r hr => ?_, by show rows.length ≤ 64; omega, by show ys.length ≤ 1000; omega, by show fs.length ≤ 1000; omega⟩ ly gy (by show rows.length ≤ 4; omega) (by show fs.length ≤ 9; omega) r
    have h := q6 r hr
    show r.length = rows.length ∧ ∀ x ∈ r, x < rows.length
    rw [q5]
    exact h
end
end GF
set_option Elab.async false
set_option linter.all false
set_option maxRecDepth 100000
set_option maxHeartbeats 4000000
/-! Gf9: items, turners. -/
namespace GF
open PySem L2 Evl
section
variable {K : PySem.W.Frag} {σ : L2.St} {H H' : Hp} {ta tb te tx : TE} {t u : TT} {ss : List Sd} {D : Ends} {tu tw tz : TS} {l : Addr}
theorem ex_tup2 {P1 P2 : Dt → Prop} (ha : EvX l ta σ H P1) (hb : EvX l tb σ H P2) : EvX l (tTup (tCons ta (tCons tb tNil))) σ H (fun d => ∃ a b, P1 a ∧ P2 b ∧ d = .t [a, b]) := fun H1 x t Q q =>
  ha H1 x t _ fun v d H2 p2 x2 t2 r2 => hb H2 (x.trans x2) t2 _ fun v' d' H3 p3 x3 t3 r3 =>
    ⟨by show 2 ≤ sizeLine; decide, fun p hp => q _ _ _ ⟨d, d', p2, p3, rfl⟩ ((x2.trans x3).trans (Exb.of (Ex.new hp))) (t3.ex (Ex.new hp)) (.t upd_same (.cons ((r2.mono (x3.tk t2)).ex (Ex.new hp)) (.cons (r3.ex (Ex.new hp)) .nil)))⟩
/-- a name out of the pool, the place off the tape -/
theorem ex_pool {i m : Nat} {pl : Addr} {xs : List Str} (hv : ∀ H1, Exb l H H1 → Tp H1 l → Ev (tVar i) σ H1 (.ref pl)) (hp : Ls H pl (xs.map .s)) (t0 : Tp H l) (hne : pl ≠ l) (hi : EvX l te σ H (fun d => ∃ r : Nat, r < xs.length ∧ d = eN r)) :
    EvX l (tOp (rIxL K) (tVar i) te) σ H (fun d => ∃ x ∈ xs, d = .s x) := fun H1 x t Q q =>
  hv H1 x t H1 (Ex.refl H1) _ fun H2 e2 => hi H2 (x.trans (Exb.of e2)) (t.ex e2) _ fun v d H3 hd x3 t3 r3 => by
    obtain ⟨k, hk, rfl⟩ := hd
    have X3 : Exb l H H3 := (x.trans (Exb.of e2)).trans x3
    obtain ⟨vs, g1, g2⟩ := X3.ls t0 hne hp
    have ek : (xs.map Dt.s)[k]? = some (.s (xs.getD k (("" : Str)))) := by rw [List.getElem?_map, get_lt (("" : Str)) hk]; rfl
    obtain ⟨y, hy, ry⟩ := g2.get ek
    rw [r3.int]
    exact ⟨pl, vs, _, y, rfl, rfl, sq_of g1, atI_nat hy, q y _ H3 ⟨_, getD_mem (("" : Str)) hk, rfl⟩ ((Exb.of e2).trans x3) t3 ry⟩
/-- p.append(e), e drawn -/
theorem sx_app {p : Addr} {ds : List Dt} {Pd : Dt → Prop} (ha : Ev ta σ H (.ref p)) (hl : Ls H p ds) (t0 : Tp H l) (hne : p ≠ l) (h : EvX l te σ H Pd) (hz : ds.length < 100000)
    (k : ∀ d H2 H3, Pd d → Exb l H H2 → Tp H2 l → Bt p H2 H3 → Tp H3 l → Ls H3 p (ds ++ [d]) → D.nx σ H3) : tDrop (tBM K "list" rAppend ta (tCons te tNil)) D σ H := by
  obtain ⟨xs, h1, h2⟩ := hl
  refine ha H (Ex.refl H) _ fun H1 e1 => ⟨Or.inl ⟨rfl, xs, sq_of (e1 p _ h1)⟩, h H1 (Exb.of e1) (t0.ex e1) _ fun v d H2 hd x2 t2 r => ?_⟩
  have X2 : Exb l H H2 := (Exb.of e1).trans x2
  obtain ⟨ys, g1, g2⟩ := X2.ls t0 hne ⟨xs, h1, h2⟩
  have b : Bt p H2 (upd H2 p (.lst (ys ++ [v]))) := ⟨Tk.updL g1, fun b hb => upd_ne hb⟩
  have t3 : Tp (upd H2 p (.lst (ys ++ [v]))) l := by
    obtain ⟨zs, hz⟩ := t2
    exact ⟨zs, by rw [b.bt l hne.symm]; exact hz⟩
  exact ⟨p, ys, v, rfl, rfl, g1, sz_lt (by rw [g2.len]; exact hz), k d H2 _ hd X2 t2 b t3 ⟨_, upd_same, (g2.app (.one r)).mono b.tk⟩⟩
/-- a test that draws -/
def EvTX (l : Addr) (t : TT) (σ : L2.St) (H : Hp) (P : Bool → Prop) : Prop := ∀ H1, Exb l H H1 → Tp H1 l → ∀ Q : Bool → Hp → Prop, (∀ b H2, P b → Exb l H1 H2 → Tp H2 l → Q b H2) → t σ H1 Q
theorem etx_eq {m : Nat} {z : Int} (h : EvX l te σ H (fun d => ∃ r : Nat, r < m ∧ d = eN r)) : EvTX l (tTest (tOp rEq te (tC (.int z)))) σ H (fun _ => True) := fun H1 x t Q q =>
  h H1 x t _ fun v d H2 hd x2 t2 r => by
    obtain ⟨k, _, rfl⟩ := hd
    rw [r.int]
    exact ⟨rfl, _, rfl, q _ H2 trivial x2 t2⟩
theorem etx_gt {m : Nat} {z : Int} {pr : Int → Int → Bool} (h : EvX l te σ H (fun d => ∃ r : Nat, r < m ∧ d = eN r)) : EvTX l (tTest (tOp (rI0 fun i j => .bl (pr i j)) te (tC (.int z)))) σ H (fun _ => True) := fun H1 x t Q q =>
  h H1 x t _ fun v d H2 hd x2 t2 r => by
    obtain ⟨k, _, rfl⟩ := hd
    rw [r.int]
    exact ⟨_, _, rfl, rfl, _, rfl, q _ H2 trivial x2 t2⟩
theorem etx_or {P1 P2 : Bool → Prop} (h1 : EvTX l t σ H P1) (h2 : EvTX l u σ H P2) : EvTX l (tOr t u) σ H (fun b => b = false → P2 false) := fun H1 x t0 Q q =>
  h1 H1 x t0 _ fun b H2 _ x2 t2 => by
    cases b with
    | true =>
      show Q true H2
      exact q true H2 (fun z => nomatch z) x2 t2
    | false =>
      show u σ H2 Q
      exact h2 H2 (x.trans x2) t2 Q fun b H3 p x3 t3 => q b H3 (fun z => z ▸ p) (x2.trans x3) t3
theorem qx_if {P1 : Bool → Prop} (t0 : Tp H l) (h : EvTX l t σ H P1) (h1 : P1 true → ∀ H1, Exb l H H1 → Tp H1 l → tu { D with nx := tz D } σ H1) (h2 : P1 false → ∀ H1, Exb l H H1 → Tp H1 l → tw { D with nx := tz D } σ H1) : tSeq (tIfS t tu tw) tz D σ H :=
  h H (Exb.refl l H) t0 _ fun b H1 p x t1 => by
    cases b with
    | true =>
      show tu { D with nx := tz D } σ H1
      exact h1 p H1 x t1
    | false =>
      show tw { D with nx := tz D } σ H1
      exact h2 p H1 x t1
theorem sx_if {P1 : Bool → Prop} (t0 : Tp H l) (h : EvTX l t σ H P1) (h1 : P1 true → ∀ H1, Exb l H H1 → Tp H1 l → tu D σ H1) (h2 : P1 false → ∀ H1, Exb l H H1 → Tp H1 l → tw D σ H1) : tIfS t tu tw D σ H :=
  h H (Exb.refl l H) t0 _ fun b H1 p x t1 => by
    cases b with
    | true =>
      show tu D σ H1
      exact h1 p H1 x t1
    | false =>
      show tw D σ H1
      exact h2 p H1 x t1
/-- for .. in range(a number off the tape) -/
theorem qx_forR {j m : Nat} {te : TE} (t0 : Tp H l) (h : EvX l te σ H (fun d => ∃ r : Nat, r < m ∧ d = eN r)) (hn : m ≤ 1000) (Pv : Nat → L2.St → Hp → Prop) (h0 : ∀ H1, Exb l H H1 → Tp H1 l → Pv 0 σ H1)
    (hs : ∀ i σ' H', i < m → Pv i σ' H' → tu { D with nx := Pv (i + 1), ct := Pv (i + 1), bk := tz D } (σ'.set j (some (.int (i : Int)))) H') (hd : ∀ n σ' H', n < m → Pv n σ' H' → tz D σ' H') : tSeq (tFor (iRng1 (tCons te tNil)) (gName j) tu) tz D σ H :=
  h H (Exb.refl l H) t0 _ fun v d H1 hd' x t1 r => by
    obtain ⟨n, hlt, rfl⟩ := hd'
    rw [r.int]
    refine ⟨(n : Int), rfl, by omega, by omega, for_range (D := { D with nx := tz D }) (lo := 0) (n := n) Pv (h0 H1 x t1) (fun i σ' H' hi p => ?_) (fun σ' H' p => hd n σ' H' hlt p)⟩
    have e0 : (0 : Int) + (i : Int) = (i : Int) := Int.zero_add _
    show tu { D with nx := Pv (i + 1), ct := Pv (i + 1), bk := tz D } (σ'.set j (some (.int ((0 : Int) + (i : Int))))) H'
    rw [e0]
    exact hs i σ' H' (by omega) p
end
def spItems (n : Nat) : Sp := fun vs H Q _ => ∃ (l : Addr) (d : Nat) (pl : Addr) (xs : List Str), vs = [.ref l, .int (d : Int), .ref pl] ∧ Tp H l ∧ Ls H pl (xs.map .s) ∧ pl ≠ l ∧ xs.length = 9 ∧ d < n ∧
  ∀ (its : List Item) v H', deps its ≤ d + 1 → Exb l H H' → Tp H' l → Rp H' v (.t (its.map encI)) → Q v H'
theorem deps_app : ∀ l r : List Item, deps (l ++ r) = max (deps l) (deps r)
  | [], r => by rw [List.nil_append, deps, Nat.zero_max]
  | x :: l, r => by rw [List.cons_append, deps, deps, deps_app l r, Nat.max_assoc]
theorem deps_one (x : Item) : deps [x] = x.dep := by rw [deps, deps, Nat.max_zero]
section
variable {P : Program} {w : World} {K : PySem.W.Frag} {mg : Str → Option Value} {base : Heap} {f fC fT fN fB fO : Addr} {fd fdC fdT fdN fdB fdO : FuncData}
abbrev nItems : List Str := ["_law_tape_here", "_law_depth", "_law_pool", "_law_found", "_law_k", "_law_name"]
theorem scItems : FnScope nItems ["_law_tape_here", "_law_depth", "_law_pool"] (defScope sItems) := ⟨rfl, rfl, rfl, by decide +kernel, rfl, by decide +kernel, by decide +kernel⟩
theorem ok_items1 {k n : Nat} (B : Blt mg) (F : Df K mg "_law_items" sItems f fd) (CN : Cal P w K mg base CX0 1 "_law_next" ["_law_tape_here", "_law_many"] spNext fN fdN)
    (CI : Cal P w K mg base CX0 (k + 1) "_law_items" ["_law_tape_here", "_law_depth", "_law_pool"] (spItems n) f fd) : Cal P w K mg base CX0 (k + 2) "_law_items" ["_law_tape_here", "_law_depth", "_law_pool"] (spItems (n + 1)) f fd := by
  refine F.cal (F.fn.ok scItems (fun vs H Q E h => ?_) (fun cdv A outer s H vs Q E hr h => ?_)) fun _ _ _ _ _ _ us hl => match us, hl with | [_, _, _], _ => rfl
  · obtain ⟨a, ns, st, l, rfl, _⟩ := h
    rfl
  obtain ⟨l, d, pl, xs, rfl, t0, hP, hne, h9, hd, q⟩ := h
  have S : Sl H (L2.start nItems [.ref l, .int (d : Int), .ref pl]) [.v (.ref l), .d (eN d), .v (.ref pl), .no, .no, .no] := .cons rfl (.cons ⟨_, rfl, .i _⟩ (.cons rfl (Sl.rep 3)))
  have hr1 : Room 1 _ := hr.mono (by omega)
  refine ⟨_, pss_cons (ps_set (i := 3) scItems.nd rfl (Or.inl rfl) (pe_lst pa_nil))
    (pss_cons (ps_for PassesOwn.never rfl (pi_range1 (by rfl) B.range (pa_cons (pe_cal CN hr1 (pa_cons (pv 0) (pa_cons pe_int pa_nil))) pa_nil)) (pg_name (i := 4) scItems.nd rfl (Or.inl rfl))
      (pss_one (ps_if (pt_cmpR op_eq (pe_cal CN hr1 (pa_cons (pv 0) (pa_cons pe_int pa_nil))) pe_int (nomark _))
        (pss_one (ps_expr (pe_bm PySem.F.plainAttrs_list PySem.F.slot_list_append PySem.F.type_list_append mt_append (pv 3) (pa_cons pe_str pa_nil))))
        (pss_one (ps_if (pt_cmpR op_eq (pv 1) pe_int (nomark _))
          (pss_one (ps_expr (pe_bm PySem.F.plainAttrs_list PySem.F.slot_list_append PySem.F.type_list_append mt_append (pv 3) (pa_cons (pe_tup (pa_cons (pe_ix (ixL K) (pv 2) (pe_cal CN hr1 (pa_cons (pv 0) (pa_cons pe_int pa_nil))) (fun _ _ => rfl)) (pa_cons (pe_tup pa_nil) pa_nil))) pa_nil))))
          (pss_cons (ps_set (i := 5) scItems.nd rfl (Or.inl rfl) (pe_ix (ixL K) (pv 2) (pe_cal CN hr1 (pa_cons (pv 0) (pa_cons pe_int pa_nil))) (fun _ _ => rfl)))
          (pss_one (ps_expr (pe_bm PySem.F.plainAttrs_list PySem.F.slot_list_append PySem.F.type_list_append mt_append (pv 3) (pa_cons (pe_tup (pa_cons (pv 5) (pa_cons (pe_cal CI hr (pa_cons (pv 0) (pa_cons (pe_op op_sub (pv 1) pe_int) (pa_cons (pv 2) pa_nil)))) pa_nil))) pa_nil))))))))))
    (pss_one (ps_ret (pe_callTy (tupK K) (by rfl) B.tuple (by decide +kernel) (pa_cons (pv 3) pa_nil))))), ?_⟩
  refine qs_setN S (en_lst ds_nil (by simp)) fun p σ1 H1 hp e1 L1 S1 => ?_
  have t1 := t0.ex e1
  have npl : p ≠ l := (t0.ne hp).symm
  have nx : ∀ {σ' : L2.St} {H' : Hp} {ss : List Sd} {m : Nat}, Sl H' σ' ss → ss.all Sd.noL = true → ss[0]? = some (.v (.ref l)) → Tp H' l → 0 < m → EvX l (tCall spNext [] E0 (tCons (tVar 0) (tCons (tC (.int (m : Int))) tNil))) σ' H' (fun d => ∃ r : Nat, r < m ∧ d = eN r) :=
    fun {σ' H' ss m} S' hs h0 t' hm => ex_next (fun Ha x t => ev_varV (Txb x t' S' hs) h0) (fun Ha x t => ed_int) hm
  refine qx_forR (m := 4) t1 (nx (m := 4) S1 rfl rfl t1 (by decide)) (by decide) (fun i σ' H' => Exb l H H' ∧ Tp H' l ∧ Sl H' σ' [.v (.ref l), .d (eN d), .v (.ref pl), .v (.ref p), .no, .no] ∧ ∃ its : List Item, Ls H' p (its.map encI) ∧ its.length ≤ i ∧ deps its ≤ d + 1)
    (fun Ha x t => ⟨(Exb.of e1).trans x, t, Txb x t1 S1 rfl, [], x.ls t1 npl L1, by simp, by rw [deps]; omega⟩) (fun i σ' H' hi pv => ?_) (fun n' σ' H' hn' pv => ?_)
  · obtain ⟨q1, q2, q3, its, q4, q5, q6⟩ := pv
    have T1 := q3.setN 4 (some (.int (i : Int)))
    -- what the appends come to
    have fin : ∀ {σ2 : L2.St} {it : Item} {dd : Dt} {H2 H3 : Hp}, dd = encI it → it.dep ≤ d + 1 → Exb l H H2 → Tp H2 l → Sl H2 σ2 [.v (.ref l), .d (eN d), .v (.ref pl), .v (.ref p), .no, .no] → Bt p H2 H3 → Tp H3 l → Ls H3 p (its.map encI ++ [dd]) →
        Exb l H H3 ∧ Tp H3 l ∧ Sl H3 σ2 [.v (.ref l), .d (eN d), .v (.ref pl), .v (.ref p), .no, .no] ∧ ∃ its : List Item, Ls H3 p (its.map encI) ∧ its.length ≤ i + 1 ∧ deps its ≤ d + 1 := fun {σ2 it dd H2 H3} hd1 hd2 x2 t2 S2 b3 t3 L3 => by
      refine ⟨fun a o n h => ?_, t3, S2.tk b3.tk rfl, its ++ [it], ?_, by simp; omega, by rw [deps_app, deps_one]; omega⟩
      · rw [b3.bt a (ne_of_none h hp)]
        exact x2 a o n h
      · rw [List.map_append, List.map_singleton, ← hd1]
        exact L3
    refine sx_if q2 (etx_eq (nx (m := 3) T1 rfl rfl q2 (by decide))) (fun _ Ha x t => ?_) (fun _ Ha x t => ?_)
    · have Ta := Txb x q2 T1 rfl
      exact sx_app (ev_varV Ta rfl) (x.ls q2 npl q4) t npl (ex_of fun Hb xb tb => ed_str) (by simp; omega) fun dd H2 H3 hd2 x2 t2 b3 t3 L3 => fin (it := .hole) (by rw [hd2, encI]) (by rw [Item.dep]; omega) ((q1.trans x).trans x2) t2 (Txb x2 t Ta rfl) b3 t3 L3
    · have Ta := Txb x q2 T1 rfl
      have Pa : Ls Ha pl (xs.map .s) := (q1.trans x).ls t0 hne hP
      have pool : ∀ {σ2 : L2.St} {Hb : Hp} {ss : List Sd}, Sl Hb σ2 ss → ss.all Sd.noL = true → ss[0]? = some (.v (.ref l)) → ss[2]? = some (.v (.ref pl)) → Tp Hb l → Exb l Ha Hb → EvX l (tOp (rIxL K) (tVar 2) (tCall spNext [] E0 (tCons (tVar 0) (tCons (tC (.int (9 : Int))) tNil)))) σ2 Hb (fun d => ∃ x ∈ xs, d = .s x) :=
        fun {σ2 Hb ss} Sb hs h0 h2 tb xb => ex_pool (m := 9) (fun Hc xc tc => ev_varV (Txb xc tb Sb hs) h2) (xb.ls t hne Pa) tb hne (by rw [h9]; exact nx (m := 9) Sb hs h0 tb (by decide))
      refine s_if (et_ed (ed_eq (ed_var Ta rfl) ed_int rfl rfl rfl)) (fun _ Hb eb => ?_) (fun hb Hb eb => ?_)
      · have Tb := Ta.ex eb
        refine sx_app (ev_varV Tb rfl) ((x.ls q2 npl q4).ex eb) (t.ex eb) npl (ex_tup2 (pool Tb rfl rfl rfl (t.ex eb) (Exb.of eb)) (ex_of fun Hc xc tc => ed_tup ds_nil (by simp))) (by simp; omega) fun dd H2 H3 hd2 x2 t2 b3 t3 L3 => ?_
        obtain ⟨a1, b1, ⟨nm, _, rfl⟩, rfl, rfl⟩ := hd2
        exact fin (it := .el nm []) (by rw [encI, encIs]) (by rw [Item.dep, deps]; omega) (((q1.trans x).trans (Exb.of eb)).trans x2) t2 (Txb x2 (t.ex eb) Tb rfl) b3 t3 L3
      · have hd0 : ¬ d = 0 := fun z => of_decide_eq_false hb (by rw [z]; rfl)
        have Tb := Ta.ex eb
        refine qx_set Tb rfl (t.ex eb) (pool Tb rfl rfl rfl (t.ex eb) (Exb.of eb)) fun dn σc Hc hdn xc tc Sc => ?_
        obtain ⟨nm, _, rfl⟩ := hdn
        have X1 : Exb l H' Hc := (x.trans (Exb.of eb)).trans xc
        refine sx_app (ev_varV Sc rfl) (X1.ls q2 npl q4) tc npl (ex_tup2 (ex_of fun Hd xd td => ed_var (Txb xd tc Sc rfl) rfl) (P2 := fun z => ∃ ks : List Item, deps ks ≤ d ∧ z = .t (ks.map encI)) (fun Hd xd td Qd qd => ?_)) (by simp; omega) fun dd H2 H3 hd2 x2 t2 b3 t3 L3 => ?_
        · have Sd0 := Txb xd tc Sc rfl
          refine (ea_cons (ev_varV Sd0 rfl) (ea_cons (ev_int (ed_i0 (ed_var Sd0 rfl) ed_int)) (ea_cons (ev_varV Sd0 rfl) ea_nil))) Hd (Ex.refl Hd) _ fun He ee => ?_
          refine ⟨l, d - 1, pl, xs, ?_, td.ex ee, (((q1.trans X1).trans xd).ls t0 hne hP).ex ee, hne, h9, by omega, fun ks v Hf hk xf tf rf => qd v _ Hf ⟨ks, by omega, rfl⟩ ((Exb.of ee).trans xf) tf rf⟩
          have : ((d : Int) - 1) = ((d - 1 : Nat) : Int) := by omega
          show [V.ref l, V.int ((d : Int) - 1), V.ref pl] = _
          rw [this]
        · obtain ⟨a1, b1, rfl, ⟨ks, hks, rfl⟩, rfl⟩ := hd2
          exact fin (it := .el nm ks) (by rw [encI_el]) (by rw [Item.dep]; omega) ((q1.trans X1).trans x2) t2 ((Txb x2 tc Sc rfl).drop 5) b3 t3 L3
  · obtain ⟨q1, q2, q3, its, q4, q5, q6⟩ := pv
    exact sd_ret (ed_tupL (er_varA q3 rfl q4)) fun v Ha ea r => q its v Ha q6 (q1.trans (Exb.of ea)) (q2.ex ea) r
theorem ok_items (B : Blt mg) (F : Df K mg "_law_items" sItems f fd) (CN : Cal P w K mg base CX0 1 "_law_next" ["_law_tape_here", "_law_many"] spNext fN fdN) : ∀ n : Nat, Cal P w K mg base CX0 (n + 1) "_law_items" ["_law_tape_here", "_law_depth", "_law_pool"] (spItems n) f fd
  | 0 => by
    have no : ∀ vs H Q E, ¬ spItems 0 vs H Q E := fun vs H Q E h => by
      obtain ⟨_, _, _, _, _, _, _, _, _, z, _⟩ := h
      exact absurd z (Nat.not_lt_zero _)
    exact F.cal ⟨fun vs H Q E h => absurd h (no vs H Q E), fun A outer s H args us vs Q E _ _ _ _ h => absurd h (no vs H Q E)⟩ fun _ _ _ _ _ _ us hl => match us, hl with | [_, _, _], _ => rfl
  | n + 1 => ok_items1 B F CN (ok_items B F CN n)
end
end GF
set_option Elab.async false
set_option linter.all false
set_option maxRecDepth 100000
set_option maxHeartbeats 4000000
/-! Gf10: the turner, deepened. -/
namespace GF
open PySem L2 Evl
section
variable {K : PySem.W.Frag} {σ : L2.St} {H H' : Hp} {ta tb te tx : TE} {t u : TT} {ss : List Sd} {D : Ends} {tu tw tz : TS} {l : Addr}
/-- a + b of tuples, a not empty -/
theorem ed_catT {xs ys : List Dt} (ha : EvD ta σ H (.t xs)) (hb : EvD tb σ H (.t ys)) (hx : xs ≠ []) (hz : xs.length + ys.length ≤ 1000) : EvD (tOp (rCatT K) ta tb) σ H (.t (xs ++ ys)) := fun H1 e Q q =>
  ha H1 e _ fun v H2 e2 r => hb H2 (e.trans e2) _ fun u H3 e3 r3 => by
    obtain ⟨a, vs, rfl, h1, h2⟩ := r.tup
    obtain ⟨b, us, rfl, g1, g2⟩ := r3.tup
    have l1 := h2.len
    have l2 := g2.len
    refine ⟨a, b, vs, us, rfl, rfl, Or.inl (Or.inl (e3 _ _ h1)), Or.inl (Or.inl g1), fun z => hx (List.length_eq_zero_iff.mp (by rw [← l1, z]; rfl)), sz_of (by omega), fun z => ?_, fun _ p hp => ?_⟩
    · have hy : ys = [] := List.length_eq_zero_iff.mp (by rw [← l2, z]; rfl)
      subst hy
      exact q _ H3 (e2.trans e3) (by rw [List.append_nil]; exact r.ex e3)
    · exact q _ _ ((e2.trans e3).trans (Ex.new hp)) (.t upd_same (((h2.ex e3).app g2).ex (Ex.new hp)))
theorem ex_tup1 {P1 : Dt → Prop} (ha : EvX l ta σ H P1) : EvX l (tTup (tCons ta tNil)) σ H (fun d => ∃ a, P1 a ∧ d = .t [a]) := fun H1 x t Q q =>
  ha H1 x t _ fun v d H2 p2 x2 t2 r2 => ⟨by show 1 ≤ sizeLine; decide, fun p hp => q _ _ _ ⟨d, p2, rfl⟩ (x2.trans (Exb.of (Ex.new hp))) (t2.ex (Ex.new hp)) (.t upd_same (.cons (r2.ex (Ex.new hp)) .nil))⟩
theorem cut_tail (x : Dt) (r : List Dt) : cutD (x :: r) (some 1) none = r := by
  unfold cutD
  have h1 : HT.sIx (x :: r).length 0 (some 1) = 1 := by
    unfold HT.sIx
    simp
  have h2 : HT.sIx (x :: r).length (x :: r).length none = r.length + 1 := by
    unfold HT.sIx
    simp
  rw [h1, h2]
  simp
theorem cut_tailnw (x : Dt) (r : List Dt) : ¬ (HT.sIx (x :: r).length 0 (some 1) = 0 ∧ HT.sIx (x :: r).length (x :: r).length none = (x :: r).length) := fun h => by
  have h1 : HT.sIx (x :: r).length 0 (some 1) = 1 := by
    unfold HT.sIx
    simp
  rw [h1] at h
  omega
end
def RulesOk (n : Nat) (R : Rules) : Prop := R.length ≤ 4 ∧ (∀ r ∈ R, Ltr r.1) ∧ ∀ r ∈ R, deps r.2 ≤ n
def spTurner (K : PySem.W.Frag) : Sp := fun vs H Q _ => ∃ (a : Addr) (ns : List Int) (st : Nat) (l : Addr) (xs : List Str), vs = [.ref a, .int (st : Int), .int 4, .ref l, .int 2] ∧ SqL K H a (ns.map V.int) ∧ Ls H l (xs.map .s) ∧ (∀ x ∈ xs, Ltr x) ∧ xs.length = 9 ∧
  ∀ R v H', Ex H H' → RulesOk 2 R → Rp H' v (encRs R) → Q v H'
def spDeepened : Sp := fun vs H Q _ => ∃ (v0 : V) (R : Rules) (c : Int) (l : Addr) (xs : List Str), vs = [v0, .int c, .ref l, .int 5] ∧ Rp H v0 (encRs R) ∧ RulesOk 2 R ∧ Ls H l (xs.map .s) ∧ (∀ x ∈ xs, Ltr x) ∧ xs.length = 9 ∧
  ∀ R' v H', Ex H H' → RulesOk 5 R' → Rp H' v (encRs R') → Q v H'
section
variable {P : Program} {w : World} {K : PySem.W.Frag} {mg : Str → Option Value} {base : Heap} {f fC fT fN fI fB fO : Addr} {fd fdC fdT fdN fdI fdB fdO : FuncData}
abbrev nTurner : List Str := ["_law_script", "_law_start", "_law_most", "_law_pool", "_law_deep", "_law_first", "_law_rules", "_law_k", "_law_tape_here", "_law_depth"]
theorem scTurner : FnScope nTurner ["_law_script", "_law_start", "_law_most", "_law_pool", "_law_deep"] (defScope sTurner) := ⟨rfl, rfl, rfl, by decide +kernel, rfl, by decide +kernel, by decide +kernel⟩
theorem ok_turner (B : Blt mg) (F : Df K mg "_law_turner" sTurner f fd) (CC : Cal P w K mg base CX0 1 "_law_cell_at" ["_law_script", "_law_k"] (spCellAt K) fC fdC) (CT : Cal P w K mg base CX0 2 "_law_tape" ["_law_cell", "_law_many"] spTape fT fdT)
    (CN : Cal P w K mg base CX0 1 "_law_next" ["_law_tape_here", "_law_many"] spNext fN fdN) (CI : Cal P w K mg base CX0 3 "_law_items" ["_law_tape_here", "_law_depth", "_law_pool"] (spItems 2) fI fdI) :
    Cal P w K mg base CX0 4 "_law_turner" ["_law_script", "_law_start", "_law_most", "_law_pool", "_law_deep"] (spTurner K) f fd := by
  refine F.cal (F.fn.ok scTurner (fun vs H Q E h => ?_) (fun cdv A outer s H vs Q E hr h => ?_)) fun _ _ _ _ _ _ us hl => match us, hl with | [_, _, _, _, _], _ => rfl
  · obtain ⟨a, ns, st, l, xs, rfl, _⟩ := h
    rfl
  obtain ⟨a, ns, st, pl, xs, rfl, hS, hP, hL, h9, q⟩ := h
  have S : Sl H (L2.start nTurner [.ref a, .int (st : Int), .int 4, .ref pl, .int 2]) [.v (.ref a), .d (eN st), .d (.i 4), .v (.ref pl), .d (eN 2), .no, .no, .no, .no, .no] :=
    .cons rfl (.cons ⟨_, rfl, .i _⟩ (.cons ⟨_, rfl, .i _⟩ (.cons rfl (.cons ⟨_, rfl, .i _⟩ (Sl.rep 5)))))
  have hr1 : Room 1 _ := hr.mono (by decide)
  have hr2 : Room 2 _ := hr.mono (by decide)
  have hr3 : Room 3 _ := hr.mono (by decide)
  refine ⟨_, pss_cons (ps_set (i := 5) scTurner.nd rfl (Or.inl rfl) (pe_cal CC hr1 (pa_cons (pv 0) (pa_cons (pv 1) pa_nil))))
    (pss_cons (ps_set (i := 6) scTurner.nd rfl (Or.inl rfl) (pe_lst pa_nil))
    (pss_cons (ps_for PassesOwn.never rfl (pi_range1 (by rfl) B.range (pa_cons (pe_op op_mod (pv 5) (pe_op op_add (pv 2) pe_int)) pa_nil)) (pg_name (i := 7) scTurner.nd rfl (Or.inl rfl))
      (pss_cons (ps_set (i := 8) scTurner.nd rfl (Or.inl rfl) (pe_cal CT hr2 (pa_cons (pe_cal CC hr1 (pa_cons (pv 0) (pa_cons (pe_op op_add (pe_op op_add (pv 1) pe_int) (pv 7)) pa_nil))) (pa_cons pe_int pa_nil))))
      (pss_cons (ps_set (i := 9) scTurner.nd rfl (Or.inl rfl) (pe_cal CN hr1 (pa_cons (pv 8) (pa_cons (pv 4) pa_nil))))
      (pss_one (ps_expr (pe_bm PySem.F.plainAttrs_list PySem.F.slot_list_append PySem.F.type_list_append mt_append (pv 6) (pa_cons (pe_tup (pa_cons (pe_ix (ixL K) (pv 3) (pe_op op_mod (pe_op op_add (pe_op op_fdiv (pv 5) pe_int) (pe_op op_mul pe_int (pv 7))) pe_int) (fun _ _ => rfl))
        (pa_cons (pe_cal CI hr3 (pa_cons (pv 8) (pa_cons (pv 9) (pa_cons (pv 3) pa_nil)))) pa_nil))) pa_nil)))))))
    (pss_one (ps_ret (pe_callTy (tupK K) (by rfl) B.tuple (by decide +kernel) (pa_cons (pv 6) pa_nil)))))), ?_⟩
  refine qs_set S (ed_cell S rfl hS (ed_var S rfl) (by omega)) fun σ1 H1 e1 S1 => ?_
  generalize cellV ns st = fi at S1
  refine qs_setN S1 (en_lst ds_nil (by simp)) fun p σ2 H2 hp e2 L2' S2 => ?_
  have E2 := e1.trans e2
  have hp0 : H p = none := fresh_back e1 hp
  obtain ⟨n, hn, hn4⟩ : ∃ n : Nat, fi % (4 + 1) = (n : Int) ∧ n ≤ 4 := by
    have h1 := Int.emod_nonneg fi (b := 5) (by decide)
    have h2 := Int.emod_lt_of_pos fi (b := 5) (by decide)
    exact ⟨(fi % 5).toNat, by omega, by omega⟩
  refine qd_forR (n := n) (ds_cons (ed_is (ed_iC (ed_var S2 rfl) (ed_i0 (ed_var S2 rfl) ed_int) (by decide)) (by rw [← hn])) ds_nil) (by omega)
    (fun i σ' H' => Ex H H' ∧ Sl H' σ' [.v (.ref a), .d (eN st), .d (.i 4), .v (.ref pl), .d (eN 2), .d (.i fi), .v (.ref p), .no, .no, .no] ∧ ∃ R : Rules, Ls H' p (R.map encRule) ∧ R.length = i ∧ (∀ r ∈ R, Ltr r.1) ∧ ∀ r ∈ R, deps r.2 ≤ 2)
    (fun Ha e => ⟨E2.trans e, S2.ex e, [], L2'.ex e, rfl, by simp, by simp⟩) (fun i σ' H' hi pv => ?_) (fun σ' H' pv => ?_)
  · obtain ⟨q1, q2, R, q3, q4, q5, q6⟩ := pv
    have T1 := q2.setD 7 (.i (i : Int))
    refine qt_set T1 (et_tape (m := 120) (ed_cell T1 rfl (ex_l q1 hS) (ed_i0 (ed_i0 (ed_var T1 rfl) ed_int) (ed_var T1 rfl)) (by omega)) ed_int (by decide)) fun l1 σ3 H3 hl1 e3 t3 S3 => ?_
    have npl : p ≠ l1 := q3.ne hl1
    have P3 : Ls H3 pl (xs.map .s) := (hP.ex q1).ex e3
    have nP : pl ≠ l1 := (hP.ex q1).ne hl1
    refine qx_set S3 rfl t3 (ex_next (m := 2) (fun Ha x t => ev_varV (Txb x t3 S3 rfl) rfl) (fun Ha x t => ed_var (Txb x t3 S3 rfl) rfl) (by decide)) fun d4 σ4 H4 hd4 x4 t4 S4 => ?_
    obtain ⟨dp, hdp, rfl⟩ := hd4
    have hj : ∃ j : Nat, (fi / 16 + 2 * (i : Int)) % 9 = (j : Int) ∧ j < 9 := by
      have h1 := Int.emod_nonneg (fi / 16 + 2 * (i : Int)) (b := 9) (by decide)
      have h2 := Int.emod_lt_of_pos (fi / 16 + 2 * (i : Int)) (b := 9) (by decide)
      exact ⟨((fi / 16 + 2 * (i : Int)) % 9).toNat, by omega, by omega⟩
    obtain ⟨j, hj1, hj2⟩ := hj
    refine sx_app (ev_varV S4 rfl) (x4.ls t3 npl (q3.ex e3)) t4 npl (ex_tup2 (ex_of (d := .s (xs.getD j (("" : Str)))) fun Ha x t => ed_ixL (k := (j : Int)) (er_varA (Txb x t4 S4 rfl) rfl ((x4.trans x).ls t3 nP P3)) (ed_is (ed_iC (ed_i0 (ed_iC (ed_var (Txb x t4 S4 rfl) rfl) ed_int ⟨by decide, by decide⟩) (ed_iC ed_int (ed_var (Txb x t4 S4 rfl) rfl) (.inl ⟨by decide, by decide⟩))) ed_int (by decide)) (by rw [← hj1])) (atI_nat (by rw [List.getElem?_map, get_lt (("" : Str)) (by omega)]; rfl)))
      (P2 := fun z => ∃ ks : List Item, deps ks ≤ 2 ∧ z = .t (ks.map encI)) (fun Ha x t Qd qd => ?_)) (by rw [List.length_map]; omega) fun d H5 H6 hd x5 t5 b6 t6 L6 => ?_
    · have Sd0 := Txb x t4 S4 rfl
      refine (ea_cons (ev_varV Sd0 rfl) (ea_cons (ev_int (ed_var Sd0 rfl)) (ea_cons (ev_varV Sd0 rfl) ea_nil))) Ha (Ex.refl Ha) _ fun He ee => ?_
      exact ⟨l1, dp, pl, xs, rfl, t.ex ee, (((x4.trans x)).ls t3 nP P3).ex ee, nP, h9, hdp, fun ks v Hf hk xf tf rf => qd v _ Hf ⟨ks, by omega, rfl⟩ ((Exb.of ee).trans xf) tf rf⟩
    · obtain ⟨a1, b1, rfl, ⟨ks, hks, rfl⟩, rfl⟩ := hd
      have E5 : Ex H' H5 := (x4.trans x5).ex e3 hl1
      have hp5 : H p = none := hp0
      refine ⟨b6.ex (q1.trans E5) hp0, (((Txb x5 t4 S4 rfl).tk b6.tk rfl).drop 7).drop 8 |>.drop 9, R ++ [(xs.getD j (("" : Str)), ks)], ?_, by simp [q4], fun r hr => ?_, fun r hr => ?_⟩
      · rw [List.map_append]
        exact L6
      · rcases List.mem_append.mp hr with h | h
        · exact q5 r h
        · rw [List.mem_singleton.mp h]
          exact hL _ (getD_mem _ (by omega))
      · rcases List.mem_append.mp hr with h | h
        · exact q6 r h
        · rw [List.mem_singleton.mp h]
          exact hks
  · obtain ⟨q1, q2, R, q3, q4, q5, q6⟩ := pv
    exact sd_ret (ed_tupL (er_varA q2 rfl q3)) fun v Ha ea r => q R v Ha (q1.trans ea) ⟨by omega, q5, q6⟩ r
abbrev nDeepened : List Str := ["_law_rules", "_law_cell", "_law_pool", "_law_most", "_law_tape_here", "_law_items_here", "_law_k"]
theorem scDeepened : FnScope nDeepened ["_law_rules", "_law_cell", "_law_pool", "_law_most"] (defScope sDeepened) := ⟨rfl, rfl, rfl, by decide +kernel, rfl, by decide +kernel, by decide +kernel⟩
theorem ok_deepened (B : Blt mg) (F : Df K mg "_law_deepened" sDeepened f fd) (CT : Cal P w K mg base CX0 2 "_law_tape" ["_law_cell", "_law_many"] spTape fT fdT)
    (CN : Cal P w K mg base CX0 1 "_law_next" ["_law_tape_here", "_law_many"] spNext fN fdN) : Cal P w K mg base CX0 3 "_law_deepened" ["_law_rules", "_law_cell", "_law_pool", "_law_most"] spDeepened f fd := by
  refine F.cal (F.fn.ok scDeepened (fun vs H Q E h => ?_) (fun cdv A outer s H vs Q E hr h => ?_)) fun _ _ _ _ _ _ us hl => match us, hl with | [_, _, _, _], _ => rfl
  · obtain ⟨v0, R, c, l, xs, rfl, _⟩ := h
    rfl
  obtain ⟨v0, R, c, pl, xs, rfl, hv0, hR, hP, hL, h9, q⟩ := h
  have S : Sl H (L2.start nDeepened [v0, .int c, .ref pl, .int 5]) [.d (encRs R), .d (.i c), .v (.ref pl), .d (eN 5), .no, .no, .no] :=
    .cons ⟨_, rfl, hv0⟩ (.cons ⟨_, rfl, .i _⟩ (.cons rfl (.cons ⟨_, rfl, .i _⟩ (Sl.rep 3))))
  have hr1 : Room 1 _ := hr.mono (by decide)
  have hr2 : Room 2 _ := hr.mono (by decide)
  refine ⟨_, pss_cons (ps_set (i := 4) scDeepened.nd rfl (Or.inl rfl) (pe_cal CT hr2 (pa_cons (pv 1) (pa_cons pe_int pa_nil))))
    (pss_cons (ps_if (PW.pt (pw_or (pt_cmpR op_gt (pe_cal CN hr1 (pa_cons (pv 4) (pa_cons pe_int pa_nil))) pe_int (nomark _)) (pw_or1 (pt_cmpR op_eq (pe_callB (lenK K) (by rfl) B.len PySem.boot_len (pa_cons (pv 0) pa_nil)) pe_int (nomark _))))) (pss_one (ps_ret (pv 0))) pss_nil)
    (pss_cons (ps_set (i := 5) scDeepened.nd rfl (Or.inl rfl) (pe_tup (pa_cons pe_str pa_nil)))
    (pss_cons (ps_for PassesOwn.never rfl (pi_range1 (by rfl) B.range (pa_cons (pe_cal CN hr1 (pa_cons (pv 4) (pa_cons (pe_op op_add (pv 3) pe_int) pa_nil))) pa_nil)) (pg_name (i := 6) scDeepened.nd rfl (Or.inl rfl))
      (pss_cons (ps_set (i := 5) scDeepened.nd rfl (Or.inl rfl) (pe_tup (pa_cons (pe_tup (pa_cons (pe_ix (ixL K) (pv 2) (pe_cal CN hr1 (pa_cons (pv 4) (pa_cons pe_int pa_nil))) (fun _ _ => rfl)) (pa_cons (pv 5) pa_nil))) pa_nil)))
      (pss_one (ps_if (pt_cmpR op_eq (pe_cal CN hr1 (pa_cons (pv 4) (pa_cons pe_int pa_nil))) pe_int (nomark _)) (pss_one (ps_set (i := 5) scDeepened.nd rfl (Or.inl rfl) (pe_op op_catT (pv 5) (pe_tup (pa_cons pe_str pa_nil))))) pss_nil))))
    (pss_one (ps_ret (pe_op op_catT (pe_tup (pa_cons (pe_tup (pa_cons (pe_ix (ixT K) (pe_ix (ixT K) (pv 0) pe_int (fun _ _ => rfl)) pe_int (fun _ _ => rfl)) (pa_cons (pv 5) pa_nil))) pa_nil)) (pe_slice sl_tup (pv 0) (po_some pe_int) po_none))))))), ?_⟩
  refine qt_set S (et_tape (m := 20) (ed_var S rfl) ed_int (by decide)) fun l σ1 H1 hl e1 t1 S1 => ?_
  have nP : pl ≠ l := hP.ne hl
  have P1 := hP.ex e1
  refine qx_if t1 (etx_or (etx_gt (ex_next (m := 3) (fun Ha x t => ev_varV (Txb x t1 S1 rfl) rfl) (fun Ha x t => ed_int) (by decide)))
    (P2 := fun b => b = false → R ≠ []) (fun Ha x t Q' q' => (et_ed (ed_eq (ed_lenT (ed_var (Txb x t1 S1 rfl) rfl)) ed_int rfl rfl rfl)) Ha (Ex.refl Ha) _ fun Hb e => q' _ Hb (fun hb z => ?_) (Exb.of e) (t.ex e))) (fun _ H2 x2 t2 => ?_) (fun hne H2 x2 t2 => ?_)
  · subst z
    exact absurd (of_decide_eq_false hb) (by simp)
  · exact sd_ret (ed_var (Txb x2 t1 S1 rfl) rfl) fun v H3 e3 r => q R v H3 ((x2.ex e1 hl).trans e3) ⟨hR.1, hR.2.1, fun r hr => Nat.le_trans (hR.2.2 r hr) (by decide)⟩ r
  · have hne : R ≠ [] := hne rfl rfl
    have S2 := Txb x2 t1 S1 rfl
    refine qs_set (d := .t ([Item.hole].map encI)) S2 (ed_is (ed_tup (ds_cons ed_str ds_nil) (by simp)) (by simp [encI])) fun σ3 H3 e3 S3 => ?_
    have t3 := t2.ex e3
    have x3 : Exb l H1 H3 := x2.trans (Exb.of e3)
    refine qx_forR (m := 6) t3 (ex_next (m := 6) (fun Ha x t => ev_varV (Txb x t3 S3 rfl) rfl) (fun Ha x t => ed_is (ed_i0 (ed_var (Txb x t3 S3 rfl) rfl) ed_int) rfl) (by decide)) (by decide)
      (fun i σ' H' => Exb l H1 H' ∧ Tp H' l ∧ ∃ its : List Item, Sl H' σ' [.d (encRs R), .d (.i c), .v (.ref pl), .d (eN 5), .v (.ref l), .d (.t (its.map encI)), .no] ∧ deps its ≤ i ∧ its.length ≤ 2)
      (fun Ha x t => ⟨x3.trans x, t, [.hole], Txb x t3 S3 rfl, by rw [deps, deps, Item.dep]; omega, by simp⟩) (fun i σ' H' hi pv => ?_) (fun n σ' H' hn pv => ?_)
    · obtain ⟨q1, q2, its, q3, q4, q5⟩ := pv
      have T1 := q3.setN 6 (some (.int (i : Int)))
      refine qx_set T1 rfl q2 (ex_tup1 (ex_tup2 (ex_pool (m := 9) (xs := xs) (fun Hb x2 t2 => ev_varV (Txb x2 q2 T1 rfl) rfl) (q1.ls t1 nP P1) q2 nP (by rw [h9]; exact ex_next (m := 9) (fun Hc xc tc => ev_varV (Txb xc q2 T1 rfl) rfl) (fun Hc xc tc => ed_int) (by decide)))
          (ex_of fun Hb x2 t2 => ed_var (Txb x2 q2 T1 rfl) rfl))) fun d4 σ4 H4 hd4 x4 t4 S4 => ?_
      · obtain ⟨d5, ⟨a1, b1, ⟨nm, _, rfl⟩, rfl, rfl⟩, rfl⟩ := hd4
        have S5 : Sl H4 σ4 [.d (encRs R), .d (.i c), .v (.ref pl), .d (eN 5), .v (.ref l), .d (.t ([Item.el nm its].map encI)), .no] := by
          rw [List.map_singleton, encI_el]
          exact S4
        refine sx_if t4 (etx_eq (ex_next (m := 4) (fun Ha x t => ev_varV (Txb x t4 S5 rfl) rfl) (fun Ha x t => ed_int) (by decide))) (fun _ Ha x t => ?_) (fun _ Ha x t => ?_)
        · have Sa := Txb x t4 S5 rfl
          exact ss_set (d := .t ([Item.el nm its, .hole].map encI)) Sa (ed_is (ed_catT (ed_var Sa rfl) (ed_tup (ds_cons ed_str ds_nil) (by simp)) (by simp) (by simp)) (by simp [encI])) fun σb Hb eb Sb =>
            ⟨((q1.trans x4).trans x).trans (Exb.of eb), t.ex eb, _, Sb, by rw [deps, deps, deps, Item.dep, Item.dep]; omega, by simp⟩
        · exact ⟨(q1.trans x4).trans x, t, [.el nm its], Txb x t4 S5 rfl, by rw [deps, deps, Item.dep]; omega, by simp⟩
    · obtain ⟨q1, q2, its, q3, q4, q5⟩ := pv
      obtain ⟨r0, R1, rfl⟩ : ∃ r0 R1, R = r0 :: R1 := by
        cases R with
        | nil => exact absurd rfl hne
        | cons a b => exact ⟨a, b, rfl⟩
      have hl4 : R1.length + 1 ≤ 4 := hR.1
      refine sd_ret (d := encRs ((r0.1, its) :: R1)) (ed_is (ed_catT (xs := [.t [.s r0.1, .t (its.map encI)]]) (ys := R1.map encRule) (ed_tup (ds_cons (ed_tup (ds_cons (ed_ixT (ed_ixT (ds := encRule r0 :: R1.map encRule) (d := encRule r0) (ed_var q3 rfl) ed_int (atI_nat (xs := encRule r0 :: R1.map encRule) (j := 0) rfl)) ed_int rfl) (ds_cons (ed_var q3 rfl) ds_nil)) (by simp)) ds_nil) (by simp))
        (ed_is (ed_slT (ed_var q3 rfl) (eo_d ed_int) eo_none (cut_tailnw _ _)) (by rw [List.map_cons, cut_tail])) (by simp) (by simp; omega)) rfl) fun v Ha ea r => ?_
      refine q ((r0.1, its) :: R1) v Ha ((q1.ex e1 hl).trans ea) ⟨hR.1, fun r hr => ?_, fun r hr => ?_⟩ r
      · rcases List.mem_cons.mp hr with rfl | h
        · exact hR.2.1 r0 List.mem_cons_self
        · exact hR.2.1 r (List.mem_cons_of_mem _ h)
      · rcases List.mem_cons.mp hr with rfl | h
        · show deps its ≤ 5
          omega
        · exact Nat.le_trans (hR.2.2 r (List.mem_cons_of_mem _ h)) (by decide)
end
end GF
set_option Elab.async false
set_option linter.all false
set_option maxRecDepth 100000
set_option maxHeartbeats 1000000
/-! Gf11: the documents by cells. -/
namespace GF
open PySem L2 Evl
/-- a list of lists of numbers -/
structure KidH (H : Hp) (p : Addr) (as : List Addr) (kd : Nat → List Nat) : Prop where
  top : H p = some (.lst (as.map V.ref))
  nd : as.Nodup
  no : p ∉ as
  ls : ∀ k a, as[k]? = some a → Ls H a ((kd k).map eN)
theorem KidH.ex {H H' : Hp} (e : Ex H H') {p : Addr} {as : List Addr} {kd : Nat → List Nat} (h : KidH H p as kd) : KidH H' p as kd := ⟨e _ _ h.top, h.nd, h.no, fun k a q => (h.ls k a q).ex e⟩
theorem KidH.bt {H H' : Hp} {l p : Addr} {as : List Addr} {kd : Nat → List Nat} (b : Bt l H H') (n1 : p ≠ l) (n2 : l ∉ as) (h : KidH H p as kd) : KidH H' p as kd :=
  ⟨by rw [b.bt p n1]; exact h.top, h.nd, h.no, fun k a q => b.ls (fun z => n2 (z ▸ List.mem_of_getElem? q)) (h.ls k a q)⟩
theorem nodup_get {α : Type} {l : List α} (n : l.Nodup) {i j : Nat} {a : α} (hi : l[i]? = some a) (hj : l[j]? = some a) : i = j := by
  obtain ⟨h1, e1⟩ := List.getElem?_eq_some_iff.mp hi
  obtain ⟨h2, e2⟩ := List.getElem?_eq_some_iff.mp hj
  have pw := List.pairwise_iff_getElem.mp n
  rcases Nat.lt_trichotomy i j with h | h | h
  · exact absurd (e1.trans e2.symm) (pw i j h1 h2 h)
  · exact h
  · exact absurd (e2.trans e1.symm) (pw j i h2 h1 h)
theorem KidH.app {H H' : Hp} {a p : Addr} {as : List Addr} {kd : Nat → List Nat} {k : Nat} {ns : List Nat} (b : Bt a H H') (hk : as[k]? = some a) (L : Ls H' a (ns.map eN)) (h : KidH H p as kd) : KidH H' p as (fun i => if i = k then ns else kd i) := by
  have hm := List.mem_of_getElem? hk
  refine ⟨by rw [b.bt p (fun z => h.no (z ▸ hm))]; exact h.top, h.nd, h.no, fun i c q => ?_⟩
  by_cases e : i = k
  · subst e
    rw [hk] at q
    cases q
    rw [if_pos rfl]
    exact L
  · rw [if_neg e]
    exact b.ls (fun z => e (nodup_get h.nd q (z ▸ hk))) (h.ls i c q)
section
variable {K : PySem.W.Frag} {σ : L2.St} {H H' : Hp} {ta tb te tx tl : TE} {t u : TT} {ss : List Sd} {D : Ends} {tu tw tz : TS} {l : Addr}
theorem ev_ixR {p a : Addr} {as : List Addr} {j : Nat} (ha : Ev ta σ H (.ref p)) (h : H p = some (.lst (as.map V.ref))) (hb : EvD tb σ H (.i (j : Int))) (hj : as[j]? = some a) : Ev (tOp (rIxL K) ta tb) σ H (.ref a) := fun H1 e Q q =>
  ha H1 e _ fun H2 e2 => hb H2 (e.trans e2) _ fun w H3 e3 r => by
    rw [r.int]
    exact ⟨p, as.map V.ref, (j : Int), .ref a, rfl, rfl, sq_of (((e.trans e2).trans e3) _ _ h), atI_nat (by rw [List.getElem?_map, hj]; rfl), q H3 (e2.trans e3)⟩
theorem er_ev {a : Addr} {ds : List Dt} (h : Ev te σ H (.ref a)) (L : Ls H a ds) : EvR te σ H ds := fun H1 e Q q => h H1 e Q fun H2 e2 => q a H2 e2 (L.ex (e.trans e2))
theorem er_kid {p : Addr} {as : List Addr} {kd : Nat → List Nat} {j : Nat} (ha : Ev ta σ H (.ref p)) (h : KidH H p as kd) (hb : EvD tb σ H (.i (j : Int))) (hj : j < as.length) : EvR (tOp (rIxL K) ta tb) σ H ((kd j).map eN) :=
  er_ev (ev_ixR ha h.top hb (List.getElem?_eq_getElem hj)) (h.ls j _ (List.getElem?_eq_getElem hj))
/-- [[] for .. in ds] -/
def EvK (te : TE) (σ : L2.St) (H : Hp) (n : Nat) : Prop := ∀ Q : VK, (∀ p as H', H p = none → (∀ a ∈ as, H a = none) → Ex H H' → as.length = n → KidH H' p as (fun _ => []) → Q (.ref p) H') → te σ H Q
def KidB (H1 : Hp) (Dl : Addr) (i : Nat) (H' : Hp) : Prop := Ex H1 H' ∧ ∃ as : List Addr, H' Dl = some (.lst (as.map V.ref)) ∧ as.length = i ∧ as.Nodup ∧ Dl ∉ as ∧ ∀ a ∈ as, H1 a = none ∧ H' a = some (.lst [])
theorem ek_lc {j : Nat} {ds : List Dt} (h : EvR tl σ H ds) (hn : ds.length ≤ 40000) : EvK (tLc (iList K tl) (gName j) tYes (tLst tNil) [j]) σ H ds.length := fun Q q => h H (Ex.refl H) _ fun a H1 e1 r => by
  obtain ⟨vs, h1, h2⟩ := r
  have hl := h2.len
  refine ⟨a, rfl, ⟨vs, sq_of h1⟩, fun Dl hD => ?_⟩
  refine lc_list (xs := vs) (KidB H1 Dl)
    ⟨Ex.new hD, [], upd_same, rfl, List.nodup_nil, by simp, by simp⟩ (fun i H' _ p => sq_of (p.1 _ _ h1)) (fun i x H' hi p => ?_) (fun H' p => ?_)
  · obtain ⟨p1, as, p2, p3, p4, p5, p6⟩ := p
    have hlt : i < vs.length := (List.getElem?_eq_some_iff.mp hi).1
    have es : (wipe σ [j]).set j (some x) = σ.set j (some x) := set2 σ j none _
    show wipe ((wipe σ [j]).set j (some x)) [j] = wipe σ [j] ∧ tYes ((wipe σ [j]).set j (some x)) H' _
    rw [es]
    refine ⟨set2 σ j _ none, ?_⟩
    show tLst tNil (σ.set j (some x)) H' fun y H4 => ∃ acc, H4 Dl = some (.lst acc) ∧ acc.length < sizeLine ∧ KidB H1 Dl (i + 1) (upd H4 Dl (.lst (acc ++ [y])))
    refine ⟨by show 0 ≤ sizeLine; decide, fun c hc => ?_⟩
    have ne : Dl ≠ c := fun z => by rw [← z, p2] at hc; cases hc
    have hc1 : H1 c = none := fresh_back p1 hc
    have nc : c ∉ as := fun z => by
      have := (p6 c z).2
      rw [hc] at this; cases this
    refine ⟨as.map V.ref, by rw [upd_ne ne]; exact p2, sz_lt (by rw [List.length_map]; omega), Ex.mut (p1.trans (Ex.new hc)) hD, as ++ [c], ?_, by rw [List.length_append, p3]; rfl, ?_, ?_, ?_⟩
    · rw [upd_same, List.map_append]; rfl
    · rw [List.nodup_append]
      exact ⟨p4, by simp, fun x hx y hy => by rw [List.mem_singleton.mp hy]; exact fun z => nc (z ▸ hx)⟩
    · intro z
      rcases List.mem_append.mp z with h | h
      · exact p5 h
      · exact ne (List.mem_singleton.mp h)
    · intro b hb
      rcases List.mem_append.mp hb with h | h
      · have hbD : b ≠ Dl := fun z => p5 (z ▸ h)
        have hbc : b ≠ c := fun z => nc (z ▸ h)
        refine ⟨(p6 b h).1, ?_⟩
        rw [upd_ne hbD, upd_ne hbc]
        exact (p6 b h).2
      · have hbc := List.mem_singleton.mp h
        subst hbc
        refine ⟨hc1, ?_⟩
        rw [upd_ne ne.symm, upd_same]
  · obtain ⟨p1, as, p2, p3, p4, p5, p6⟩ := p
    exact q Dl as H' (fresh_back e1 hD) (fun a ha => fresh_back e1 (p6 a ha).1) (e1.trans p1) (by rw [p3, hl]) ⟨p2, p4, p5, fun k a hk => ⟨[], (p6 a (List.mem_of_getElem? hk)).2, .nil⟩⟩
theorem qk_set {i n : Nat} (S : Sl H σ ss) (h : EvK te σ H n) (k : ∀ p as σ' H', H p = none → (∀ a ∈ as, H a = none) → Ex H H' → as.length = n → KidH H' p as (fun _ => []) → Sl H' σ' (ss.set i (.v (.ref p))) → tz D σ' H') : tSeq (tAsg te (gName i)) tz D σ H :=
  h _ fun p as H' h1 h2 e h3 h4 => k p as _ H' h1 h2 e h3 h4 ((S.ex e).setV i _)
/-- for k in reversed(range(n)) -/
theorem qd_forRev {j n : Nat} (h : EvD te σ H (.i (n : Int))) (hn : n ≤ 100000) (Pv : Nat → L2.St → Hp → Prop) (h0 : ∀ H1, Ex H H1 → Pv 0 σ H1)
    (hs : ∀ i σ' H', i < n → Pv i σ' H' → tu { D with nx := Pv (i + 1), ct := Pv (i + 1), bk := tz D } (σ'.set j (some (.int ((n - 1 - i : Nat) : Int)))) H') (hd : ∀ σ' H', Pv n σ' H' → tz D σ' H') : tSeq (tFor (iRevR (tRg1 te)) (gName j) tu) tz D σ H :=
  h H (Ex.refl H) _ fun v H1 e r => by
    refine ⟨(n : Int), r.int, by omega, by omega, by omega, by omega, ?_⟩
    have e0 : ((n : Int) - 0).toNat = n := by omega
    rw [e0]
    refine for_rangeC (D := { D with nx := tz D }) (n := n) Pv (h0 H1 e) (fun i σ' H' hi p => ?_) hd
    have e2 : (0 : Int) + (n : Int) - 1 + (i : Int) * (-1) = ((n - 1 - i : Nat) : Int) := by omega
    show tu { D with nx := Pv (i + 1), ct := Pv (i + 1), bk := tz D } (σ'.set j (some (.int ((0 : Int) + (n : Int) - 1 + (i : Int) * (-1))))) H'
    rw [e2]
    exact hs i σ' H' hi p
/-- for k in range(1, n) -/
theorem qd_forR1 {j n : Nat} {tr : TA} (h : EvDs tr σ H [.i 1, .i (n : Int)]) (h1 : 1 ≤ n) (hn : n ≤ 100000) (Pv : Nat → L2.St → Hp → Prop) (h0 : ∀ H1, Ex H H1 → Pv 1 σ H1)
    (hs : ∀ i σ' H', 1 ≤ i → i < n → Pv i σ' H' → tu { D with nx := Pv (i + 1), ct := Pv (i + 1), bk := tz D } (σ'.set j (some (.int (i : Int)))) H') (hd : ∀ σ' H', Pv n σ' H' → tz D σ' H') : tSeq (tFor (iRng2 tr) (gName j) tu) tz D σ H :=
  h H (Ex.refl H) _ fun vs H1 e r => by
    cases r with
    | cons r1 r2 =>
      cases r2 with
      | cons r3 r4 =>
        cases r4
        rw [r1.int, r3.int]
        have e0 : ((n : Int) - 1).toNat = n - 1 := by omega
        refine ⟨1, (n : Int), rfl, ⟨by omega, by omega, by omega, by omega⟩, ?_⟩
        rw [e0]
        refine for_range (D := { D with nx := tz D }) (lo := 1) (n := n - 1) (fun i => Pv (i + 1)) (h0 H1 e) (fun i σ' H' hi p => ?_) (fun σ' H' p => hd σ' H' (by
          have e3 : n - 1 + 1 = n := by omega
          rw [e3] at p
          exact p))
        have e2 : (1 : Int) + (i : Int) = ((i + 1 : Nat) : Int) := by omega
        show tu { D with nx := Pv (i + 1 + 1), ct := Pv (i + 1 + 1), bk := tz D } (σ'.set j (some (.int ((1 : Int) + (i : Int))))) H'
        rw [e2]
        exact hs (i + 1) σ' H' (by omega) (by omega) p
end
theorem set_range {α : Type} {n j : Nat} {f f' : Nat → α} {d : α} (hj : f' j = d) (hne : ∀ i, i ≠ j → f' i = f i) : ((List.range n).map f).set j d = (List.range n).map f' := by
  refine List.ext_getElem? fun i => ?_
  rw [List.getElem?_set]
  simp only [List.length_map, List.length_range, List.getElem?_map]
  by_cases e : j = i
  · subst e
    rw [if_pos rfl]
    by_cases h : j < n
    · rw [if_pos h, List.getElem?_range h, ← hj]; rfl
    · rw [if_neg h, List.getElem?_eq_none (by rw [List.length_range]; omega)]; rfl
  · rw [if_neg e]
    by_cases h : i < n
    · rw [List.getElem?_range h]
      show some (f i) = some (f' i)
      rw [hne i (Ne.symm e)]
    · rw [List.getElem?_eq_none (by rw [List.length_range]; omega)]; rfl
theorem map_const {α β : Type} {d : β} : ∀ (l : List α) {f : Nat → β}, (∀ i, i < l.length → f i = d) → l.map (fun _ => d) = (List.range l.length).map f := fun l f h => by
  refine List.ext_getElem? fun i => ?_
  rw [List.getElem?_map, List.getElem?_map]
  by_cases hi : i < l.length
  · rw [List.getElem?_range hi, List.getElem?_eq_getElem hi]
    show some d = some (f i)
    rw [h i hi]
  · rw [List.getElem?_eq_none (by omega), List.getElem?_eq_none (by rw [List.length_range]; omega)]; rfl
abbrev noDoc : Doc := .mk (("" : Str)) []
structure DocsOk (H : Hp) (pd pk : Addr) (n : Nat) (docs : List Doc) (as : List Addr) (kd : Nat → List Nat) : Prop where
  len : docs.length = n
  alen : as.length = n
  L : Ls H pd (docs.map encC)
  K : KidH H pk as kd
  made : ∀ k, k < n → ∃ nm, Ltr nm ∧ docs[k]? = some (.mk nm ((kd k).map fun j => docs.getD j noDoc))
  kb : ∀ k j, j ∈ kd k → k < j ∧ j < n
  nd : ∀ k, (kd k).Nodup
def spFreeDocs : Sp := fun vs H Q _ => ∃ (pc : Addr) (cells : List Int) (pl : Addr) (xs : List Str), vs = [.ref pc, .ref pl] ∧ Ls H pc (cells.map .i) ∧ 1 ≤ cells.length ∧ cells.length ≤ 12 ∧ Ls H pl (xs.map .s) ∧ (∀ x ∈ xs, Ltr x) ∧ xs.length = 9 ∧
  ∀ a pd pk docs as kd H', Ex H H' → H' a = some (.tup [.ref pd, .ref pk]) → DocsOk H' pd pk cells.length docs as kd → Q (.ref a) H'
section
variable {P : Program} {w : World} {K : PySem.W.Frag} {mg : Str → Option Value} {base : Heap} {f fC fT fN fI fB fO : Addr} {fd fdC fdT fdN fdI fdB fdO : FuncData}
abbrev nFreeDocs : List Str := ["_law_cells", "_law_pool", "_law_way_here", "_law_kids", "_law_k", "_law_number", "_law_above", "_law_docs", "_law_j"]
theorem scFreeDocs : FnScope nFreeDocs ["_law_cells", "_law_pool"] (defScope sFreeDocs) := ⟨rfl, rfl, rfl, by decide +kernel, rfl, by decide +kernel, by decide +kernel⟩
theorem ok_free_docs (B : Blt mg) (F : Df K mg "_law_free_docs" sFreeDocs f fd) : Cal P w K mg base CX0 1 "_law_free_docs" ["_law_cells", "_law_pool"] spFreeDocs f fd := by
  refine F.cal (F.fn.ok scFreeDocs (fun vs H Q E h => ?_) (fun cdv A outer s H vs Q E hr h => ?_)) fun _ _ _ _ _ _ us hl => match us, hl with | [_, _], _ => rfl
  · obtain ⟨pc, cells, pl, xs, rfl, _⟩ := h
    rfl
  obtain ⟨pc, cells, pl, xs, rfl, hC, h1, h12, hP, hL, h9, q⟩ := h
  have S : Sl H (L2.start nFreeDocs [.ref pc, .ref pl]) [.v (.ref pc), .v (.ref pl), .no, .no, .no, .no, .no, .no, .no] := .cons rfl (.cons rfl (Sl.rep 7))
  refine ⟨_, pss_cons (ps_set (i := 2) scFreeDocs.nd rfl (Or.inl rfl) (pe_op op_mod (pe_ix (ixL K) (pv 0) pe_int (fun _ _ => rfl)) pe_int))
    (pss_cons (ps_setLc (i := 3) (own := [("_law_k", 4)]) (g := gName 4) (tt := tYes) rfl scFreeDocs.nd rfl rfl (sw_true rfl rfl rfl (by decide +kernel)) (pi_list (pv 0)) (blkOk_by (N := nFreeDocs) (sc := defScope sFreeDocs) (by decide +kernel))
      (fun _ _ _ _ _ => pg_name (i := 4) scFreeDocs.nd rfl (Or.inl rfl)) (fun _ _ _ _ _ => pts_nil) (fun _ _ _ _ _ => pe_lst pa_nil))
    (pss_cons (ps_for PassesOwn.never rfl (pi_range2 (by rfl) B.range (pa_cons pe_int (pa_cons (pe_callB (lenK K) (by rfl) B.len PySem.boot_len (pa_cons (pv 0) pa_nil)) pa_nil))) (pg_name (i := 4) scFreeDocs.nd rfl (Or.inl rfl))
      (pss_cons (ps_set (i := 5) scFreeDocs.nd rfl (Or.inl rfl) (pe_op op_fdiv (pe_op op_mod (pe_op op_mul (pe_ix (ixL K) (pv 0) (pv 4) (fun _ _ => rfl)) pe_int) pe_int) pe_int))
      (pss_cons (ps_set (i := 6) scFreeDocs.nd rfl (Or.inl rfl) (pe_ix (ixL K) (pe_lst (pa_cons (pe_op op_mod (pv 5) (pv 4)) (pa_cons (pe_op op_sub (pv 4) pe_int) (pa_cons pe_int (pa_cons (pe_op op_sub (pe_op op_sub (pv 4) pe_int) (pe_op op_mod (pv 5) (pe_callB (call_min2 rfl) (by rfl) B.min (by decide +kernel) (pa_cons (pv 4) (pa_cons pe_int pa_nil))))) pa_nil))))) (pv 2) (fun _ _ => rfl)))
      (pss_one (ps_expr (pe_bm PySem.F.plainAttrs_list PySem.F.slot_list_append PySem.F.type_list_append mt_append (pe_ix (ixL K) (pv 3) (pv 6) (fun _ _ => rfl)) (pa_cons (pv 4) pa_nil)))))))
    (pss_cons (ps_set (i := 7) scFreeDocs.nd rfl (Or.inr rfl) (pe_lc (own := [("_law_k", 4)]) (g := gName 4) (tt := tYes) rfl scFreeDocs.nd (pi_list (pv 0)) (blkOk_by (N := nFreeDocs) (sc := defScope sFreeDocs) (by decide +kernel))
      (fun _ _ _ _ _ => pg_name (i := 4) scFreeDocs.nd rfl (Or.inl rfl)) (fun _ _ _ _ _ => pts_nil) (fun _ _ _ _ _ => pe_non)))
    (pss_cons (ps_for PassesOwn.never rfl (pi_revR (by rfl) B.reversed (prg_1 (by rfl) B.range (pe_callB (lenK K) (by rfl) B.len PySem.boot_len (pa_cons (pv 0) pa_nil)))) (pg_name (i := 4) scFreeDocs.nd rfl (Or.inl rfl))
      (pss_one (ps_asg (pe_tup (pa_cons (pe_ix (ixL K) (pv 1) (pe_op op_mod (pe_op op_fdiv (pe_ix (ixL K) (pv 0) (pv 4) (fun _ _ => rfl)) pe_int) pe_int) (fun _ _ => rfl)) (pa_cons (pe_callTy (tupK K) (by rfl) B.tuple (by decide +kernel) (pa_cons
        (pe_lc (own := [("_law_j", 8)]) (g := gName 8) (tt := tYes) rfl scFreeDocs.nd (pi_list (pe_ix (ixL K) (pv 3) (pv 4) (fun _ _ => rfl))) (blkOk_by (N := nFreeDocs) (sc := defScope sFreeDocs) (by decide +kernel))
          (fun _ _ _ _ _ => pg_name (i := 8) scFreeDocs.nd rfl (Or.inl rfl)) (fun _ _ _ _ _ => pts_nil) (fun _ _ _ _ _ => pe_ix (ixL K) (pv 7) (pv 8) (fun _ _ => rfl))) pa_nil)) pa_nil)))
        (pg_sub (pv 7) (pv 4) set_list))))
    (pss_one (ps_ret (pe_tup (pa_cons (pv 7) (pa_cons (pv 3) pa_nil))))))))), ?_⟩
  -- the way
  obtain ⟨wv, hw1, hw2⟩ : ∃ wv : Nat, (cells.getD 0 0) % 4 = (wv : Int) ∧ wv < 4 := by
    have g1 := Int.emod_nonneg (cells.getD 0 0) (b := 4) (by decide)
    have g2 := Int.emod_lt_of_pos (cells.getD 0 0) (b := 4) (by decide)
    exact ⟨((cells.getD 0 0) % 4).toNat, by omega, by omega⟩
  refine qs_set (d := eN wv) S (ed_is (ed_iC (ed_ixL (er_varA S rfl hC) ed_int (atI_nat (j := 0) (by rw [List.getElem?_map, get_lt 0 h1]; rfl))) ed_int (by decide)) (by rw [hw1]; rfl)) fun σ1 H1 e1 S1 => ?_
  refine qk_set S1 (ek_lc (er_varA S1 rfl (hC.ex e1)) (by rw [List.length_map]; omega)) fun pk as σ2 H2 hpk has e2 las K2 S2 => ?_
  rw [List.length_map] at las
  have E2 := e1.trans e2
  have pk0 : H pk = none := fresh_back e1 hpk
  have as0 : ∀ a ∈ as, H a = none := fun a ha => fresh_back e1 (has a ha)
  refine qd_forR1 (n := cells.length) (ds_cons ed_int (ds_cons (ed_is (ed_lenL (er_varA S2 rfl (hC.ex E2))) (by rw [List.length_map])) ds_nil)) h1 (by omega)
    (fun i σ' H' => Ex H H' ∧ Sl H' σ' [.v (.ref pc), .v (.ref pl), .d (eN wv), .v (.ref pk), .no, .no, .no, .no, .no] ∧ ∃ kd : Nat → List Nat, KidH H' pk as kd ∧ (∀ k j, j ∈ kd k → k < j ∧ j < i) ∧ (∀ k, (kd k).Nodup) ∧ ∀ k, (kd k).length ≤ i)
    (fun Ha e => ⟨E2.trans e, S2.ex e, _, K2.ex e, by simp, by simp, by simp⟩) (fun i σ' H' hi1 hi2 pv => ?_) (fun σ' H' pv => ?_)
  · obtain ⟨q1, q2, kd, q3, q4, q5, q6⟩ := pv
    have T1 := q2.setD 4 (.i (i : Int))
    refine qs_set (d := .i (cells.getD i 0 * 16807 % 2147483629 / 5)) T1 (ed_iC (ed_iC (ed_iC (ed_ixL (er_varA T1 rfl (hC.ex q1)) (ed_var T1 rfl) (atI_nat (by rw [List.getElem?_map, get_lt 0 hi2]; rfl))) ed_int (.inr ⟨by decide, by decide⟩)) ed_int (by decide)) ed_int ⟨by decide, by decide⟩) fun σ3 H3 e3 S3 => ?_
    have num0 : 0 ≤ cells.getD i 0 * 16807 % 2147483629 / 5 := Int.ediv_nonneg (Int.emod_nonneg _ (by decide)) (by decide)
    generalize cells.getD i 0 * 16807 % 2147483629 / 5 = num at S3 num0
    have hm3 : 0 < (if (3 : Int) < (i : Int) then (3 : Int) else (i : Int)) ∧ (if (3 : Int) < (i : Int) then (3 : Int) else (i : Int)) ≤ (i : Int) := by split <;> omega
    have b1 := Int.emod_nonneg num (b := (i : Int)) (by omega)
    have b2 := Int.emod_lt_of_pos num (b := (i : Int)) (by omega)
    have b3 := Int.emod_nonneg num (b := (if (3 : Int) < (i : Int) then (3 : Int) else (i : Int))) (by omega)
    have b4 := Int.emod_lt_of_pos num (b := (if (3 : Int) < (i : Int) then (3 : Int) else (i : Int))) (by omega)
    obtain ⟨ab, hab, hlt⟩ : ∃ ab : Nat, atI [Dt.i (num % (i : Int)), .i ((i : Int) - 1), .i 0, .i ((i : Int) - 1 - num % (if (3 : Int) < (i : Int) then (3 : Int) else (i : Int)))] (wv : Int) = some (eN ab) ∧ ab < i := by
      have hz : ∀ z : Int, 0 ≤ z → z < (i : Int) → ∃ ab : Nat, Dt.i z = eN ab ∧ ab < i := fun z h1 h2 => ⟨z.toNat, by
        show Dt.i z = Dt.i ((z.toNat : Nat) : Int)
        congr 1
        omega, by omega⟩
      have h4 : wv = 0 ∨ wv = 1 ∨ wv = 2 ∨ wv = 3 := by omega
      rcases h4 with rfl | rfl | rfl | rfl
      · obtain ⟨ab, g1, g2⟩ := hz _ b1 b2
        exact ⟨ab, atI_nat (by rw [← g1]; rfl), g2⟩
      · obtain ⟨ab, g1, g2⟩ := hz ((i : Int) - 1) (by omega) (by omega)
        exact ⟨ab, atI_nat (by rw [← g1]; rfl), g2⟩
      · obtain ⟨ab, g1, g2⟩ := hz 0 (by omega) (by omega)
        exact ⟨ab, atI_nat (by rw [← g1]; rfl), g2⟩
      · obtain ⟨ab, g1, g2⟩ := hz ((i : Int) - 1 - num % (if (3 : Int) < (i : Int) then (3 : Int) else (i : Int))) (by omega) (by omega)
        exact ⟨ab, atI_nat (by rw [← g1]; rfl), g2⟩
    refine qs_set (d := eN ab) S3 (ed_ixL (EvN.r (en_lst (ds_cons (ed_iC (ed_var S3 rfl) (ed_var S3 rfl) (by show (0 : Int) < (i : Int); omega)) (ds_cons (ed_i0 (ed_var S3 rfl) ed_int) (ds_cons ed_int (ds_cons (ed_i0 (ed_i0 (ed_var S3 rfl) ed_int) (ed_iC (ed_var S3 rfl) (ed_min (ed_var S3 rfl) ed_int) hm3.1)) ds_nil)))) (by simp))) (ed_var S3 rfl) hab) fun σ4 H4 e4 S4 => ?_
    have K4 := (q3.ex e3).ex e4
    have hg : as[ab]? = some (as[ab]'(by omega)) := List.getElem?_eq_getElem _
    generalize as[ab]'(by omega) = a at hg
    have ham := List.mem_of_getElem? hg
    refine sd_app (ev_ixR (ev_varV S4 rfl) K4.top (ed_var S4 rfl) hg) (K4.ls ab a hg) (ed_var S4 rfl) (by rw [List.length_map]; have := q6 ab; omega) fun Ha Hb ea b L => ?_
    refine ⟨b.ex (((q1.trans e3).trans e4).trans ea) (as0 a ham), ((((S4.ex ea).tk b.tk rfl).drop 4).drop 5).drop 6, _, (K4.ex ea).app (ns := kd ab ++ [i]) b hg (by rw [List.map_append]; exact L), fun k j hj => ?_, fun k => ?_, fun k => ?_⟩
    · split at hj
      · rename_i ek
        rcases List.mem_append.mp hj with h | h
        · have := q4 ab j h; omega
        · have := List.mem_singleton.mp h; omega
      · have := q4 k j hj; omega
    · split
      · rw [List.nodup_append]
        exact ⟨q5 ab, by simp, fun x hx y hy => by
          have h1 := q4 ab x hx
          have h2 := List.mem_singleton.mp hy
          omega⟩
      · exact q5 k
    · split
      · have := q6 ab
        rw [List.length_append]
        show _ + 1 ≤ _
        omega
      · have := q6 k; omega
  · obtain ⟨q1, q2, kd, q3, q4, q5, q6⟩ := pv
    refine qs_setN q2 (en_lcL (xs := cells) Dt.i (fun _ => Dt.n) (er_varA q2 rfl (hC.ex q1)) (by omega) (fun a _ x Ha e r => ed_non)) fun pd σ3 H3 hpd e3 L3 S3 => ?_
    have pd0 : H pd = none := fresh_back q1 hpd
    have nk : pk ≠ pd := fun z => by
      have := q3.top
      rw [z, hpd] at this; cases this
    have na : pd ∉ as := fun z => by
      obtain ⟨k, hk⟩ := List.getElem?_of_mem z
      exact (q3.ls k pd hk).some hpd
    have C3 := hC.ex (q1.trans e3)
    refine qd_forRev (n := cells.length) (ed_is (ed_lenL (er_varA S3 rfl C3)) (by rw [List.length_map])) (by omega)
      (fun i σ' H' => Ex H H' ∧ Sl H' σ' [.v (.ref pc), .v (.ref pl), .d (eN wv), .v (.ref pk), .no, .no, .no, .v (.ref pd), .no] ∧ KidH H' pk as kd ∧ ∃ g : Nat → Doc, Ls H' pd ((List.range cells.length).map fun j => if j < cells.length - i then .n else encC (g j)) ∧
        ∀ k, cells.length - i ≤ k → k < cells.length → ∃ nm, Ltr nm ∧ g k = .mk nm ((kd k).map g))
      (fun Ha e => ⟨(q1.trans e3).trans e, S3.ex e, (q3.ex e3).ex e, fun _ => noDoc, (by
        have L4 := L3.ex e
        rw [map_const cells (f := fun j => if j < cells.length - 0 then Dt.n else encC noDoc) (fun i hi => if_pos (by omega))] at L4
        exact L4), fun k h1 h2 => by omega⟩) (fun i σ' H' hi pv => ?_) (fun σ' H' pv => ?_)
    · obtain ⟨r1, r2, r3, g, r4, r5⟩ := pv
      obtain ⟨m, hm⟩ : ∃ m, m = cells.length - 1 - i := ⟨_, rfl⟩
      rw [← hm]
      have hmn : m < cells.length := by omega
      have T1 := r2.setD 4 (.i (m : Int))
      obtain ⟨j, hj1, hj2⟩ : ∃ j : Nat, cells.getD m 0 / 4 % 9 = (j : Int) ∧ j < 9 := by
        have g1 := Int.emod_nonneg (cells.getD m 0 / 4) (b := 9) (by decide)
        have g2 := Int.emod_lt_of_pos (cells.getD m 0 / 4) (b := 9) (by decide)
        exact ⟨(cells.getD m 0 / 4 % 9).toNat, by omega, by omega⟩
      have hlen : ((List.range cells.length).map fun j => if j < cells.length - i then Dt.n else encC (g j)).length = cells.length := by rw [List.length_map, List.length_range]
      refine sd_put (d := encC (.mk (xs.getD j (("" : Str))) ((kd m).map g))) r4 (ed_is (ed_tup (ds_cons (d := .s (xs.getD j (("" : Str)))) (ed_ixL (k := (j : Int)) (er_varA T1 rfl (hP.ex r1)) (ed_is (ed_iC (ed_iC (ed_ixL (er_varA T1 rfl (hC.ex r1)) (ed_var T1 rfl) (atI_nat (by rw [List.getElem?_map, get_lt 0 hmn]; rfl))) ed_int ⟨by decide, by decide⟩) ed_int (by decide)) (by rw [hj1]))
          (atI_nat (by rw [List.getElem?_map, get_lt (("" : Str)) (by omega)]; rfl)))
        (ds_cons (ed_tupL (EvN.r (en_lcL (xs := kd m) eN (fun j => encC (g j)) (er_kid (ev_varV T1 rfl) r3 (ed_var T1 rfl) (by omega)) (by have := q6 m; omega) (fun jj hjj x Ha e r => ?_)))) ds_nil)) (by simp)) ?_) (ev_varV T1 rfl) (ed_var T1 rfl) (by rw [hlen]; exact hmn) fun Ha Hb ea b L => ?_
      · have T8 := (T1.ex e).setD 8 r
        have hb := q4 m jj hjj
        exact ed_ixL (er_varA T8 rfl (r4.ex e)) (ed_var T8 rfl) (atI_nat (by
          rw [List.getElem?_map, List.getElem?_range hb.2]
          show some (if jj < cells.length - i then Dt.n else encC (g jj)) = _
          rw [if_neg (by omega)]))
      · rw [encC_mk, List.map_map]
        rfl
      · refine ⟨b.ex (r1.trans ea) pd0, ((T1.ex ea).tk b.tk rfl).drop 4, (r3.ex ea).bt b nk na, fun k => if k = m then .mk (xs.getD j (("" : Str))) ((kd m).map g) else g k, ?_, fun k hk1 hk2 => ?_⟩
        · rw [set_range (f' := fun j' => if j' < cells.length - (i + 1) then Dt.n else encC (if j' = m then .mk (xs.getD j (("" : Str))) ((kd m).map g) else g j'))] at L
          · exact L
          · rw [if_neg (by omega), if_pos rfl]
          · intro i' hi'
            rw [if_neg hi']
            by_cases h : i' < cells.length - i
            · rw [if_pos h, if_pos (by omega)]
            · rw [if_neg h, if_neg (by omega)]
        · have hcong : ∀ k', m ≤ k' → (kd k').map (fun k => if k = m then Doc.mk (xs.getD j (("" : Str))) ((kd m).map g) else g k) = (kd k').map g := fun k' hk' => List.map_congr_left fun z hz => if_neg (by have := q4 k' z hz; omega)
          dsimp only
          by_cases h : k = m
          · rw [if_pos h, h, hcong m (Nat.le_refl _)]
            exact ⟨_, hL _ (getD_mem _ (by omega)), rfl⟩
          · rw [if_neg h, hcong k (by omega)]
            exact r5 k (by omega) hk2
    · obtain ⟨r1, r2, r3, g, r4, r5⟩ := pv
      unfold tRet tTup
      refine (ea_cons (ev_varV (i := 7) r2 rfl) (ea_cons (ev_varV (i := 3) r2 rfl) ea_nil)) H' (Ex.refl H') _ fun Ha ea => ?_
      refine ⟨by show 2 ≤ sizeLine; decide, fun p hp => ?_⟩
      have ee : Ex H' (upd Ha p (.tup [.ref pd, .ref pk])) := ea.trans (Ex.new hp)
      refine q p pd pk ((List.range cells.length).map g) as kd _ (r1.trans ee) upd_same ⟨by rw [List.length_map, List.length_range], las, ?_, r3.ex ee, fun k hk => ?_, q4, q5⟩
      · have L := r4.ex ee
        rw [List.map_map]
        have : ((List.range cells.length).map fun j => if j < cells.length - cells.length then Dt.n else encC (g j)) = (List.range cells.length).map (encC ∘ g) := List.map_congr_left fun z _ => if_neg (by omega)
        rw [this] at L
        exact L
      · obtain ⟨nm, hn, eg⟩ := r5 k (by omega) hk
        refine ⟨nm, hn, ?_⟩
        rw [List.getElem?_map, List.getElem?_range hk]
        show some (g k) = _
        rw [eg]
        congr 2
        refine List.map_congr_left fun z hz => ?_
        have hb := q4 k z hz
        rw [List.getD_eq_getElem?_getD, List.getElem?_map, List.getElem?_range hb.2]
        rfl
end
end GF
set_option Elab.async false
set_option linter.all false
set_option maxRecDepth 100000
set_option maxHeartbeats 1000000
/-! Gf12: turned documents, plainly; sizes; rows. -/
namespace GF
open PySem L2 Evl
mutual
def tr (R : Rules) : Doc → List Doc
  | .mk nm ks => match ruleFor R nm with
    | none => [.mk nm (trs R ks)]
    | some its => fullIs (trs R ks) its
def trs (R : Rules) : List Doc → List Doc
  | [] => []
  | d :: r => tr R d ++ trs R r
end
theorem trs_app (R : Rules) : ∀ l r : List Doc, trs R (l ++ r) = trs R l ++ trs R r
  | [], r => by rw [List.nil_append, trs, List.nil_append]
  | x :: l, r => by rw [List.cons_append, trs, trs, trs_app R l r, List.append_assoc]
theorem trs_one (R : Rules) (d : Doc) : trs R [d] = tr R d := by rw [trs, trs, List.append_nil]
theorem szs_trs (R : Rules) : ∀ ks : List Doc, (szs (trs R ks) : Int) = (ks.map fun d => ((szs (tr R d) : Nat) : Int)).sum
  | [] => by rw [trs, szs]; rfl
  | d :: r => by
    rw [trs, szs_app, List.map_cons, List.sum_cons, ← szs_trs R r]
    push_cast
    rfl
theorem szs_one (nm : Str) (ks : List Doc) : szs [Doc.mk nm ks] = 1 + szs ks := by
  rw [szs, szs, Doc.sz]
  omega
theorem sz_tr_none {R : Rules} {nm : Str} {ks : List Doc} (h : ruleFor R nm = none) : tr R (.mk nm ks) = [.mk nm (trs R ks)] := by rw [tr, h]
theorem sz_tr_some {R : Rules} {nm : Str} {ks : List Doc} {its : List Item} (h : ruleFor R nm = some its) : tr R (.mk nm ks) = fullIs (trs R ks) its := by rw [tr, h]
theorem ruleFor_mem {R : Rules} {nm : Str} {its : List Item} (h : ruleFor R nm = some its) : (nm, its) ∈ R := by
  induction R with
  | nil => cases h
  | cons r R ih =>
    rw [ruleFor] at h
    split at h
    · rename_i e
      cases h
      rw [← e]
      exact List.mem_cons_self
    · exact List.mem_cons_of_mem _ (ih h)
theorem hts_app : ∀ l r : List Doc, hts (l ++ r) = max (hts l) (hts r)
  | [], r => by rw [List.nil_append, hts, Nat.zero_max]
  | x :: l, r => by rw [List.cons_append, hts, hts, hts_app l r, Nat.max_assoc]
mutual
theorem ht_fullI (row : List Doc) : ∀ x : Item, hts (fullI row x) ≤ x.dep + hts row
  | .hole => by rw [fullI, Item.dep]; omega
  | .el n ks => by
    have := ht_fulls row ks
    rw [fullI, hts, hts, Doc.ht, Item.dep]
    omega
theorem ht_fulls (row : List Doc) : ∀ l : List Item, hts (fullIs row l) ≤ deps l + hts row
  | [] => by rw [fullIs, hts]; omega
  | x :: r => by
    have h1 := ht_fullI row x
    have h2 := ht_fulls row r
    rw [fullIs, hts_app, deps]
    omega
end
mutual
theorem ht_tr {R : Rules} {m : Nat} (hm : 1 ≤ m) (h : ∀ r ∈ R, deps r.2 ≤ m) : ∀ d : Doc, hts (tr R d) ≤ m * d.ht
  | .mk nm ks => by
    have h1 := ht_trs hm h ks
    have e : m * (Doc.mk nm ks).ht = m * hts ks + m := by rw [Doc.ht, Nat.mul_add, Nat.mul_one]
    rw [e]
    cases q : ruleFor R nm with
    | none =>
      rw [sz_tr_none q, hts, hts, Doc.ht]
      omega
    | some its =>
      rw [sz_tr_some q]
      have h2 := ht_fulls (trs R ks) its
      have h3 := h _ (ruleFor_mem q)
      have h4 : deps its ≤ m := h3
      omega
theorem ht_trs {R : Rules} {m : Nat} (hm : 1 ≤ m) (h : ∀ r ∈ R, deps r.2 ≤ m) : ∀ ks : List Doc, hts (trs R ks) ≤ m * hts ks
  | [] => by rw [trs, hts]; omega
  | d :: r => by
    have h1 := ht_tr hm h d
    have h2 := ht_trs hm h r
    rw [trs, hts_app, hts]
    have h3 : m * d.ht ≤ m * max d.ht (hts r) := Nat.mul_le_mul_left _ (Nat.le_max_left _ _)
    have h4 : m * hts r ≤ m * max d.ht (hts r) := Nat.mul_le_mul_left _ (Nat.le_max_right _ _)
    omega
end
section
variable {K : PySem.W.Frag} {σ : L2.St} {H H' : Hp} {ta tb te tx tl : TE} {t u : TT} {ss : List Sd} {D : Ends} {tu tw tz : TS} {l : Addr}
/-- a walk over a list whose place is known -/
theorem sd_forA {α : Type} {j : Nat} {p : Addr} {xs : List α} (enc : α → Dt) (h : Ev tl σ H (.ref p)) (L : Ls H p (xs.map enc)) (Pv : List α → L2.St → Hp → Prop) (h0 : ∀ H1, Ex H H1 → Pv [] σ H1) (hk : ∀ pre σ' H', Pv pre σ' H' → Tk H H' ∧ ∀ o, H p = some o → H' p = some o)
    (hs : ∀ pre a post x σ' H', xs = pre ++ a :: post → Pv pre σ' H' → Rp H' x (enc a) → tu { D with nx := Pv (pre ++ [a]), ct := Pv (pre ++ [a]), bk := D.nx } (σ'.set j (some x)) H') (hd : ∀ σ' H', Pv xs σ' H' → D.nx σ' H') : tFor (iList K tl) (gName j) tu D σ H :=
  h H (Ex.refl H) _ fun H1 e => by
    obtain ⟨vs, h1, h2⟩ := id L
    have hl : vs.length = xs.length := by rw [h2.len, List.length_map]
    refine ⟨p, rfl, ⟨vs, sq_of (e _ _ h1)⟩, for_list (xs := vs) (fun i σ' H' => Pv (xs.take i) σ' H') (h0 H1 e) (fun i σ' H' _ p => sq_of ((hk _ _ _ p).2 _ h1)) (fun i x σ' H' hi p => ?_) (fun σ' H' p => ?_)⟩
    · obtain ⟨d, hd', rd⟩ := h2.getV hi
      rw [List.getElem?_map] at hd'
      obtain ⟨y, hy, rfl⟩ := Option.map_eq_some_iff.mp hd'
      obtain ⟨hlt, ey⟩ := List.getElem?_eq_some_iff.mp hy
      have es : xs = xs.take i ++ y :: xs.drop (i + 1) := by
        rw [← ey, ← List.drop_eq_getElem_cons hlt, List.take_append_drop]
      have q := hs (xs.take i) y (xs.drop (i + 1)) x σ' H' es p (rd.mono (hk _ _ _ p).1)
      have et : xs.take (i + 1) = xs.take i ++ [y] := by rw [List.take_add_one, hy]; rfl
      show tu { D with nx := Pv (xs.take (i + 1)), ct := Pv (xs.take (i + 1)), bk := D.nx } (σ'.set j (some x)) H'
      rw [et]
      exact q
    · rw [List.take_of_length_le (by rw [hl]; exact Nat.le_refl _)] at p
      exact hd σ' H' p
theorem qd_forA {α : Type} {j : Nat} {p : Addr} {xs : List α} (enc : α → Dt) (h : Ev tl σ H (.ref p)) (L : Ls H p (xs.map enc)) (Pv : List α → L2.St → Hp → Prop) (h0 : ∀ H1, Ex H H1 → Pv [] σ H1) (hk : ∀ pre σ' H', Pv pre σ' H' → Tk H H' ∧ ∀ o, H p = some o → H' p = some o)
    (hs : ∀ pre a post x σ' H', xs = pre ++ a :: post → Pv pre σ' H' → Rp H' x (enc a) → tu { D with nx := Pv (pre ++ [a]), ct := Pv (pre ++ [a]), bk := tz D } (σ'.set j (some x)) H') (hd : ∀ σ' H', Pv xs σ' H' → tz D σ' H') : tSeq (tFor (iList K tl) (gName j) tu) tz D σ H :=
  sd_forA (D := { D with nx := tz D }) enc h L Pv h0 hk hs hd
theorem ev_ixV {p : Addr} {vs : List V} {v : V} {j : Nat} (ha : Ev ta σ H (.ref p)) (h : H p = some (.lst vs)) (hb : EvD tb σ H (.i (j : Int))) (hj : vs[j]? = some v) : Ev (tOp (rIxL K) ta tb) σ H v := fun H1 e Q q =>
  ha H1 e _ fun H2 e2 => hb H2 (e.trans e2) _ fun w H3 e3 r => by
    rw [r.int]
    exact ⟨p, vs, (j : Int), v, rfl, rfl, sq_of (((e.trans e2).trans e3) _ _ h), atI_nat hj, q H3 (e2.trans e3)⟩
theorem et_notNr {a : Addr} (ha : Ev ta σ H (.ref a)) : EvT (tB (tNotN ta)) σ H true := fun H1 e Q q => ha H1 e _ fun H2 e2 => ⟨_, rfl, q H2 e2⟩
/-- the rule found == (name,) -/
theorem ed_eqForD {R : Rules} {x : Str} (hx : x ≠ ("*" : Str)) (ha : EvD ta σ H (forD R x)) (hb : EvD tb σ H (.t [.s x])) : EvD (tOp (rEqT1 K) ta tb) σ H (.b (ruleFor R x).isNone) := fun H1 e Q q =>
  ha H1 e _ fun v H2 e2 r => hb H2 (e.trans e2) _ fun u H3 e3 r3 => by
    obtain ⟨b, us, rfl, g1, g2⟩ := r3.tup
    have g3 : us = [V.str x] := RpA.strs (ns := [x]) g2
    subst g3
    have r' := r.ex e3
    unfold forD at r'
    cases hR : ruleFor R x with
    | none =>
      rw [hR] at r' q
      obtain ⟨a, vs, rfl, h1, h2⟩ := r'.tup
      have h3 : vs = [V.str x] := RpA.strs (ns := [x]) h2
      subst h3
      refine ⟨a, b, _, x, rfl, rfl, st_of h1, fun v hv => .inl ⟨x, List.mem_singleton.mp hv⟩, st_of g1, ?_⟩
      rw [decide_eq_true rfl]
      exact q _ H3 (e2.trans e3) (.b _)
    | some its =>
      rw [hR] at r' q
      obtain ⟨a, vs, rfl, h1, h2⟩ := r'.tup
      refine ⟨a, b, vs, x, rfl, rfl, st_of h1, fun v hv => ?_, st_of g1, ?_⟩
      · obtain ⟨k, hk⟩ := List.getElem?_of_mem hv
        obtain ⟨d, hd, rd⟩ := h2.getV hk
        rw [List.getElem?_map] at hd
        obtain ⟨y, hy, rfl⟩ := Option.map_eq_some_iff.mp hd
        exact item_ok rd
      · have hne : ¬ vs = [V.str x] := fun z => by
          subst z
          cases its with
          | nil => cases h2
          | cons it rest =>
            cases h2 with
            | cons c1 c2 =>
              cases it with
              | hole =>
                rw [encI] at c1
                have := c1.str
                cases this
                exact hx rfl
              | el n ks =>
                rw [encI] at c1
                obtain ⟨_, _, z, _⟩ := c1.tup
                cases z
        rw [decide_eq_false hne]
        exact q _ H3 (e2.trans e3) (.b _)
theorem ed_sum {ns : List Int} (ha : EvR ta σ H (ns.map .i)) : EvD (tCB (rSum K) (tCons ta tNil)) σ H (.i ns.sum) := fun H1 e _ q =>
  ha H1 e _ fun p H2 e2 r => by
    obtain ⟨xs, h1, h2⟩ := r
    have h3 := h2.ints
    subst h3
    exact ⟨p, ns, rfl, sq_of h1, q _ H2 e2 (.i _)⟩
theorem sumK (K : PySem.W.Frag) {X : Cx} (hc : X.calm = true) (h : X.K = K := by rfl) : CallR X (.builtin "sum") (rSum K) := h ▸ cr_sum hc
end
theorem nodup_lt : ∀ (n : Nat) (l : List Nat), l.Nodup → (∀ x ∈ l, x < n) → l.length ≤ n
  | 0, l, _, h => by
    cases l with
    | nil => exact Nat.le_refl _
    | cons x r => exact absurd (h x List.mem_cons_self) (Nat.not_lt_zero _)
  | n + 1, l, nd, h => by
    by_cases hn : n ∈ l
    · have h1 := nodup_lt n (l.erase n) (nd.erase n) fun x hx => by
        have h2 := (List.Nodup.mem_erase_iff nd).mp hx
        have h3 := h x h2.2
        have h4 := h2.1
        omega
      rw [List.length_erase_of_mem hn] at h1
      omega
    · have h1 := nodup_lt n l nd fun x hx => by
        have h3 := h x hx
        have h4 : x ≠ n := fun z => hn (z ▸ hx)
        omega
      omega
def spSizes : Sp := fun vs H Q _ => ∃ (v0 : V) (R : Rules) (pd pk : Addr) (n : Nat) (docs : List Doc) (as : List Addr) (kd : Nat → List Nat), vs = [v0, .ref pd, .ref pk] ∧ Rp H v0 (encRs R) ∧ RulesOk 5 R ∧ n ≤ 12 ∧ DocsOk H pd pk n docs as kd ∧
  ∀ p H', H p = none → Ex H H' → Ls H' p (docs.map fun d => Dt.i ((szs (tr R d) : Nat) : Int)) → Q (.ref p) H'
def RowsH (H : Hp) (pr : Addr) (R : Rules) (docs : List Doc) : Prop := ∃ vs : List V, H pr = some (.lst vs) ∧ ∀ (k : Nat) (d : Doc), docs[k]? = some d → ∃ a : Addr, vs[k]? = some (V.ref a) ∧ Ls H a ((tr R d).map encC)
theorem RowsH.ex {H H' : Hp} {pr : Addr} {R : Rules} {docs : List Doc} (e : Ex H H') (h : RowsH H pr R docs) : RowsH H' pr R docs := by
  obtain ⟨vs, h1, h2⟩ := h
  exact ⟨vs, e _ _ h1, fun k d hk => let ⟨a, g1, g2⟩ := h2 k d hk; ⟨a, g1, g2.ex e⟩⟩
def spRows : Sp := fun vs H Q _ => ∃ (v0 : V) (R : Rules) (pd pk pc : Addr) (n : Nat) (docs : List Doc) (as : List Addr) (kd : Nat → List Nat), vs = [v0, V.ref pd, V.ref pk, V.ref pc, V.int 400] ∧ Rp H v0 (encRs R) ∧ RulesOk 5 R ∧ n ≤ 12 ∧ DocsOk H pd pk n docs as kd ∧
  Ls H pc (docs.map fun d => Dt.i ((szs (tr R d) : Nat) : Int)) ∧ (∀ d ∈ docs, szs (tr R d) ≤ 400) ∧ ∀ p H', Ex H H' → RowsH H' p R docs → Q (V.ref p) H'
section
variable {P : Program} {w : World} {K : PySem.W.Frag} {mg : Str → Option Value} {base : Heap} {f fC fT fN fI fB fO fS : Addr} {fd fdC fdT fdN fdI fdB fdO fdS : FuncData}
abbrev nSizes : List Str := ["_law_rules", "_law_docs", "_law_kids", "_law_counts", "_law_k", "_law_size_here", "_law_items_here", "_law_doc", "_law_j"]
theorem scSizes : FnScope nSizes ["_law_rules", "_law_docs", "_law_kids"] (defScope sSizes) := ⟨rfl, rfl, rfl, by decide +kernel, rfl, by decide +kernel, by decide +kernel⟩
theorem ok_sizes (B : Blt mg) (F : Df K mg "_law_sizes" sSizes f fd) (CF : Cal P w K mg base CX0 1 "_law_for" ["_law_rules", "_law_name"] spFor fC fdC) (CS : Cal P w K mg base CX0 7 "_law_size" ["_law_items_here", "_law_size_here"] (spSize 6) fS fdS) :
    Cal P w K mg base CX0 8 "_law_sizes" ["_law_rules", "_law_docs", "_law_kids"] spSizes f fd := by
  refine F.cal (F.fn.ok scSizes (fun vs H Q E h => ?_) (fun cdv A outer s H vs Q E hr h => ?_)) fun _ _ _ _ _ _ us hl => match us, hl with | [_, _, _], _ => rfl
  · obtain ⟨v0, R, pd, pk, n, docs, as, kd, rfl, _⟩ := h
    rfl
  obtain ⟨v0, R, pd, pk, n, docs, as, kd, rfl, hv, hR, hn, hD, q⟩ := h
  have S : Sl H (L2.start nSizes [v0, .ref pd, .ref pk]) [.d (encRs R), .v (.ref pd), .v (.ref pk), .no, .no, .no, .no, .no, .no] := .cons ⟨_, rfl, hv⟩ (.cons rfl (.cons rfl (Sl.rep 6)))
  have hr1 : Room 1 _ := hr.mono (by decide)
  have hr7 : Room 7 _ := hr.mono (by decide)
  refine ⟨_, pss_cons (ps_set (i := 3) scSizes.nd rfl (Or.inr rfl) (pe_lc (own := [("_law_doc", 7)]) (g := gName 7) (tt := tYes) rfl scSizes.nd (pi_list (pv 1)) (blkOk_by (N := nSizes) (sc := defScope sSizes) (by decide +kernel))
      (fun _ _ _ _ _ => pg_name (i := 7) scSizes.nd rfl (Or.inl rfl)) (fun _ _ _ _ _ => pts_nil) (fun _ _ _ _ _ => pe_int)))
    (pss_cons (ps_for PassesOwn.never rfl (pi_revR (by rfl) B.reversed (prg_1 (by rfl) B.range (pe_callB (lenK K) (by rfl) B.len PySem.boot_len (pa_cons (pv 1) pa_nil)))) (pg_name (i := 4) scSizes.nd rfl (Or.inl rfl))
      (pss_cons (ps_set (i := 5) scSizes.nd rfl (Or.inl rfl) (pe_callB (sumK K rfl) (by rfl) B.sum (by decide +kernel) (pa_cons (pe_lc (own := [("_law_j", 8)]) (g := gName 8) (tt := tYes) rfl scSizes.nd (pi_list (pe_ix (ixL K) (pv 2) (pv 4) (fun _ _ => rfl))) (blkOk_by (N := nSizes) (sc := defScope sSizes) (by decide +kernel))
          (fun _ _ _ _ _ => pg_name (i := 8) scSizes.nd rfl (Or.inl rfl)) (fun _ _ _ _ _ => pts_nil) (fun _ _ _ _ _ => pe_ix (ixL K) (pv 3) (pv 8) (fun _ _ => rfl))) pa_nil)))
      (pss_cons (ps_set (i := 6) scSizes.nd rfl (Or.inl rfl) (pe_cal CF hr1 (pa_cons (pv 0) (pa_cons (pe_ix (ixT K) (pe_ix (ixL K) (pv 1) (pv 4) (fun _ _ => rfl)) pe_int (fun _ _ => rfl)) pa_nil))))
      (pss_one (ps_if (pt_cmpR (op_eqT1 K (hu_of hr)) (pv 6) (pe_tup (pa_cons (pe_ix (ixT K) (pe_ix (ixL K) (pv 1) (pv 4) (fun _ _ => rfl)) pe_int (fun _ _ => rfl)) pa_nil)) (nomark _))
        (pss_one (ps_asg (pe_op op_add pe_int (pv 5)) (pg_sub (pv 3) (pv 4) set_list)))
        (pss_one (ps_asg (pe_cal CS hr7 (pa_cons (pv 6) (pa_cons (pv 5) pa_nil))) (pg_sub (pv 3) (pv 4) set_list))))))))
    (pss_one (ps_ret (pv 3)))), ?_⟩
  refine qs_setN S (en_lcL (xs := docs) encC (fun _ => Dt.i 0) (er_varA S rfl hD.L) (by rw [hD.len]; omega) (fun a _ x Ha e r => ed_int)) fun pc σ1 H1 hpc e1 L1 S1 => ?_
  have lend := hD.len
  have hD1L := hD.L.ex e1
  refine qd_forRev (n := n) (ed_is (ed_lenL (er_varA S1 rfl hD1L)) (by rw [List.length_map, lend])) (by omega)
    (fun i σ' H' => Ex H H' ∧ Sl H' σ' [.d (encRs R), .v (.ref pd), .v (.ref pk), .v (.ref pc), .no, .no, .no, .no, .no] ∧ Ls H' pc ((List.range n).map fun j => if j < n - i then Dt.i 0 else Dt.i ((szs (tr R (docs.getD j noDoc)) : Nat) : Int)))
    (fun Ha e => ⟨e1.trans e, S1.ex e, by
      have L4 := L1.ex e
      rw [map_const docs (f := fun j => if j < n - 0 then Dt.i 0 else Dt.i ((szs (tr R (docs.getD j noDoc)) : Nat) : Int)) (fun i hi => if_pos (by omega)), lend] at L4
      exact L4⟩) (fun i σ' H' hi pv => ?_) (fun σ' H' pv => ?_)
  · obtain ⟨r1, r2, r3⟩ := pv
    obtain ⟨m, hm⟩ : ∃ m, m = n - 1 - i := ⟨_, rfl⟩
    rw [← hm]
    have hmn : m < n := by omega
    have T1 := r2.setD 4 (.i (m : Int))
    obtain ⟨nm, hnm, hdoc⟩ := hD.made m hmn
    have hdm : docs.getD m noDoc = .mk nm ((kd m).map fun j => docs.getD j noDoc) := getD_of hdoc
    have hdc : atI (docs.map encC) (m : Int) = some (.t [.s nm, .t (((kd m).map fun j => docs.getD j noDoc).map encC)]) := atI_nat (by rw [List.getElem?_map, hdoc, Option.map_some, encC_mk])
    have hlen : ((List.range n).map fun j => if j < n - i then Dt.i 0 else Dt.i ((szs (tr R (docs.getD j noDoc)) : Nat) : Int)).length = n := by rw [List.length_map, List.length_range]
    refine qs_set (d := .i ((szs (trs R ((kd m).map fun j => docs.getD j noDoc)) : Nat) : Int)) T1 (ed_is (ed_sum (ns := (kd m).map fun j => ((szs (tr R (docs.getD j noDoc)) : Nat) : Int)) (er_is (EvN.r (en_lcL (xs := kd m) eN (fun j => Dt.i ((szs (tr R (docs.getD j noDoc)) : Nat) : Int)) (er_kid (ev_varV T1 rfl) (hD.K.ex r1) (ed_var T1 rfl) (by rw [hD.alen]; exact hmn)) ?_ (fun jj hjj x Ha e r => ?_))) (by rw [List.map_map]; rfl))) ?_) fun σ2 H2 e2 S2 => ?_
    · have h1 := nodup_lt n (kd m) (hD.nd m) fun j hj => (hD.kb m j hj).2
      omega
    · have T8 := (T1.ex e).setD 8 r
      have hb := hD.kb m jj hjj
      exact ed_ixL (er_varA T8 rfl (r3.ex e)) (ed_var T8 rfl) (atI_nat (by
        rw [List.getElem?_map, List.getElem?_range hb.2]
        show some (if jj < n - i then Dt.i 0 else Dt.i ((szs (tr R (docs.getD jj noDoc)) : Nat) : Int)) = _
        rw [if_neg (by omega)]))
    · rw [szs_trs, List.map_map]
      rfl
    refine qs_set (d := forD R nm) S2 (ed_call (R, nm) (ad_d (ed_var S2 rfl) (ad_d (ed_ixT (ed_ixL (er_varA S2 rfl (hD.L.ex (r1.trans e2))) (ed_var S2 rfl) hdc) ed_int rfl) ad_nil)) trivial) fun σ3 H3 e3 S3 => ?_
    have E3 := (r1.trans e2).trans e3
    have r3' := (r3.ex e2).ex e3
    -- what the writes come to
    have fin : ∀ {Ha Hb : Hp}, Ex H3 Ha → Bt pc Ha Hb → Ls Hb pc (((List.range n).map fun j => if j < n - i then Dt.i 0 else Dt.i ((szs (tr R (docs.getD j noDoc)) : Nat) : Int)).set m (Dt.i ((szs (tr R (docs.getD m noDoc)) : Nat) : Int))) →
        Ex H Hb ∧ Sl Hb σ3 [.d (encRs R), .v (.ref pd), .v (.ref pk), .v (.ref pc), .no, .no, .no, .no, .no] ∧ Ls Hb pc ((List.range n).map fun j => if j < n - (i + 1) then Dt.i 0 else Dt.i ((szs (tr R (docs.getD j noDoc)) : Nat) : Int)) := fun {Ha Hb} ea b L => by
      refine ⟨b.ex (E3.trans ea) hpc, (((S3.ex ea).tk b.tk rfl).drop 4).drop 5 |>.drop 6, ?_⟩
      rw [set_range (f' := fun j => if j < n - (i + 1) then Dt.i 0 else Dt.i ((szs (tr R (docs.getD j noDoc)) : Nat) : Int))] at L
      · exact L
      · rw [if_neg (by omega)]
      · intro i' hi'
        by_cases h : i' < n - i
        · rw [if_pos h, if_pos (by omega)]
        · rw [if_neg h, if_neg (by omega)]
    refine s_if (et_ed (ed_eqForD hnm.star (ed_var S3 rfl) (ed_tup (ds_cons (ed_ixT (ed_ixL (er_varA S3 rfl (hD.L.ex E3)) (ed_var S3 rfl) hdc) ed_int rfl) ds_nil) (by simp)))) (fun hb Ha ea => ?_) (fun hb Ha ea => ?_)
    · have hnone : ruleFor R nm = none := Option.isNone_iff_eq_none.mp hb
      have Sa := S3.ex ea
      refine sd_put (d := Dt.i ((szs (tr R (docs.getD m noDoc)) : Nat) : Int)) (r3'.ex ea) (ed_is (ed_i0 ed_int (ed_var Sa rfl)) ?_) (ev_varV Sa rfl) (ed_var Sa rfl) (by rw [hlen]; exact hmn) fun Hb Hc eb b L => fin (ea.trans eb) b L
      rw [hdm, sz_tr_none hnone, szs_one]
      push_cast
      rfl
    · obtain ⟨its, hits⟩ : ∃ its, ruleFor R nm = some its := by
        cases hz : ruleFor R nm with
        | none => rw [hz] at hb; cases hb
        | some its => exact ⟨its, rfl⟩
      have Sa := S3.ex ea
      have hfd : forD R nm = .t (its.map encI) := by unfold forD; rw [hits]
      refine sd_put (d := Dt.i ((szs (tr R (docs.getD m noDoc)) : Nat) : Int)) (r3'.ex ea) (ed_is (ed_call (its, ((szs (trs R ((kd m).map fun j => docs.getD j noDoc)) : Nat) : Int)) (ad_d (ed_is (ed_var Sa rfl) hfd) (ad_d (ed_var Sa rfl) ad_nil)) ?_) ?_) (ev_varV Sa rfl) (ed_var Sa rfl) (by rw [hlen]; exact hmn) fun Hb Hc eb b L => fin (ea.trans eb) b L
      · show deps its < 6
        have h5 : deps its ≤ 5 := hR.2.2 _ (ruleFor_mem hits)
        omega
      · rw [hdm, sz_tr_some hits]
        exact congrArg Dt.i (size_fulls _ its)
  · obtain ⟨r1, r2, r3⟩ := pv
    refine (ev_varV (i := 3) r2 rfl) H' (Ex.refl H') _ fun Ha ea => q pc Ha hpc (r1.trans ea) ?_
    have L := r3.ex ea
    have e2 : ((List.range n).map fun j => if j < n - n then Dt.i 0 else Dt.i ((szs (tr R (docs.getD j noDoc)) : Nat) : Int)) = docs.map fun d => Dt.i ((szs (tr R d) : Nat) : Int) := by
      refine List.ext_getElem? fun k => ?_
      rw [List.getElem?_map, List.getElem?_map]
      by_cases hk : k < n
      · rw [List.getElem?_range hk, get_lt noDoc (by rw [lend]; exact hk)]
        show some (if k < n - n then Dt.i 0 else _) = _
        rw [if_neg (by omega)]
        rfl
      · rw [List.getElem?_eq_none (by rw [List.length_range]; omega), List.getElem?_eq_none (by rw [lend]; omega)]
        rfl
    rw [e2] at L
    exact L
end
end GF
set_option Elab.async false
set_option linter.all false
set_option maxRecDepth 100000
set_option maxHeartbeats 1000000
/-! Gf13: the turned rows. -/
namespace GF
open PySem L2 Evl
section
variable {K : PySem.W.Frag} {σ : L2.St} {H H' : Hp} {ta tb te tx tl : TE} {t u : TT} {ss : List Sd} {D : Ends} {tu tw tz : TS} {l : Addr}
/-- xs[k] = e, by values -/
theorem sv_put {l : Addr} {vs : List V} {v : V} {j : Nat} (hl : H l = some (.lst vs)) (h : Ev te σ H v) (ho : Ev ta σ H (.ref l)) (hi : EvD tb σ H (.i (j : Int))) (hj : j < vs.length) (k : ∀ H1 H2, Ex H H1 → Bt l H1 H2 → H2 l = some (.lst (vs.set j v)) → D.nx σ H2) :
    tAsg te (gSub ta tb rSetL) D σ H := by
  refine h H (Ex.refl H) _ fun H1 e1 => ho H1 e1 _ fun H2 e2 => ev_int hi H2 (e1.trans e2) _ fun H3 e3 => ?_
  have g := ((e1.trans e2).trans e3) l _ hl
  exact ⟨l, vs, (j : Int), j, rfl, rfl, g, ixN_nat hj, k H3 _ ((e1.trans e2).trans e3) ⟨Tk.updL g, fun b hb => upd_ne hb⟩ upd_same⟩
/-- xs[k] = a new list -/
theorem sn_put {l : Addr} {vs : List V} {ds : List Dt} {j : Nat} (hl : H l = some (.lst vs)) (h : EvN te σ H ds) (ho : Ev ta σ H (.ref l)) (hi : EvD tb σ H (.i (j : Int))) (hj : j < vs.length)
    (k : ∀ a H1 H2, H a = none → Ex H H1 → Ls H1 a ds → Bt l H1 H2 → H2 l = some (.lst (vs.set j (.ref a))) → D.nx σ H2) : tAsg te (gSub ta tb rSetL) D σ H := by
  refine h H (Ex.refl H) _ fun a H1 ha e1 L => ho H1 e1 _ fun H2 e2 => ev_int hi H2 (e1.trans e2) _ fun H3 e3 => ?_
  have g := ((e1.trans e2).trans e3) l _ hl
  exact ⟨l, vs, (j : Int), j, rfl, rfl, g, ixN_nat hj, k a H3 _ ha ((e1.trans e2).trans e3) (L.ex (e2.trans e3)) ⟨Tk.updL g, fun b hb => upd_ne hb⟩ upd_same⟩
end
/-- the rows from m on -/
def RowsF (H : Hp) (pr : Addr) (R : Rules) (docs : List Doc) (m : Nat) : Prop := ∃ vs : List V, H pr = some (.lst vs) ∧ vs.length = docs.length ∧ ∀ (k : Nat) (d : Doc), m ≤ k → docs[k]? = some d → ∃ a : Addr, a ≠ pr ∧ vs[k]? = some (V.ref a) ∧ Ls H a ((tr R d).map encC)
theorem RowsF.ex {H H' : Hp} {pr : Addr} {R : Rules} {docs : List Doc} {m : Nat} (e : Ex H H') (h : RowsF H pr R docs m) : RowsF H' pr R docs m := by
  obtain ⟨vs, h1, h3, h2⟩ := h
  exact ⟨vs, e _ _ h1, h3, fun k d hm hk => let ⟨a, g0, g1, g2⟩ := h2 k d hm hk; ⟨a, g0, g1, g2.ex e⟩⟩
/-- an untouched list -/
theorem RowsF.bt {H H' : Hp} {pr l : Addr} {R : Rules} {docs : List Doc} {m : Nat} (b : Exb l H H') (k : Tk H H') (hn : H l = none) (h : RowsF H pr R docs m) : RowsF H' pr R docs m := by
  obtain ⟨vs, h1, h3, h2⟩ := h
  refine ⟨vs, b _ _ (ne_of_none h1 hn) h1, h3, fun k d hm hk => ?_⟩
  obtain ⟨a, g0, g1, xs, g2, g3⟩ := h2 k d hm hk
  exact ⟨a, g0, g1, xs, b _ _ (ne_of_none g2 hn) g2, g3.mono (by assumption)⟩
theorem szs_trs_le {R : Rules} {z : Nat} : ∀ {ks : List Doc}, (∀ d ∈ ks, szs (tr R d) ≤ z) → szs (trs R ks) ≤ ks.length * z
  | [], _ => by rw [trs, szs]; exact Nat.zero_le _
  | d :: r, h => by
    have h1 := h d List.mem_cons_self
    have h2 := szs_trs_le (ks := r) fun x hx => h x (List.mem_cons_of_mem _ hx)
    rw [trs, szs_app, List.length_cons, Nat.succ_mul]
    omega
section
variable {P : Program} {w : World} {K : PySem.W.Frag} {mg : Str → Option Value} {base : Heap} {f fC fT fN fI fB fO fS : Addr} {fd fdC fdT fdN fdI fdB fdO fdS : FuncData}
abbrev nRows : List Str := ["_law_rules", "_law_docs", "_law_kids", "_law_counts", "_law_most", "_law_rows", "_law_k", "_law_row", "_law_j", "_law_items_here", "_law_doc"]
theorem scRows : FnScope nRows ["_law_rules", "_law_docs", "_law_kids", "_law_counts", "_law_most"] (defScope sTurnedRows) := ⟨rfl, rfl, rfl, by decide +kernel, rfl, by decide +kernel, by decide +kernel⟩
theorem ok_rows (B : Blt mg) (F : Df K mg "_law_turned_rows" sTurnedRows f fd) (CF : Cal P w K mg base CX0 1 "_law_for" ["_law_rules", "_law_name"] spFor fC fdC) (CS : Cal P w K mg base CX0 7 "_law_full" ["_law_items_here", "_law_row"] (spFull 6) fS fdS) :
    Cal P w K mg base CX0 8 "_law_turned_rows" ["_law_rules", "_law_docs", "_law_kids", "_law_counts", "_law_most"] spRows f fd := by
  refine F.cal (F.fn.ok scRows (fun vs H Q E h => ?_) (fun cdv A outer s H vs Q E hr h => ?_)) fun _ _ _ _ _ _ us hl => match us, hl with | [_, _, _, _, _], _ => rfl
  · obtain ⟨v0, R, pd, pk, pc, n, docs, as, kd, rfl, _⟩ := h
    rfl
  obtain ⟨v0, R, pd, pk, pc, n, docs, as, kd, rfl, hv, hR, hn, hD, hC, h400, q⟩ := h
  have S : Sl H (L2.start nRows [v0, V.ref pd, V.ref pk, V.ref pc, V.int 400]) [.d (encRs R), .v (.ref pd), .v (.ref pk), .v (.ref pc), .d (.i 400), .no, .no, .no, .no, .no, .no] := .cons ⟨_, rfl, hv⟩ (.cons rfl (.cons rfl (.cons rfl (.cons ⟨_, rfl, .i _⟩ (Sl.rep 6)))))
  have hr1 : Room 1 _ := hr.mono (by decide)
  have hr7 : Room 7 _ := hr.mono (by decide)
  refine ⟨_, pss_cons (ps_setLc (i := 5) (own := [("_law_doc", 10)]) (g := gName 10) (tt := tYes) rfl scRows.nd rfl rfl (sw_true rfl rfl rfl (by decide +kernel)) (pi_list (pv 1)) (blkOk_by (N := nRows) (sc := defScope sTurnedRows) (by decide +kernel))
      (fun _ _ _ _ _ => pg_name (i := 10) scRows.nd rfl (Or.inl rfl)) (fun _ _ _ _ _ => pts_nil) (fun _ _ _ _ _ => pe_non))
    (pss_cons (ps_for PassesOwn.never rfl (pi_revR (by rfl) B.reversed (prg_1 (by rfl) B.range (pe_callB (lenK K) (by rfl) B.len PySem.boot_len (pa_cons (pv 1) pa_nil)))) (pg_name (i := 6) scRows.nd rfl (Or.inl rfl))
      (pss_one (ps_if (pt_cmpR op_le (pe_ix (ixL K) (pv 3) (pv 6) (fun _ _ => rfl)) (pv 4) (nomark _))
        (pss_cons (ps_set (i := 7) scRows.nd rfl (Or.inl rfl) (pe_lst pa_nil))
        (pss_cons (ps_for PassesOwn.never rfl (pi_list (pe_ix (ixL K) (pv 2) (pv 6) (fun _ _ => rfl))) (pg_name (i := 8) scRows.nd rfl (Or.inl rfl))
          (pss_one (ps_if (pt_cmp (pc_notN (pe_ix (ixL K) (pv 5) (pv 8) (fun _ _ => rfl))))
            (pss_one (ps_expr (pe_bm PySem.F.plainAttrs_list PySem.F.slot_list_extend PySem.F.type_list_extend mt_extend (pv 7) (pa_cons (pe_ix (ixL K) (pv 5) (pv 8) (fun _ _ => rfl)) pa_nil)))) pss_nil)))
        (pss_cons (ps_set (i := 9) scRows.nd rfl (Or.inl rfl) (pe_cal CF hr1 (pa_cons (pv 0) (pa_cons (pe_ix (ixT K) (pe_ix (ixL K) (pv 1) (pv 6) (fun _ _ => rfl)) pe_int (fun _ _ => rfl)) pa_nil))))
        (pss_one (ps_if (pt_cmpR (op_eqT1 K (hu_of hr)) (pv 9) (pe_tup (pa_cons (pe_ix (ixT K) (pe_ix (ixL K) (pv 1) (pv 6) (fun _ _ => rfl)) pe_int (fun _ _ => rfl)) pa_nil)) (nomark _))
          (pss_one (ps_asg (pe_lst (pa_cons (pe_tup (pa_cons (pe_ix (ixT K) (pe_ix (ixL K) (pv 1) (pv 6) (fun _ _ => rfl)) pe_int (fun _ _ => rfl)) (pa_cons (pe_callTy (tupK K) (by rfl) B.tuple (by decide +kernel) (pa_cons (pv 7) pa_nil)) pa_nil))) pa_nil)) (pg_sub (pv 5) (pv 6) set_list)))
          (pss_one (ps_asg (pe_cal CS hr7 (pa_cons (pv 9) (pa_cons (pv 7) pa_nil))) (pg_sub (pv 5) (pv 6) set_list))))))))
        pss_nil)))
    (pss_one (ps_ret (pv 5)))), ?_⟩
  refine qs_setN S (en_lcL (xs := docs) encC (fun _ => Dt.n) (er_varA S rfl hD.L) (by rw [hD.len]; omega) (fun a _ x Ha e r => ed_non)) fun pr σ1 H1 hpr e1 L1 S1 => ?_
  have lend := hD.len
  refine qd_forRev (n := n) (ed_is (ed_lenL (er_varA S1 rfl (hD.L.ex e1))) (by rw [List.length_map, lend])) (by omega)
    (fun i σ' H' => Ex H H' ∧ Sl H' σ' [.d (encRs R), .v (.ref pd), .v (.ref pk), .v (.ref pc), .d (.i 400), .v (.ref pr), .no, .no, .no, .no, .no] ∧ RowsF H' pr R docs (n - i))
    (fun Ha e => ⟨e1.trans e, S1.ex e, by
      obtain ⟨vs, g1, g2⟩ := L1.ex e
      exact ⟨vs, g1, by rw [g2.len, List.length_map], fun k d hm hk => by
        have := (List.getElem?_eq_some_iff.mp hk).1
        omega⟩⟩) (fun i σ' H' hi pv => ?_) (fun σ' H' pv => ?_)
  · obtain ⟨r1, r2, r3⟩ := pv
    obtain ⟨m, hm⟩ : ∃ m, m = n - 1 - i := ⟨_, rfl⟩
    rw [← hm]
    have hmn : m < n := by omega
    have T1 := r2.setD 6 (.i (m : Int))
    obtain ⟨nm, hnm, hdoc⟩ := hD.made m hmn
    have hdm : docs.getD m noDoc = .mk nm ((kd m).map fun j => docs.getD j noDoc) := getD_of hdoc
    have hdc : atI (docs.map encC) (m : Int) = some (.t [.s nm, .t (((kd m).map fun j => docs.getD j noDoc).map encC)]) := atI_nat (by rw [List.getElem?_map, hdoc, Option.map_some, encC_mk])
    have hcm : atI (docs.map fun d => Dt.i ((szs (tr R d) : Nat) : Int)) (m : Int) = some (.i ((szs (tr R (docs.getD m noDoc)) : Nat) : Int)) := atI_nat (by rw [List.getElem?_map, get_lt noDoc (by rw [lend]; exact hmn)]; rfl)
    have hc4 : szs (tr R (docs.getD m noDoc)) ≤ 400 := h400 _ (getD_mem _ (by rw [lend]; exact hmn))
    have kdm : ∀ j ∈ kd m, m < j ∧ j < n := fun j hj => hD.kb m j hj
    have hkl : (kd m).length ≤ 12 := Nat.le_trans (nodup_lt n (kd m) (hD.nd m) fun j hj => (kdm j hj).2) hn
    have hksz : ∀ l : List Nat, (∀ j ∈ l, j < n) → szs (trs R (l.map fun j => docs.getD j noDoc)) ≤ l.length * 400 := fun l hl => by
      have := szs_trs_le (R := R) (z := 400) (ks := l.map fun j => docs.getD j noDoc) fun d hd => by
        obtain ⟨j, hj, rfl⟩ := List.mem_map.mp hd
        exact h400 _ (getD_mem _ (by rw [lend]; exact hl j hj))
      rw [List.length_map] at this
      exact this
    refine s_when (et_ed (ed_cmp0 (ed_ixL (er_varA T1 rfl (hC.ex r1)) (ed_var T1 rfl) hcm) (ed_var T1 rfl))) (fun hb H2 e2 => ?_) (fun hb H2 e2 => ?_)
    rotate_left
    · have h4 : ((szs (tr R (docs.getD m noDoc)) : Nat) : Int) ≤ 400 := by omega
      exact absurd hb (by rw [decide_eq_true h4]; decide)
    have S2 := T1.ex e2
    refine qs_setN S2 (en_lst ds_nil (by simp)) fun prow σ3 H3 hprow e3 L3 S3 => ?_
    have E3 := (r1.trans e2).trans e3
    have prow1 : H prow = none := fresh_back (r1.trans e2) hprow
    have F2 := r3.ex e2
    have F3 := F2.ex e3
    have npr : pr ≠ prow := fun z => by
      obtain ⟨vs, g1, _⟩ := F2
      rw [z, hprow] at g1; cases g1
    obtain ⟨aK, haK⟩ : ∃ aK, as[m]? = some aK := ⟨_, List.getElem?_eq_getElem (by rw [hD.alen]; exact hmn)⟩
    have K3 := hD.K.ex E3
    have LK : Ls H3 aK ((kd m).map eN) := K3.ls m aK haK
    have nK : aK ≠ prow := (hD.K.ls m aK haK).ne prow1
    refine qd_forA (xs := kd m) (p := aK) eN (ev_ixR (ev_varV S3 rfl) K3.top (ed_var S3 rfl) haK) LK
      (fun pre σ' H' => Exb prow H3 H' ∧ Tk H3 H' ∧ Sl H' σ' [.d (encRs R), .v (.ref pd), .v (.ref pk), .v (.ref pc), .d (.i 400), .v (.ref pr), .d (.i (m : Int)), .v (.ref prow), .no, .no, .no] ∧ Ls H' prow ((trs R (pre.map fun j => docs.getD j noDoc)).map encC))
      (fun Ha e => ⟨Exb.of e, Tk.ex e, S3.ex e, L3.ex e⟩) (fun pre σ' H' p => ⟨p.2.1, fun o h => p.1 _ _ nK h⟩) (fun pre j post x σ' H' es p r => ?_) (fun σ' H' p => ?_)
    · obtain ⟨p1, p2, p3, p4⟩ := p
      have hjm : j ∈ kd m := by rw [es]; simp
      have hjb := kdm j hjm
      have Sj := p3.setD 8 r
      have Fj : RowsF H' pr R docs (n - i) := (F2.bt (Exb.trans (Exb.of e3) p1) ((Tk.ex e3).trans p2) hprow)
      obtain ⟨vs, g1, g2, g3⟩ := Fj
      obtain ⟨aj, g4, g5, g6⟩ := g3 j (docs.getD j noDoc) (by omega) (get_lt noDoc (by rw [lend]; exact hjb.2))
      refine s_when (et_notNr (ev_ixV (ev_varV Sj rfl) g1 (ed_var Sj rfl) g5)) (fun _ Ha ea => ?_) (fun hb Ha ea => nomatch hb)
      have hpre : ∀ jj ∈ pre, jj < n := fun jj hjj => (kdm jj (by rw [es]; simp [hjj])).2
      have hlp : pre.length ≤ 12 := by
        have := congrArg List.length es
        rw [List.length_append] at this
        omega
      refine sd_ext (ev_varV (Sj.ex ea) rfl) (p4.ex ea) (er_ev (ev_ixV (ev_varV (Sj.ex ea) rfl) (ea _ _ g1) (ed_var (Sj.ex ea) rfl) g5) (g6.ex ea)) ?_ fun Hb Hc eb b L => ?_
      · rw [List.length_map, List.length_map]
        have h1 := hksz pre hpre
        have h2 := szs_len (trs R (pre.map fun j => docs.getD j noDoc))
        have h3 := szs_len (tr R (docs.getD j noDoc))
        have h4 : szs (tr R (docs.getD j noDoc)) ≤ 400 := h400 _ (getD_mem _ (by rw [lend]; exact hjb.2))
        omega
      · refine ⟨p1.trans ((Exb.of (ea.trans eb)).trans (Exb.bt b)), (p2.trans (Tk.ex (ea.trans eb))).trans b.tk, ((Sj.ex (ea.trans eb)).tk b.tk rfl).drop 8, ?_⟩
        rw [List.map_append, trs_app, List.map_append]
        show Ls Hc prow (_ ++ (trs R [docs.getD j noDoc]).map encC)
        rw [trs_one]
        exact L
    · obtain ⟨p1, p2, p3, p4⟩ := p
      have E4 : Ex H H' := Exb.ex (Exb.trans (Exb.of e3) p1) (r1.trans e2) prow1
      have F4 : RowsF H' pr R docs (n - i) := F2.bt (Exb.trans (Exb.of e3) p1) ((Tk.ex e3).trans p2) hprow
      refine qs_set (d := forD R nm) p3 (ed_call (R, nm) (ad_d (ed_var p3 rfl) (ad_d (ed_ixT (ed_ixL (er_varA p3 rfl (hD.L.ex E4)) (ed_var p3 rfl) hdc) ed_int rfl) ad_nil)) trivial) fun σ5 H5 e5 S5 => ?_
      have E5 := E4.trans e5
      have fin : ∀ {Ha Hb : Hp} {a : Addr} {vs : List V}, Ex H5 Ha → RowsF Ha pr R docs (n - i) → Ha pr = some (.lst vs) → H5 a = none → Ls Ha a ((tr R (docs.getD m noDoc)).map encC) → Bt pr Ha Hb → Hb pr = some (.lst (vs.set m (.ref a))) →
          Ex H Hb ∧ Sl Hb σ5 [.d (encRs R), .v (.ref pd), .v (.ref pk), .v (.ref pc), .d (.i 400), .v (.ref pr), .no, .no, .no, .no, .no] ∧ RowsF Hb pr R docs (n - (i + 1)) := fun {Ha Hb a vs} ea Fa hp ha La b hb => by
        refine ⟨b.ex (E5.trans ea) hpr, ((((S5.ex ea).tk b.tk rfl).drop 6).drop 7 |>.drop 8).drop 9, vs.set m (.ref a), hb, ?_, fun k d hk hd => ?_⟩
        · obtain ⟨vs', g1, g2, _⟩ := Fa
          rw [hp] at g1
          cases g1
          rw [List.length_set]
          exact g2
        · obtain ⟨vs', g1, g2, g3⟩ := Fa
          rw [hp] at g1
          cases g1
          by_cases hkm : k = m
          · subst hkm
            have hdd : docs.getD k noDoc = d := getD_of hd
            have nap : a ≠ pr := fun z => by
              have h0 := F4.ex e5
              obtain ⟨_, z1, _⟩ := h0
              rw [← z, ha] at z1; cases z1
            refine ⟨a, nap, ?_, b.ls nap (by rw [← hdd]; exact La)⟩
            rw [List.getElem?_set_self (by rw [g2, lend]; exact hmn)]
          · obtain ⟨a', g4, g5, g6⟩ := g3 k d (by omega) hd
            refine ⟨a', g4, ?_, b.ls g4 g6⟩
            rw [List.getElem?_set_ne (Ne.symm hkm)]
            exact g5
      obtain ⟨vs, g1, g2, g3⟩ := F4.ex e5
      have F5 : RowsF H5 pr R docs (n - i) := ⟨vs, g1, g2, g3⟩
      have p5 := p4.ex e5
      refine s_if (et_ed (ed_eqForD hnm.star (ed_var S5 rfl) (ed_tup (ds_cons (ed_ixT (ed_ixL (er_varA S5 rfl (hD.L.ex E5)) (ed_var S5 rfl) hdc) ed_int rfl) ds_nil) (by simp)))) (fun hb Ha ea => ?_) (fun hb Ha ea => ?_)
      · have hnone : ruleFor R nm = none := Option.isNone_iff_eq_none.mp hb
        have Sa := S5.ex ea
        refine sn_put (ds := (tr R (docs.getD m noDoc)).map encC) (ea _ _ g1) (en_is (en_lst (ds_cons (ed_tup (ds_cons (ed_ixT (ed_ixL (er_varA Sa rfl ((hD.L.ex E5).ex ea)) (ed_var Sa rfl) hdc) ed_int rfl) (ds_cons (ed_tupL (er_varA Sa rfl (p5.ex ea))) ds_nil)) (by simp)) ds_nil) (by simp)) ?_) (ev_varV Sa rfl) (ed_var Sa rfl) (by rw [g2, lend]; exact hmn) fun a Hb Hc ha eb L b hl => fin (ea.trans eb) (F5.ex (ea.trans eb)) ((ea.trans eb) _ _ g1) (fresh_back ea ha) L b hl
        rw [hdm, sz_tr_none hnone, List.map_singleton, encC_mk]
      · obtain ⟨its, hits⟩ : ∃ its, ruleFor R nm = some its := by
          cases hz : ruleFor R nm with
          | none => rw [hz] at hb; cases hb
          | some its => exact ⟨its, rfl⟩
        have Sa := S5.ex ea
        have hfd : forD R nm = .t (its.map encI) := by unfold forD; rw [hits]
        have hfull : tr R (docs.getD m noDoc) = fullIs (trs R ((kd m).map fun j => docs.getD j noDoc)) its := by rw [hdm, sz_tr_some hits]
        refine sn_put (ds := (tr R (docs.getD m noDoc)).map encC) (ea _ _ g1) (en_is (en_call (its, trs R ((kd m).map fun j => docs.getD j noDoc)) (ad_d (ed_is (ed_var Sa rfl) hfd) (ad_l (er_varA Sa rfl (p5.ex ea)) ad_nil)) ?_) ?_) (ev_varV Sa rfl) (ed_var Sa rfl) (by rw [g2, lend]; exact hmn) fun a Hb Hc ha eb L b hl => fin (ea.trans eb) (F5.ex (ea.trans eb)) ((ea.trans eb) _ _ g1) (fresh_back ea ha) L b hl
        · have h5 : deps its ≤ 5 := hR.2.2 _ (ruleFor_mem hits)
          rw [hfull] at hc4
          exact ⟨by show deps its < 6; omega, Nat.le_trans hc4 (by decide)⟩
        · rw [hfull]
  · obtain ⟨r1, r2, r3⟩ := pv
    refine (ev_varV (i := 5) r2 rfl) H' (Ex.refl H') _ fun Ha ea => q pr Ha (r1.trans ea) ?_
    obtain ⟨vs, g1, g2, g3⟩ := r3.ex ea
    exact ⟨vs, g1, fun k d hk => let ⟨a, h1, h2, h3⟩ := g3 k d (by omega) hk; ⟨a, h2, h3⟩⟩
end
end GF
set_option Elab.async false
set_option linter.all false
set_option maxRecDepth 100000
set_option maxHeartbeats 1000000
/-! Gf14: dicts by nested tuples. -/
namespace GF
open PySem L2 Evl PySem.Spec PyProof.Rows
mutual
def nk : Dt → NestedKey
  | .i z => .num z
  | .s x => .text x
  | .b c => .num (if c = true then 1 else 0)
  | .n => .none
  | .t ds => .tup (nks ds)
  | .f ds => .tup (nks ds)
def nks : List Dt → List NestedKey
  | [] => []
  | d :: r => nk d :: nks r
end
section
variable {P : Program} {w : World} {H : Hp} {h : Heap}
mutual
theorem key_is (ok : HOk P w H h) : ∀ {v : V} {d : Dt} {u : Value}, Rp H v d → RelV v u → NestedIs h (nk d) u
  | _, _, _, .i x, r => by
    obtain ⟨t, rfl⟩ := r
    exact .int _ _
  | _, _, _, .s x, r => by
    obtain ⟨t, rfl⟩ := r
    exact .text _ _
  | _, _, _, .b x, r => by
    cases (show _ = Value.bool x from r)
    exact .bool rfl
  | _, _, _, .n, r => by
    cases (show _ = Value.none from r)
    exact .none
  | .ref a, .t ds, u, .t (xs := xs) ha hs, r => by
    cases (show u = Value.ref a from r)
    obtain ⟨_, its, rv, o, h1, h2, n, h3⟩ := (show ObjOk P w H h a (.tup xs) from ok a _ ha)
    exact .tup h1 h2 h3 (by simpa using keys_are ok hs rv)
  | .ref a, .f ds, u, .f (o := ob) (xs := xs) ha hc hd hs, r => by
    cases (show u = Value.ref a from r)
    obtain ⟨_, _, its, rv, o, h1, h2, n, h3⟩ := (show ObjOk P w H h a (.frz ob (.tup xs)) from ok a _ ha)
    exact .tup h1 h2 h3 (by simpa using keys_are ok hs rv)
theorem keys_are (ok : HOk P w H h) : ∀ {vs : List V} {ds : List Dt} {us : List Value}, RpA H vs ds → Vals vs us → NestedAll h (nks ds) us
  | _, _, _, .nil, r => by
    cases r
    exact .nil
  | _, _, _, .cons a b, r => by
    cases r with
    | cons r1 r2 => exact .cons (key_is ok a r1) (keys_are ok b r2)
end
end
def SPair (p : Dt × Addr × V) (q : NestedKey × Addr × Value) : Prop := q.1 = nk p.1 ∧ q.2.1 = p.2.1 ∧ RelV p.2.2 q.2.2
/-- the dict at d, keyed by nested tuples -/
def SDic (P : Program) (w : World) (d : Addr) (kvs : List (Dt × Addr × V)) : HO := .ext fun h => kvs.length ≤ 1000 ∧ (d == sysModules) = false ∧ ∃ xs : List (NestedKey × Addr × Value), Paired SPair kvs xs ∧
  ∃ o es ep, h.get? d = some o ∧ o.ExactDict ∧ o.data = .dict es ep ∧ es.toList = xs.map (entryOfKey (nestedKind P w)) ∧ (xs.map (·.1)).Nodup
def SD (P : Program) (w : World) (H : Hp) (d : Addr) (kvs : List (Dt × Addr × V)) : Prop := H d = some (SDic P w d kvs) ∧ ∀ e ∈ kvs, Rp H (.ref e.2.1) e.1 ∧ (nk e.1).depth ≤ 8
def valS (kvs : List (Dt × Addr × V)) (k : Dt) : Option V := (kvs.find? fun e => decide (nk e.1 = nk k)).map (·.2.2)
section
variable {P : Program} {w : World} {H H' : Hp} {h : Heap} {d b : Addr} {kvs : List (Dt × Addr × V)} {k : Dt}
theorem SD.ex (e : Ex H H') (s : SD P w H d kvs) : SD P w H' d kvs := ⟨e _ _ s.1, fun x hx => ⟨(s.2 x hx).1.ex e, (s.2 x hx).2⟩⟩
theorem SD.bt {l : Addr} (b : Bt l H H') (n : d ≠ l) (s : SD P w H d kvs) : SD P w H' d kvs := ⟨by rw [b.bt d n]; exact s.1, fun x hx => ⟨(s.2 x hx).1.mono b.tk, (s.2 x hx).2⟩⟩
theorem valS_at {xs : List (NestedKey × Addr × Value)} (r : Paired SPair kvs xs) (k : Dt) : RelO (valS kvs k) ((atKey xs (nk k)).map (·.2)) := by
  induction r with
  | nil => exact True.intro
  | @cons p q ps qs hq t ih =>
    unfold valS atKey at ih ⊢
    rw [List.find?_cons, List.find?_cons]
    by_cases e : nk p.1 = nk k
    · have e2 : q.1 = nk k := hq.1.trans e
      rw [decide_eq_true e, decide_eq_true e2]
      exact hq.2.2
    · have e2 : ¬ q.1 = nk k := fun z => e (hq.1.symm.trans z)
      rw [decide_eq_false e, decide_eq_false e2]
      exact ih
theorem sd_open (ok : HOk P w H h) (s : SD P w H d kvs) : kvs.length ≤ 1000 ∧ (d == sysModules) = false ∧ ∃ xs, Paired SPair kvs xs ∧ h.DictOfH (nestedKind P w) d xs := by
  obtain ⟨⟨z, y, xs, r, o, es, ep, h1, h2, h3, h4, h5⟩, _⟩ := (show ObjOk P w H h d (SDic P w d kvs) from ok d _ s.1)
  refine ⟨z, y, xs, r, o, es, ep, h1, h2, h3, h4, fun x hx => ?_, h5⟩
  have all : ∀ {l : List (Dt × Addr × V)} {m : List (NestedKey × Addr × Value)}, Paired SPair l m → (∀ e ∈ l, Rp H (.ref e.2.1) e.1 ∧ (nk e.1).depth ≤ 8) → ∀ x ∈ m, (nestedKind P w).is h x.1 x.2.1 := by
    intro l m q
    induction q with
    | nil => intro _ x hx; exact nomatch hx
    | @cons p q ps qs hq t ih =>
      intro hl x hx
      rcases List.mem_cons.mp hx with e | hx
      · subst e
        obtain ⟨g1, g2⟩ := hl p List.mem_cons_self
        rw [hq.1, hq.2.1]
        exact ⟨key_is ok g1 rfl, g2⟩
      · exact ih (fun e he => hl e (List.mem_cons_of_mem _ he)) x hx
  exact all r s.2 x hx
end
/-- what the dict holds at y -/
def SGet (P : Program) (w : World) (H : Hp) (d : Addr) (y : V) (r : Option V) : Prop := ∃ kvs k b, SD P w H d kvs ∧ y = .ref b ∧ Rp H (.ref b) k ∧ (nk k).depth ≤ 8 ∧ r = valS kvs k
section
variable {X : Cx} {pins : List (Addr × Obj)} {σ : L2.St} {H : Hp} {s : Shared} {d : Addr} {y v : V} {u r : Value} {o : Option V} {A : Around} {E : Value → Shared → Prop}
theorem s_getItem {Q : Value → Shared → Prop} (hu : A.units + 9 < cLine) (I : Inv X pins σ H s) (g : SGet X.prog X.w H d y (some v)) (ry : RelV y u) (h : ∀ w' s', Inv X pins σ H s' → RelV v w' → Q w' s') : wpAny (model X.prog X.w) A (getItem (.ref d) u) Q E s := by
  obtain ⟨kvs, k, b, e, rfl, eb, dk, l⟩ := g
  cases (show u = Value.ref b from ry)
  obtain ⟨z, hd, xs, rel, dd⟩ := sd_open I.hok e
  obtain ⟨w', hw, rw'⟩ := RelO.some_of (v := v) (o := (atKey xs (nk k)).map (·.2)) (by rw [l]; exact valS_at rel k)
  obtain ⟨p, hp, hp2⟩ := Option.map_eq_some_iff.mp hw
  refine wpAny_getItem_heap (knd := nestedKind X.prog X.w) (by show A.in1.units + 8 < cLine; rw [Around.in1_units]; omega) ⟨key_is I.hok eb rfl, dk⟩ dd hp ?_
  rw [hp2]
  exact h w' _ (I.tok _) rw'
theorem s_notIn {Q : Value → Shared → Prop} (hu : A.units + 9 < cLine) (I : Inv X pins σ H s) (g : SGet X.prog X.w H d y o) (ry : RelV y u) (h : ∀ s', Inv X pins σ H s' → Q (.bool (!o.isSome)) s') : wpAny (model X.prog X.w) A (compareOp .NotIn u (.ref d)) Q E s := by
  obtain ⟨kvs, k, b, e, rfl, eb, dk, l⟩ := g
  cases (show u = Value.ref b from ry)
  obtain ⟨z, hd, xs, rel, dd⟩ := sd_open I.hok e
  refine wpAny_notIn_heap (knd := nestedKind X.prog X.w) (by show A.in1.units + 8 < cLine; rw [Around.in1_units]; omega) ⟨key_is I.hok eb rfl, dk⟩ hd dd ?_
  have q := (valS_at rel k).isSome_eq
  rw [Option.isSome_map] at q
  rw [← q, ← l]
  exact h _ (I.tok _)
/-- d[y] = v, y not yet there -/
theorem s_setItem {kvs : List (Dt × Addr × V)} {k : Dt} {b : Addr} {Q : Unit → Shared → Prop} (hu : A.units + 9 < cLine) (I : Inv X pins σ H s) (e : SD X.prog X.w H d kvs) (eb : Rp H (.ref b) k) (dk : (nk k).depth ≤ 8) (l : valS kvs k = none) (hz : kvs.length < 1000) (rv : RelV v r)
    (h : ∀ s', Inv X pins σ (upd H d (SDic X.prog X.w d (kvs ++ [(k, b, v)]))) s' → Q () s') : wpAny (model X.prog X.w) A (setItem (.ref d) (.ref b) r) Q E s := by
  obtain ⟨z, hd, xs, rel, dd⟩ := sd_open I.hok e
  have hl := Paired.length rel
  have hn : atKey xs (nk k) = none := by
    have q := (valS_at rel k).isSome_eq
    rw [Option.isSome_map, l] at q
    cases hq : atKey xs (nk k) with
    | none => rfl
    | some p => rw [hq] at q; cases q
  refine wpAny_setItem_heap (knd := nestedKind X.prog X.w) (hsz := by rw [← hl]; exact sz_of (by omega)) (by show A.in1.units + 8 < cLine; rw [Around.in1_units]; omega) ⟨key_is I.hok eb rfl, dk⟩ dd fun h' dd' hs => h _ ?_
  rw [storedH_new hn] at dd'
  obtain ⟨q, es, ep, hq, h2, h3, h4, _, h5⟩ := dd'
  have pr : ∀ {l : List (Dt × Addr × V)} {m : List (NestedKey × Addr × Value)}, Paired SPair l m → Paired SPair (l ++ [(k, b, v)]) (m ++ [(nk k, b, r)]) := by
    intro l m p
    induction p with
    | nil => exact .cons ⟨rfl, rfl, rv⟩ .nil
    | cons h1 h2 ih => exact .cons h1 ih
  have new : ∀ hh : Heap, hh.get? d = some q → ObjOk X.prog X.w (upd H d (SDic X.prog X.w d (kvs ++ [(k, b, v)]))) hh d (SDic X.prog X.w d (kvs ++ [(k, b, v)])) := fun hh hhq => by
    refine ⟨⟨by rw [List.length_append]; show _ + 1 ≤ 1000; omega, hd, _, pr rel, q, es, ep, hhq, h2, h3, h4, h5⟩, ⟨q, hhq⟩, fun h1 h2 g k => ?_⟩
    obtain ⟨g1, g2, xs', g3, o', es', ep', g4, g5⟩ := g
    exact ⟨g1, g2, xs', g3, o', es', ep', k _ g4, g5⟩
  exact d_write I (by rw [e.1]; exact True.intro) hs ⟨q, hq⟩ (new h' hq)
theorem sd_new {pos : Pos} {σ : L2.St} {X : Cx} : PE X (.Dict [] [] pos) (fun _ H Q => ∀ p, H p = none → Q (.ref p) (upd H p (SDic X.prog X.w p []))) := ⟨fun pins s σ H Q I h =>
  wpAny_Dict_empty ⟨.ref s.heap.objs.size, _, I.laid (a := s.heap.objs.size) (o := SDic X.prog X.w s.heap.objs.size []) (t' := s.toks) (fun _ _ q => Heap.get?_push_of_some _ q) (Nat.le_refl _)
    ⟨⟨Nat.zero_le _, beq_eq_false_iff_ne.mpr (Ne.symm (Nat.ne_of_lt I.big)), [], .nil, _, #[], 0, Heap.get?_push_size _ rfl, ⟨rfl, rfl, rfl⟩, rfl, rfl, List.nodup_nil⟩, ⟨_, Heap.get?_push_size _ rfl⟩, fun h1 h2 g k => by
      obtain ⟨g1, g2, xs', g3, o', es', ep', g4, g5⟩ := g
      exact ⟨g1, g2, xs', g3, o', es', ep', k _ g4, g5⟩⟩, rfl, h _ (I.hok.fresh (Nat.le_refl _))⟩⟩
theorem s_typeIs (I : Inv X pins σ H s) (g : SGet X.prog X.w H d y o) : s.TypeIs (.ref d) "dict" := by
  obtain ⟨kvs, k, b, e, _⟩ := g
  obtain ⟨_, _, xs, _, dd⟩ := sd_open I.hok e
  exact dd.typeIs
end
/-! ### the rules -/
def tSNew (P : Program) (w : World) : TE := fun _ H Q => ∀ p, H p = none → Q (.ref p) (upd H p (SDic P w p []))
def tSGet (P : Program) (w : World) (td ty : TE) : TE := fun σ H Q => td σ H fun x H1 => ty σ H1 fun y H2 => ∃ a v, x = .ref a ∧ SGet P w H2 a y (some v) ∧ Q v H2
def tSNotIn (P : Program) (w : World) (ty td : TE) : TE := fun σ H Q => ty σ H fun y H1 => td σ H1 fun x H2 => ∃ a o, x = .ref a ∧ SGet P w H2 a y o ∧ Q (.bl (!o.isSome)) H2
def sSPut (P : Program) (w : World) (td ty tv : TE) : TS := fun D σ H => tv σ H fun v H1 => td σ H1 fun x H2 => ty σ H2 fun y H3 => ∃ a kvs k b, x = .ref a ∧ y = .ref b ∧ SD P w H3 a kvs ∧ Rp H3 (.ref b) k ∧ (nk k).depth ≤ 8 ∧ valS kvs k = none ∧ kvs.length < 1000 ∧
  D.nx σ (upd H3 a (SDic P w a (kvs ++ [(k, b, v)])))
section
variable {X : Cx} {o i e value : Expr} {pos pos' tpos : Pos} {td ty tv : TE} {P : Program} {w : World}
theorem pe_snew (P : Program) (w : World) (hP : X.prog = P := by rfl) (hw : X.w = w := by rfl) : PE X (.Dict [] [] pos) (tSNew P w) := by
  subst hP hw
  exact sd_new (σ := [])
theorem pe_sget (P : Program) (w : World) (hu : X.A.units + 9 < cLine) (ho : PE X o td) (hi : PE X i ty) (hs : NoSl i) (hP : X.prog = P := by rfl) (hw : X.w = w := by rfl) : PE X (.Subscript o i pos) (tSGet P w td ty) := by
  subst hP hw
  refine ⟨fun pins s σ H Q I h => ?_⟩
  refine subD_of PySem.F.slot_dict_getitem.lookup hs (thn (ho.run pins s σ H _ I h) fun u s1 ⟨x, H1, I1, rx, q1⟩ => thn (hi.run pins s1 σ H1 _ I1 q1) fun iv s2 ⟨y, H2, I2, ry, a, v, ex, g, q2⟩ => ?_)
  subst ex
  obtain rfl : u = Value.ref a := rx
  exact ⟨s_typeIs I2 g, s_getItem hu I2 g ry fun w' s3 I3 rw' => ⟨v, H2, I3, rw', q2⟩⟩
theorem pc_snotin (P : Program) (w : World) (hu : X.A.units + 9 < cLine) (hi : PE X i ty) (ho : PE X o td) (hP : X.prog = P := by rfl) (hw : X.w = w := by rfl) : PC X .NotIn i o (tSNotIn P w ty td) := by
  subst hP hw
  refine ⟨fun pins s σ H Q I h => ?_⟩
  refine thn (hi.run pins s σ H _ I h) fun iv s1 ⟨y, H1, I1, ry, q1⟩ => thn (ho.run pins s1 σ H1 _ I1 q1) fun u s2 ⟨x, H2, I2, rx, a, ov, ex, g, q2⟩ => ?_
  subst ex
  obtain rfl : u = Value.ref a := rx
  exact s_notIn hu I2 g ry fun s3 I3 => ⟨.bl (!ov.isSome), H2, I3, rfl, q2⟩
theorem ps_sput (P : Program) (w : World) (hu : X.A.units + 9 < cLine) (ho : PE X o td) (hi : PE X i ty) (hv : PE X value tv) (hs : swapsWith value (some (.Subscript o i pos')) pos.line X.env = pure false) (hP : X.prog = P := by rfl) (hw : X.w = w := by rfl) :
    PS X (.Assign [.Subscript o i pos'] value pos) (sSPut P w td ty tv) := by
  subst hP hw
  refine ⟨fun pins s σ H D I h => ?_⟩
  refine wpAny_Assign_Subscript (thn (hv.run pins s σ H _ I h) fun r s1 ⟨v, H1, I1, rv, q1⟩ => thn (ho.run pins s1 σ H1 _ I1 q1) fun u s2 ⟨x, H2, I2, rx, q2⟩ => thn (hi.run pins s2 σ H2 _ I2 q2) fun iv s3 ⟨y, H3, I3, ry, a, kvs, k, b, ex, ey, g1, g2, g3, g4, g5, q3⟩ => ?_) hs
  subst ex ey
  obtain rfl : u = Value.ref a := rx
  obtain rfl : iv = Value.ref b := ry
  exact s_setItem hu I3 g1 g2 g3 g4 g5 rv fun s4 I4 => ⟨σ, _, I4, q3⟩
end
end GF
set_option Elab.async false
set_option linter.all false
set_option maxRecDepth 100000
set_option maxHeartbeats 4000000
/-! Gf15: sorted(set(texts)): the hand layer's set of ints, turned to texts. -/
namespace GF
open PySem L2 Evl PySem.Spec PyProof.Rows
def tkOf (e : Int × Value) : Str := match e.2 with | .str k _ => k | _ => Str.empty
def GoodT (w : World) (e : Int × Value) : Prop := ∃ k tk, e.2 = Value.str k tk ∧ e.1 = hashStr w k

def SetT (w : World) (h : Heap) (a : Addr) (S : Str → Bool) (n : Nat) : Prop :=
  ∃ o es ep t, h.get? a = some o ∧ o.ExactSet ∧ o.data = .set es ep t ∧ (∀ e ∈ es.toList, GoodT w e) ∧ (es.toList.map tkOf).Nodup ∧ (∀ k, S k = true ↔ k ∈ es.toList.map tkOf) ∧
    es.size < scanBound ∧ t.fits es.size = true ∧ es.size = n ∧ Ris t.place.toList ∧ (w.params.followText "set-order" = true ∨ t.led = true)

section
variable {P : Program} {w : World} {h h' : Heap} {a : Addr} {S : Str → Bool} {n : Nat}

theorem SetT.at (R : SetT w h a S n) (k : ∀ o, h.get? a = some o → h'.get? a = some o) : SetT w h' a S n := by
  obtain ⟨o, es, ep, t, ho, r⟩ := R
  exact ⟨o, es, ep, t, k o ho, r⟩
theorem SetT.lt (R : SetT w h a S n) : a < h.objs.size := by
  obtain ⟨o, es, ep, t, ho, r⟩ := R
  exact Heap.lt_size ho
theorem SetT.congr {S' : Str → Bool} (R : SetT w h a S n) (e : ∀ k, S' k = S k) : SetT w h a S' n := by
  have q : S' = S := funext e
  rw [q]; exact R
theorem goodT_elems {l : List (Int × Value)} (g : ∀ e ∈ l, GoodT w e) : ElemsOf (strKind P w) l := fun e he => by
  obtain ⟨k, tk, h1, h2⟩ := g e he
  exact ⟨⟨k, by rw [h1]; exact strKind_is P w k tk, h2⟩, by rw [h1] <;> rfl⟩
theorem goodT_is {e : Int × Value} (g : GoodT w e) (k : Str) : (strKind P w).is k e.2 = true ↔ tkOf e = k := by
  obtain ⟨k0, tk, h1, _⟩ := g
  unfold tkOf
  rw [h1]
  show ((k0 == k) = true) ↔ k0 = k
  exact beq_iff_eq
theorem goodT_mem {l : List (Int × Value)} (g : ∀ e ∈ l, GoodT w e) (k : Str) : k ∈ l.map tkOf ↔ ∃ e ∈ l, (strKind P w).is k e.2 = true := by
  rw [List.mem_map]
  constructor
  · rintro ⟨e, he, q⟩
    exact ⟨e, he, (goodT_is (g e he) k).2 q⟩
  · rintro ⟨e, he, q⟩
    exact ⟨e, he, (goodT_is (g e he) k).1 q⟩
theorem SetT.setOf (R : SetT w h a S n) : h.SetOf (strKind P w) a S n := by
  obtain ⟨o, es, ep, t, ho, hx, hd, g, nd, hm, hb, hf, hn, _⟩ := R
  exact ⟨o, es, ep, t, ho, hx, hd, goodT_elems g, fun k => (hm k).trans (goodT_mem g k), hb, hf, hn⟩
end

section
variable {P : Program} {w : World} {A : Around} {E : Value → Shared → Prop} {s : Shared} {a : Addr} {S : Str → Bool} {n : Nat}

theorem store_atT {h : Heap} {a : Addr} {o : Obj} {es es' : Array (Int × Value)} {ep : Nat} {t t' : SetTable} (ho : h.get? a = some o) (hd : o.data = .set es ep t) :
    (h.update a (Obj.putSet es' t')).get? a = some { o with data := .set es' (ep + 1) t' } := by
  have q := Heap.get?_update_self (Obj.putSet es' t') ho (by rw [putSet_of es' t' hd]; rfl)
  rw [putSet_of es' t' hd] at q
  exact q

theorem setT_add_tail {g : Bool → Sem Unit} (hg : ∀ (b : Bool) (s₁ : Shared) (Q' : Unit → Shared → Prop), Q' () s₁ → wpAny (model P w) A (g b) Q' E s₁)
    {o : Obj} {es : Array (Int × Value)} {ep : Nat} {t : SetTable} (ho : s.heap.get? a = some o) (hex : o.ExactSet) (hd : o.data = .set es ep t)
    {es1 : Array (Int × Value)} {t2 : SetTable} {S' : Str → Bool} (g1 : ∀ e ∈ es1.toList, GoodT w e) (nd1 : (es1.toList.map tkOf).Nodup) (m1 : ∀ k, S' k = true ↔ k ∈ es1.toList.map tkOf)
    (hb1 : es1.size < scanBound) (hf2 : t2.fits es1.size = true) (hr : Ris t2.place.toList) (hl : w.params.followText "set-order" = true ∨ t2.led = true) {wasDummy : Bool} {R : Option Bool → Shared → Prop}
    (hR : ∀ h', Heap.SameBut a s.heap h' → SetT w h' a S' es1.size → R (some true) { s with heap := h' }) :
    wpAny (model P w) A (do
        storeSet a es1 t2
        if (!wasDummy && t2.tooFull) = true then do
            g (relayAll t2 es1 (SetTable.grown es1.size)).2.2
            storeSet a (relayAll t2 es1 (SetTable.grown es1.size)).1 (relayAll t2 es1 (SetTable.grown es1.size)).2.1
            pure (some true)
          else pure (some true)) R E s := by
  refine wpAny_bind (wpAny_storeSet_of ho hd ?_ (fits_of_scanBound hb1))
  have ho1 := store_atT (es' := es1) (t' := t2) ho hd
  have sb1 := Heap.SameBut.update s.heap a (Obj.putSet es1 t2)
  split
  · have pm := relayAll_perm t2 es1 (SetTable.grown es1.size)
    have hf3 := relayAll_fits t2 es1 (SetTable.grown es1.size)
    have hr3 := relayAll_ris t2 es1 (SetTable.grown es1.size)
    have hl3 := relayAll_led t2 es1 (SetTable.grown es1.size)
    generalize relayAll t2 es1 (SetTable.grown es1.size) = Z at pm hf3 hr3 hl3 ⊢
    obtain ⟨es2, t3, gave⟩ := Z
    dsimp only at pm hf3 hr3 hl3 ⊢
    have hsz : es2.size = es1.size := by rw [← Array.length_toList, pm.length_eq, Array.length_toList]
    have hb2 : es2.size < scanBound := by rw [hsz]; exact hb1
    refine wpAny_bind (hg _ _ _ ?_)
    refine wpAny_bind (wpAny_storeSet_of ho1 rfl ?_ (fits_of_scanBound hb2))
    have ho2 := store_atT (es' := es2) (t' := t3) ho1 rfl
    refine wpAny_pure (hR _ (sb1.trans (Heap.SameBut.update _ a _)) ?_)
    exact ⟨_, es2, _, t3, ho2, hex, rfl, fun e he => g1 e (pm.mem_iff.mp he), (pm.map tkOf).nodup_iff.mpr nd1, fun k => (m1 k).trans (pm.map tkOf).mem_iff.symm, hb2, hf3, hsz, hr3,
      hl.imp id fun z => by rw [hl3]; exact z⟩
  · exact wpAny_pure (hR _ sb1 ⟨_, es1, _, t2, ho1, hex, rfl, g1, nd1, m1, hb1, hf2, rfl, hr, hl⟩)

theorem setT_add_hashed {k : Str} {tk : Tok} {Q : Bool → Shared → Prop} (R : SetT w s.heap a S n) (room : n + 1 < scanBound)
    (hQ : ∀ h', Heap.SameBut a s.heap h' → SetT w h' a (fun j => S j || decide (j = k)) (if S k = true then n else n + 1) → Q (!S k) { s with heap := h' }) :
    wpAny (model P w) A (setAddHashed a (.str k tk) ((strKind P w).hash k)) Q E s := by
  obtain ⟨o, es, ep, t, ho, hex, hd, g, nd, hm, hb, hf, hn, hr, hl⟩ := R
  have hkey : (strKind P w).is k (.str k tk) = true := strKind_is P w k tk
  have hsc : (Value.str k tk).scannable = true := rfl
  have hel : ElemsOf (strKind P w) es.toList := goodT_elems g
  unfold setAddHashed setAddHashedIn
  refine wpAny_holding (wpAny_bind (wpAny_setState_of ho hd hf ?_))
  dsimp only
  rw [byScan_of hsc hb hel]
  simp only [↓reduceIte]
  unfold setAddByScan
  refine wpAny_bind ?_
  refine wpAny_bind (wpAny_rule ?_)
  refine wpAny_bind (wpAny_setScan_of hkey ho hd hf hel ?_)
  cases hfi : List.findIdx? (fun e => (strKind P w).is k e.2) es.toList with
  | some j =>
    dsimp only
    obtain ⟨hj, pj, _⟩ := List.findIdx?_eq_some_iff_getElem.mp hfi
    have hSk : S k = true := (hm k).2 ((goodT_mem (P := P) (w := w) g k).2 ⟨es.toList[j], List.getElem_mem hj, pj⟩)
    refine wpAny_pure (wpAny_pure ?_)
    have q := hQ s.heap (Heap.SameBut.refl a s.heap) ⟨o, es, ep, t, ho, hex, hd, g, nd, fun i => by
      rw [Bool.or_eq_true, decide_eq_true_eq, ← hm i]
      exact ⟨fun z => z.elim id (fun e => e ▸ hSk), .inl⟩, hb, hf, by rw [if_pos hSk]; exact hn, hr, hl⟩
    rw [hSk] at q
    exact q
  | none =>
    dsimp only
    have hnk : k ∉ es.toList.map tkOf := fun z => by
      obtain ⟨e, he, q⟩ := (goodT_mem (P := P) (w := w) g k).1 z
      have c := List.findIdx?_eq_none_iff.mp hfi e he
      rw [q] at c
      cases c
    have hSk : S k = false := by
      cases q : S k with
      | false => rfl
      | true => exact absurd ((hm k).1 q) hnk
    have hgw : ∀ (b : Bool) {s₁ : Shared} {Q' : Unit → Shared → Prop}, Q' () s₁ → wpAny (model P w) A (match b with | true => rule "set.scan.the-table-gave-way" | false => pure ()) Q' E s₁ :=
      fun b s₁ Q' q => by cases b <;> first | exact wpAny_pure q | exact wpAny_rule q
    have pm := layNew_perm t es ((strKind P w).hash k) (.str k tk)
    have hf1 := layNew_fits t es ((strKind P w).hash k) (.str k tk)
    have hr1 := layNew_ris t es ((strKind P w).hash k) (.str k tk) hr
    have hl1 := layNew_led t es ((strKind P w).hash k) (.str k tk)
    generalize layNew t es ((strKind P w).hash k) (.str k tk) = Z at pm hf1 hr1 hl1 ⊢
    obtain ⟨es1, t1, wasDummy, gave⟩ := Z
    dsimp only at pm hf1 hr1 hl1 ⊢
    rw [Array.toList_push] at pm
    have pc : es1.toList.Perm (((strKind P w).hash k, Value.str k tk) :: es.toList) := pm.trans (List.perm_append_singleton _ _)
    have pk : (es1.toList.map tkOf).Perm (k :: es.toList.map tkOf) := pc.map tkOf
    have g1 : ∀ e ∈ es1.toList, GoodT w e := fun e he => by
      rcases List.mem_cons.mp (pc.mem_iff.mp he) with z | z
      · rw [z]; exact ⟨k, tk, rfl, rfl⟩
      · exact g e z
    have nd1 : (es1.toList.map tkOf).Nodup := pk.nodup_iff.mpr (List.nodup_cons.mpr ⟨hnk, nd⟩)
    have m1 : ∀ i, (S i || decide (i = k)) = true ↔ i ∈ es1.toList.map tkOf := fun i => by
      rw [Bool.or_eq_true, decide_eq_true_eq, hm i, pk.mem_iff, List.mem_cons]
      exact Or.comm
    have hsz : es1.size = n + 1 := by rw [← Array.length_toList, pc.length_eq, List.length_cons, Array.length_toList, hn]
    have hb1 : es1.size < scanBound := by rw [hsz]; exact room
    have hled : w.params.followText "set-order" = true ∨ t1.led = true := hl.imp id fun z => by rw [hl1]; exact z
    have fin : ∀ h', Heap.SameBut a s.heap h' → SetT w h' a (fun j => S j || decide (j = k)) es1.size → Q true { s with heap := h' } := fun h' sb r => by
      have q := hQ h' sb
      rw [hSk] at q
      rw [hsz] at r
      exact q r
    refine wpAny_bind (hgw _ ?_)
    split
    · refine wpAny_bind ?_
      rw [hashByValue_scannable 8 hsc]
      refine wpAny_pure ?_
      refine setT_add_tail ?_ ho hex hd g1 nd1 m1 hb1 ?_ ?_ ?_ ?_
      · intro b s₁ Q' q; cases b <;> first | exact wpAny_pure q | exact wpAny_rule q
      · first | (split <;> first | exact hf1 | exact SetTable.fits_plain_off hf1) | exact hf1
      · first | (split <;> exact hr1) | exact hr1
      · first | (split <;> exact hled) | exact hled
      · intro h' sb r; dsimp only; exact wpAny_pure (fin h' sb r)
    · refine wpAny_bind (wpAny_pure ?_)
      simp only [↓reduceIte]
      refine setT_add_tail ?_ ho hex hd g1 nd1 m1 hb1 hf1 hr1 hled ?_
      · intro b s₁ Q' q; cases b <;> first | exact wpAny_pure q | exact wpAny_rule q
      · intro h' sb r; dsimp only; exact wpAny_pure (fin h' sb r)

end
theorem setT_new_at {w : World} {h : Heap} {a : Addr} {ns : List Str} (ho : h.get? a = some { cls := .type "set", dict := none, data := .set #[] 0 (.fresh 0 0 (!w.params.followText "set-order")) }) : SetT w h a (fun j => decide (j ∈ ns.take 0)) 0 :=
  ⟨_, #[], 0, _, ho, ⟨rfl, rfl, rfl⟩, rfl, (fun e he => by simp at he), (by simp), (fun k => by simp), (by decide), (by rfl), rfl, List.Pairwise.nil, by
    show _ ∨ (!w.params.followText "set-order") = true
    cases w.params.followText "set-order"
    · exact .inr rfl
    · exact .inl rfl⟩
section
variable {P : Program} {w : World} {A : Around} {E : Value → Shared → Prop} {s : Shared}
theorem set_update_strs {I : Addr} {fp wr : List Addr} {G : Array GenState → Array GenState → Prop} {n : Nat} {Pv : Nat → Value → Prop} {St : Nat → Shared → Prop} {R : Result → Shared → Prop}
    (W : WalksS P w A.in1 I fp wr G n Pv St) (S : Addr) (hSf : S ∉ fp) (ns : List Str) (hn : n = ns.length) (hb : ns.length + 1 < scanBound) (hval : ∀ i v, Pv i v → ∃ k t, ns[i]? = some k ∧ v = .str k t) :
    ∀ (k i : Nat) (s : Shared), n - i = k → i ≤ n → St i s → (∃ c, c ≤ i ∧ SetT w s.heap S (fun j => decide (j ∈ ns.take i)) c) →
      (∀ s' c, Moved (S :: wr) G s s' → c ≤ n → SetT w s'.heap S (fun j => decide (j ∈ ns)) c → R (.ok (.ret .none)) s') →
      codeAny (model P w) A (.builtin "set.update.loop" ⟨[.ref S, .ref I], []⟩) R s := by
  have hSw : S ∉ wr := fun h => hSf (W.sub _ h)
  have hsub : ∀ b ∈ wr, b ∈ S :: wr := fun b hb => List.mem_cons_of_mem _ hb
  intro k
  induction k with
  | zero =>
    intro i s hk' hi hst ⟨c, hc, hS⟩ hR
    have hin : i = n := by omega
    subst hin
    refine codeAny_builtin F.entry_set_update_loop ?_
    rw [Around.under_plainId F.plain_set_update_loop _]
    show wpAny _ A.in1 (pyNext (.ref I) >>= _) _ _ s
    refine wpAny_bind (W.done s _ _ hst fun s' hm => ?_)
    show wpAny _ A.in1 (ret Value.none) _ _ s'
    have e : ns.take i = ns := List.take_of_length_le (by omega)
    rw [e] at hS
    exact wpAny_pure (hR s' c (hm.mono hsub) hc (hS.at fun o e => hm.heap S o hSw e))
  | succ k ih =>
    intro i s hk' hi hst ⟨c, hc, hS⟩ hR
    have hlt : i < n := by omega
    refine codeAny_builtin F.entry_set_update_loop ?_
    rw [Around.under_plainId F.plain_set_update_loop _]
    show wpAny _ A.in1 (pyNext (.ref I) >>= _) _ _ s
    refine wpAny_bind (W.item i s _ _ hlt hst fun v s' hP hst' hm => ?_)
    obtain ⟨z, t, hz, rfl⟩ := hval i v hP
    have hS' : SetT w s'.heap S (fun j => decide (j ∈ ns.take i)) c := hS.at fun o e => hm.heap S o hSw e
    show wpAny _ A.in1 (holding [Value.str z t] (setAdd S (.str z t)) >>= _) _ _ s'
    refine wpAny_bind (wpAny_holding ?_)
    unfold setAdd
    refine wpAny_holding ?_
    refine wpAny_bind ((strKind P w).pyHash (k := z) (strKind_is _ _ _ _) ?_)
    refine setT_add_hashed (s := { s' with toks := s'.toks + 1 }) hS' (by omega) fun h' hsb hS2 => ?_
    have hS3 : SetT w h' S (fun j => decide (j ∈ ns.take (i + 1))) (if decide (z ∈ ns.take i) = true then c else c + 1) := hS2.congr fun j => by
      rw [List.take_add_one, hz]
      simp [List.mem_append]
    have hc3 : (if decide (z ∈ ns.take i) = true then c else c + 1) ≤ i + 1 := by
      split <;> omega
    refine wpAny_pure ⟨plainId_quiet F.plain_set_update_loop _, ih (i + 1) _ (by omega) hlt (W.frame _ s' _ _ hst' (Nat.le_succ _) fun b hb o e => ?_) ⟨_, hc3, hS3⟩ fun s'' c2 hm'' hc'' hS'' => ?_⟩
    · rw [hsb.2 b (fun h : b = S => hSf (by rw [← h]; exact hb))]; exact e
    · refine hR s'' c2 (Moved.trans W.gtrans ((hm.mono hsub).then_heap (Nat.le_succ _) fun b o hb e => ?_) hm'') hc'' hS''
      rw [hsb.2 b (fun h : b = S => hb (by rw [h]; exact List.mem_cons_self))]; exact e

set_option maxRecDepth 100000 in
set_option maxHeartbeats 3200000 in
theorem call_set_listT {l : Addr} {items : Array Value} (ns : List Str) {Q : Value → Shared → Prop} (hh : A.handled = none) (hl : s.heap.IsList l items) (hit : StrsAre items.toList ns) (hb : ns.length + 1 < scanBound)
    (h : ∀ (h' : Heap) (tk c : Nat), SetT w h' s.heap.objs.size (fun j => decide (j ∈ ns)) c → c ≤ ns.length → (∀ b o, s.heap.get? b = some o → h'.get? b = some o) → Q (.ref s.heap.objs.size) { s with heap := h', toks := tk }) :
    wpAny (model P w) A (call (.type "set") [.ref l]) Q E s := by
  have hisz : items.size = ns.length := by
    have q := StrsAre.len_eq hit
    rw [Array.length_toList] at q
    exact q
  obtain ⟨c, tl, hmro⟩ := F.called_set.mro
  have hmade := F.called_set.made
  have hsub := F.called_set.sub
  refine wpAny_call (codeAny_of_tree ?_)
  show wpAny _ _ (callAny (.type "set") _) _ _ _
  refine wpAny_pure ⟨Code.quiet_builtin _ (by decide +kernel), codeAny_builtin F.entry_type_call ?_⟩
  rw [Around.under_plain (weight_type_call_type "set" [.ref l] []) rfl]
  have h1 := F.called_set.notType
  have h2 := F.called_set.canCreate
  have hct := F.typeCall_set_1 (.ref l)
  repeat (any_goals (first | assumption | wp_step))

  refine codeAny_mono (code_set_led1 (.ref l) (E := E) (Q₁ := fun obj s₁ => obj = .ref s.heap.objs.size ∧ s₁ = { s with heap := s.heap.push { cls := .type "set", dict := none, data := .set #[] 0 (.fresh 0 0 (!w.params.followText "set-order")) } }) ⟨rfl, rfl⟩) fun r s₁ hr => ?_
  cases r with
  | error e => exact hr
  | ok fl =>
    cases fl with
    | ret obj =>
      obtain ⟨rfl, rfl⟩ := hr
      have hS : (s.heap.push { cls := .type "set", dict := none, data := .set #[] 0 (.fresh 0 0 (!w.params.followText "set-order")) }).get? s.heap.objs.size = some { cls := .type "set", dict := none, data := .set #[] 0 (.fresh 0 0 (!w.params.followText "set-order")) } := Heap.get?_push_size _ rfl
      have hT : Shared.TypeIs { s with heap := s.heap.push { cls := .type "set", dict := none, data := .set #[] 0 (.fresh 0 0 (!w.params.followText "set-order")) } } (.ref s.heap.objs.size) "set" := ⟨_, hS, rfl⟩
      have hli := F.called_set.init.lookup
      have hbi := F.called_set.init.bind (.ref s.heap.objs.size)
      repeat (any_goals (first | assumption | wp_step))

      refine codeAny_mono (codeAny_call_builtin (R := wants (fun r s₂ => r = .none ∧ ∃ h' tk c, s₂ = { s with heap := h', toks := tk } ∧ SetT w h' s.heap.objs.size (fun j => decide (j ∈ ns)) c ∧ c ≤ ns.length ∧
          (∀ b o, s.heap.get? b = some o → h'.get? b = some o)) E) F.called_set.init.plain F.entry_set_init (check_set_init_1 hT ?_)) fun r₂ s₂ hr₂ => ?_
      · obtain ⟨ol, hol, hcl, nl, hdl⟩ := hl
        obtain ⟨ocls, odict, odata, oslots⟩ := ol
        simp only at hcl hdl
        subst hcl; subst hdl
        have hol' : (s.heap.push { cls := .type "set", dict := none, data := .set #[] 0 (.fresh 0 0 (!w.params.followText "set-order")) }).get? l = some { cls := .type "list", dict := odict, data := .seq items nl, slots := oslots } := Heap.get?_push_of_some _ hol
        have hsls := F.sub_list_set
        have hslf := F.sub_list_frozenset
        have hne : (Value.type "list" == Value.type "dict") = false := by decide
        have hl1 : (s.heap.push { cls := .type "set", dict := none, data := .set #[] 0 (.fresh 0 0 (!w.params.followText "set-order")) }).IsList l items := ⟨_, hol', rfl, nl, rfl⟩
        unfold Builtin.«set.__init__» noKeywords Builtin.Frozenset.updateFrom
        generalize hPI : pyIter = PI
        wp_walk
        subst hPI

        refine wpAny_pyIter_list hl1 ?_
        refine wpAny_bind (wpAny_runValue ?_)
        have hlS : l < s.heap.objs.size := Heap.lt_size hol
        have hh3 : A.in1.in1.in1.handled = none := by simp [hh]
        have hz1 : (s.heap.push { cls := .type "set", dict := none, data := .set #[] 0 (.fresh 0 0 (!w.params.followText "set-order")) }).objs.size = s.heap.objs.size + 1 := Heap.size_push ..
        have hneI : l ≠ (s.heap.push { cls := .type "set", dict := none, data := .set #[] 0 (.fresh 0 0 (!w.params.followText "set-order")) }).objs.size := by
          rw [Heap.size_push]; exact Nat.ne_of_lt (Nat.lt_succ_of_lt hlS)
        have hSf : s.heap.objs.size ∉ [(s.heap.push { cls := .type "set", dict := none, data := .set #[] 0 (.fresh 0 0 (!w.params.followText "set-order")) }).objs.size, l] := by
          rw [Heap.size_push]; simp only [List.mem_cons, List.mem_singleton, List.not_mem_nil, or_false, not_or]
          exact ⟨Nat.ne_of_lt (Nat.lt_succ_self _), Nat.ne_of_gt hlS⟩
        have hval : ∀ (i : Nat) (v : Value), items[i]? = some v → ∃ k t, ns[i]? = some k ∧ v = .str k t := fun i v hv => by
          have hi : i < ns.length := by rw [← hisz]; exact (Array.getElem?_eq_some_iff.mp hv).1
          obtain ⟨t, e⟩ := SS.strs_at hit i v (by rw [Array.getElem?_toList]; exact hv)
          refine ⟨ns[i], t, List.getElem?_eq_getElem hi, ?_⟩
          rw [e, List.getD_eq_getElem?_getD, List.getElem?_eq_getElem hi] <;> rfl
        refine set_update_strs ((Walks.list hh3 _ l hneI items).toS) s.heap.objs.size
          hSf ns hisz hb hval (items.size - 0) 0 _ (by omega) (Nat.zero_le _)
          ⟨⟨_, Heap.get?_push_size _ rfl, rfl, rfl⟩, (hl1.push _)⟩ ?hS0 ?hR
        case hS0 =>
          have hget : ((s.heap.push { cls := .type "set", dict := none, data := .set #[] 0 (.fresh 0 0 (!w.params.followText "set-order")) }).push { cls := .type "list_iterator", data := .fields #[.ref l, .int 0 0] }).get? s.heap.objs.size
              = some { cls := .type "set", dict := none, data := .set #[] 0 (.fresh 0 0 (!w.params.followText "set-order")) } := Heap.get?_push_of_some _ hS
          exact ⟨0, Nat.le_refl 0, setT_new_at hget⟩
        case hR =>
          intro s' c' hm hc' hS'
          obtain ⟨h', g2, d', tk', os'⟩ := s'
          have eg : g2 = s.gens := hm.gens
          have ed : d' = s.drawn := hm.drawn
          have eo : os' = s.os := hm.os
          subst eg; subst ed; subst eo
          show wpAny _ _ _ _ _ _
          refine wpAny_pure ?_
          show wpAny _ _ (ret Value.none) _ _ _
          rw [hisz] at hc'
          refine wpAny_pure ⟨rfl, h', tk', c', rfl, hS', hc', fun b o e => ?_⟩
          have hb0 : b < s.heap.objs.size := Heap.lt_size e
          have hb1 : b ≠ s.heap.objs.size := Nat.ne_of_lt hb0
          have hb2 : b ≠ (s.heap.push { cls := .type "set", dict := none, data := .set #[] 0 (.fresh 0 0 (!w.params.followText "set-order")) }).objs.size := by
            rw [Heap.size_push]; exact Nat.ne_of_lt (Nat.lt_succ_of_lt hb0)
          exact hm.heap b o (by simp only [List.mem_cons, List.mem_singleton, List.not_mem_nil, or_false, not_or]; exact ⟨hb1, hb2⟩) (Heap.get?_push_of_some _ (Heap.get?_push_of_some _ e))

      · cases r₂ with
        | error e => exact hr₂
        | ok fl₂ =>
          cases fl₂ with
          | ret r =>
            obtain ⟨rfl, h', tk, c', rfl, hS', hc', hk'⟩ := hr₂
            repeat (any_goals (first | assumption | wp_step))
            exact h _ _ _ hS' hc' hk'
          | _ => exact hr₂.elim
    | _ => exact hr.elim

def vStr (v : Value) : Str := match v with
  | .str k _ => k
  | _ => Str.empty
theorem strs_ofT : ∀ (l : List Value), (∀ v ∈ l, ∃ k tk, v = Value.str k tk) → StrsAre l (l.map vStr)
  | [], _ => .nil
  | v :: l, h => by
    obtain ⟨k, tk, rfl⟩ := h v List.mem_cons_self
    exact .cons k tk (strs_ofT l fun u hu => h u (List.mem_cons_of_mem _ hu))
theorem sorted_setT {S : Str → Bool} {n : Nat} {Q : Value → Shared → Prop} (R : SetT w s.heap a S n) (hh : A.handled = none) (h64 : n < 64)
    (hQ : ∀ s' p (out : Array Value) (c : Nat) (ns : List Str), (∀ b o, s.heap.get? b = some o → s'.heap.get? b = some o) → s'.gens = s.gens → s'.os = s.os → s.heap.objs.size ≤ p →
      s'.heap.get? p = some (seqObj "list" out c) → StrsAre out.toList ns → (sortedS ns = true ∧ ns.Nodup) → (∀ k, k ∈ ns ↔ S k = true) → ns.length = n → Q (.ref p) s') :
    wpAny (model P w) A (call (.builtin "sorted") [.ref a]) Q E s := by
  obtain ⟨o, es, ep, t, ho, hex, hd, g, nd, hm, hb, hf, hn, hr, hl⟩ := R
  refine Calls.call_function_entry kind_sorted plain_sorted entry_sorted (args_sorted1 _) ?_
  unfold Builtin.«sorted»
  refine wpAny_bind (m := checkCount "sorted" 1 1 _) (wpAny_pure ?_)
  refine wpAny_bind (collect_set (A := A.in1) hh ⟨o, ho, hex.1, hd⟩ hf hb hr hl fun s1 vs k1 hz g1 o1 pm => ?_)
  have hvl : vs.length = n := by rw [pm.length_eq, List.length_map, Array.length_toList]; exact hn
  have hI : StrsAre vs (vs.map vStr) := strs_ofT vs fun v hv => by
    obtain ⟨e, he, q⟩ := List.mem_map.mp (pm.mem_iff.mp hv)
    obtain ⟨k, tk, h1, _⟩ := g e he
    exact ⟨k, tk, by rw [← q]; exact h1⟩
  have pk : (vs.map vStr).Perm (es.toList.map tkOf) := by
    have q := pm.map vStr
    rw [List.map_map] at q
    exact q
  refine wpAny_bind (wpAny_newList ?_ (by rw [hvl, sizeLine_eq]; omega))
  have hoL : (s1.heap.push (seqObj "list" vs.toArray 0)).get? s1.heap.objs.size = some (seqObj "list" vs.toArray 0) := Heap.get?_push_size _ rfl
  refine wpAny_bind (wpAny_holding (wpAny_call_entry slot_list_sort ⟨_, hoL, rfl⟩ entry_list_sort (list_sort_treeK strKind_oneLt hoL hI.keysOf (fun v₁ v₂ rest e => keyKind_strs (by rw [← e]; exact hI)) (by rw [hvl]; exact h64) fun st' b1 b2 => ⟨_, rfl, ?_⟩) (args_list_sort _)))
  obtain ⟨ns', a1, a2, a3⟩ := sorted_out_str hI b1 b2
  generalize (arrOf st').map (·.2) = out at a1 ⊢
  obtain ⟨c, hc⟩ := sortedHeap_at (vs := vs) (out := out) hoL
  have pn : ns'.Perm (es.toList.map tkOf) := a2.trans pk
  refine wpAny_pure ⟨_, rfl, hQ _ s1.heap.objs.size out c ns' (fun b u e => ?_) g1 o1 hz hc a1 ⟨a3, pn.nodup_iff.mpr nd⟩ (fun k => by rw [pn.mem_iff, ← hm k]) ?_⟩
  · have q := k1 b u e
    have hlt := Heap.lt_size q
    show (sortedHeap (s1.heap.push (seqObj "list" vs.toArray 0)) s1.heap.objs.size vs out).get? b = some u
    rw [sortedHeap_old (Nat.ne_of_lt hlt) (by rw [size_push']; exact Nat.lt_succ_of_lt hlt)]
    exact Heap.get?_push_of_some _ q
  · rw [pn.length_eq, List.length_map, Array.length_toList]; exact hn
end
end GF
set_option Elab.async false
set_option linter.all false
set_option maxRecDepth 100000
set_option maxHeartbeats 1000000
/-! Gf16: all_names. -/
namespace GF
open PySem L2 Evl PySem.Spec PyProof.Rows
theorem perm_nd {α : Type} [DecidableEq α] : ∀ {l r : List α}, l.Nodup → r.Nodup → (∀ x, x ∈ l ↔ x ∈ r) → l.Perm r
  | [], r, _, _, h => by
    cases r with
    | nil => exact List.Perm.nil
    | cons x r => exact absurd ((h x).mpr List.mem_cons_self) (by simp)
  | x :: l, r, hl, hr, h => by
    obtain ⟨h1, h2⟩ := List.nodup_cons.mp hl
    have hx : x ∈ r := (h x).mp List.mem_cons_self
    have ih := perm_nd h2 (hr.erase x) fun y => by
      rw [List.Nodup.mem_erase_iff hr]
      constructor
      · intro hy
        exact ⟨fun z => h1 (z ▸ hy), (h y).mp (List.mem_cons_of_mem _ hy)⟩
      · rintro ⟨hy1, hy2⟩
        rcases List.mem_cons.mp ((h y).mpr hy2) with e | e
        · exact absurd e hy1
        · exact e
    exact (List.Perm.cons x ih).trans (List.perm_cons_erase hx).symm
/-- in order, each once -/
def NS (ns : List Str) : Prop := sortedS ns = true ∧ ns.Nodup
theorem rising_le : ∀ (l : List Str) (p : Str), risingS p l = true → (p :: l).Pairwise fun a b => ¬ b.cps.toList < a.cps.toList
  | [], p, _ => by simp
  | x :: r, p, h => by
    rw [risingS, Bool.and_eq_true, ltCps_eq] at h
    have h1 : ¬ x.cps.toList < p.cps.toList := by
      have := h.1
      simpa using this
    have ih := rising_le r x h.2
    refine List.pairwise_cons.mpr ⟨fun y hy => ?_, ih⟩
    rcases List.mem_cons.mp hy with rfl | hy
    · exact h1
    · have h2 := (List.pairwise_cons.mp ih).1 y hy
      have h1' : p.cps.toList ≤ x.cps.toList := h1
      have h2' : x.cps.toList ≤ y.cps.toList := h2
      exact List.le_trans h1' h2'
theorem NS.le {l : List Str} (h : NS l) : l.Pairwise fun a b => ¬ b.cps.toList < a.cps.toList := by
  cases l with
  | nil => exact List.Pairwise.nil
  | cons x r => exact rising_le r x h.1
theorem NS.one {l r : List Str} (h : NS l) (h' : NS r) (hm : ∀ x, x ∈ l ↔ x ∈ r) : l = r := by
  refine List.Perm.eq_of_pairwise (le := fun a b : Str => ¬ b.cps.toList < a.cps.toList) (fun a b _ _ h1 h2 => ?_) h.le h'.le (perm_nd h.2 h'.2 hm)
  have h1' : a.cps.toList ≤ b.cps.toList := h1
  have h2' : b.cps.toList ≤ a.cps.toList := h2
  have := List.le_antisymm h1' h2'
  cases a
  cases b
  have e := Array.toList_inj.mp this
  cases e
  rfl
/-- the set of the texts zs, made of a list -/
def SetZ (w : World) (a : Addr) (zs : List Str) (n : Nat) : HO := .ext fun h => SetT w h a (fun j => decide (j ∈ zs)) n
theorem SetT.at' {w : World} {h h' : Heap} {a : Addr} {S : Str → Bool} {n : Nat} (R : SetT w h a S n) (k : ∀ o, h.get? a = some o → h'.get? a = some o) : SetT w h' a S n := by
  obtain ⟨o, es, ep, t, ho, r⟩ := R
  exact ⟨o, es, ep, t, k o ho, r⟩
theorem setZ_new {w : World} {P : Program} {H : Hp} {h : Heap} {a : Addr} {zs : List Str} {n : Nat} (R : SetT w h a (fun j => decide (j ∈ zs)) n) : ObjOk P w H h a (SetZ w a zs n) := by
  have ⟨o, _, _, _, ho, _⟩ := R
  exact ⟨R, ⟨o, ho⟩, fun h1 h2 p k => SetT.at' p k⟩
def rSetZ (K : PySem.W.Frag) (w : World) : List V → Hp → VK → Prop := fun xs H Q => ∃ (l : Addr) (zs : List Str), xs = [.ref l] ∧ SqL K H l (zs.map V.str) ∧ zs.length < 64 ∧ ∀ p n, n ≤ zs.length → H p = none → Q (.ref p) (upd H p (SetZ w p zs n))
def rSortZ (w : World) : List V → Hp → VK → Prop := fun vs H Q => ∃ (a : Addr) (zs : List Str) (n : Nat), vs = [V.ref a] ∧ H a = some (SetZ w a zs n) ∧ n < 64 ∧
  ∀ (ns : List Str) (p : Addr), NS ns → (∀ k : Str, k ∈ ns ↔ k ∈ zs) → H p = none → Q (.ref p) (upd H p (.lst (ns.map V.str)))
section
variable {X : Cx}
theorem cr_setZ (hc : X.calm = true) : CallR X (.type "set") (rSetZ X.K X.w) := by
  intro pins s σ H xs us Q I r h
  obtain ⟨l, zs, rfl, hq, h64, q⟩ := h
  obtain ⟨its, rv, hl, _⟩ := I.list hq
  rw [Vals.ref1 r]
  refine call_set_listT zs (I.ok.hd hc) hl.isList (by simpa using rv.strs) (by unfold scanBound; omega) fun h' tk c R hc' hk => ?_
  have hz : s.heap.objs.size ≤ s.heap.objs.size := Nat.le_refl _
  exact ⟨.ref _, upd H s.heap.objs.size (SetZ X.w s.heap.objs.size zs c), I.laid (t' := tk) hk (Nat.le_refl _) (setZ_new R), rfl, q _ c hc' (I.hok.fresh (Nat.le_refl _))⟩
theorem cr_sortZ (hc : X.calm = true) : CallR X (.builtin "sorted") (rSortZ X.w) := by
  intro pins s σ H vs us Q I r h
  obtain ⟨a, zs, n, rfl, ha, h64, q⟩ := h
  have R : SetT X.w s.heap a (fun j => decide (j ∈ zs)) n := (I.hok a _ ha).1
  rw [Vals.ref1 r]
  refine sorted_setT (P := X.prog) R (I.ok.hd hc) h64 fun s' p out c ns k g o hp hg hi hs hm hl => ?_
  have hlen : (ns.map V.str).length ≤ sizeLine := by rw [List.length_map, hl, sizeLine_eq]; omega
  have hn : H p = none := I.hok.fresh hp
  have J : Inv X pins σ (upd H p (.lst (ns.map V.str))) { s with heap := s'.heap, gens := s'.gens, drawn := s'.drawn, toks := s'.toks } :=
    I.call (ch := []) (Un.laid k hp hn) (I.hok.laid k hp ⟨hlen, out.toList, c, vals_of_strs hi, hg⟩) (by rw [g]; exact I.bare) (fun _ z => nomatch z)
  have e : s' = { s with heap := s'.heap, gens := s'.gens, drawn := s'.drawn, toks := s'.toks } := by
    cases s'
    cases s
    cases o
    rfl
  rw [e]
  exact ⟨.ref p, _, J, rfl, q ns p hs (fun k => by rw [hm k]; exact decide_eq_true_iff) hn⟩
theorem setZK (K : PySem.W.Frag) (w : World) (hc : X.calm = true) (hK : X.K = K := by rfl) (hw : X.w = w := by rfl) : CallR X (.type "set") (rSetZ K w) := hK ▸ hw ▸ cr_setZ hc
theorem sortZK (w : World) (hc : X.calm = true) (hw : X.w = w := by rfl) : CallR X (.builtin "sorted") (rSortZ w) := hw ▸ cr_sortZ hc
end
def spAllNames : Sp := fun vs H Q _ => ∃ (v0 : V) (ys zs : List Str) (l : Addr), vs = [v0, .ref l] ∧ Rp H v0 (.f (ys.map .s)) ∧ Ls H l (zs.map .s) ∧ ys.length + zs.length < 60 ∧
  ∀ (ns : List Str) p H', NS ns → (∀ x, x ∈ ns ↔ x ∈ ys ∨ x ∈ zs) → H p = none → Ex H H' → Ls H' p (ns.map .s) → Q (.ref p) H'
section
variable {K : PySem.W.Frag} {w : World} {σ : L2.St} {H H' : Hp} {ta tb te tx : TE}
/-- sorted(set(xs)), xs a list of texts -/
theorem ev_sortSet {zs : List Str} (h : EvN te σ H (zs.map .s)) (hz : zs.length < 64) (Q : VK) (q : ∀ (ns : List Str) p H', NS ns → (∀ x, x ∈ ns ↔ x ∈ zs) → H p = none → Ex H H' → Ls H' p (ns.map .s) → Q (.ref p) H') :
    tCB (rSortZ w) (tCons (tCB (rSetZ K w) (tCons te tNil)) tNil) σ H Q := by
  refine h H (Ex.refl H) _ fun l H1 hl e1 L => ?_
  obtain ⟨xs, g1, g2⟩ := L
  have e3 := g2.strs
  subst e3
  refine ⟨l, zs, rfl, sq_of g1, hz, fun p n hn hp => ?_⟩
  refine ⟨p, zs, n, rfl, upd_same, by omega, fun ns p2 nd mem hp2 => ?_⟩
  have e2 : Ex H1 (upd H1 p (SetZ w p zs n)) := Ex.new hp
  exact q ns p2 _ nd mem (fresh_back (e1.trans e2) hp2) ((e1.trans e2).trans (Ex.new hp2)) ⟨_, upd_same, rpa_strs ns⟩
end
section
variable {P : Program} {w : World} {K : PySem.W.Frag} {mg : Str → Option Value} {base : Heap} {f : Addr} {fd : FuncData}
theorem scAllNames : FnScope ["some", "others"] ["some", "others"] (defScope sAllNames) := ⟨rfl, rfl, rfl, by decide +kernel, rfl, by decide +kernel, by decide +kernel⟩
theorem ok_all_names (B : Blt mg) (F : Df K mg "all_names" sAllNames f fd) : Cal P w K mg base CX0 1 "all_names" ["some", "others"] spAllNames f fd := by
  refine F.cal (F.fn.ok scAllNames (fun vs H Q E h => ?_) (fun cdv A outer s H vs Q E hr h => ?_)) fun _ _ _ _ _ _ us hl => match us, hl with | [_, _], _ => rfl
  · obtain ⟨v0, ys, zs, l, rfl, _⟩ := h
    rfl
  obtain ⟨v0, ys, zs, l, rfl, hv, hL, hn, q⟩ := h
  have S : Sl H (L2.start ["some", "others"] [v0, .ref l]) [.d (.f (ys.map .s)), .v (.ref l)] := .cons ⟨_, rfl, hv⟩ (.cons rfl .nil)
  refine ⟨_, pss_one (ps_ret (pe_callB (sortZK w rfl) (by rfl) B.sorted (by decide +kernel) (pa_cons (pe_callTy (setZK K w rfl) (by rfl) B.set (by decide +kernel) (pa_cons (pe_op op_cat (pe_callTy (listK K) (by rfl) B.list (by decide +kernel) (pa_cons (pv 0) pa_nil)) (pe_callTy (listK K) (by rfl) B.list (by decide +kernel) (pa_cons (pv 1) pa_nil))) pa_nil)) pa_nil))), ?_⟩
  exact ev_sortSet (zs := ys ++ zs) (en_is (en_cat (EvN.r (en_listF (ed_var S rfl))) (EvN.r (en_listL (er_varA S rfl hL))) (by rw [List.length_map, List.length_map]; omega)) (by rw [List.map_append])) (by rw [List.length_append]; omega) _ fun ns p H' nd mem hp e L =>
    q ns p H' nd (fun x => by rw [mem x, List.mem_append]) hp e L
end
end GF
set_option Elab.async false
set_option linter.all false
set_option maxRecDepth 100000
set_option maxHeartbeats 1000000
/-! Gf17: states of the grower, plainly; what is in the grower's hands. -/
namespace GF
open PySem L2 Evl PySem.Spec PyProof.Rows
abbrev GSt := Nat × Way
def encS (s : GSt) : Dt := .t [eN s.1, encW s.2]
theorem nks_map : ∀ l : List Dt, nks l = l.map nk
  | [] => by simp [nks]
  | x :: xs => by rw [nks, nks_map xs]; rfl
theorem nk_encW (w : Way) : nk (encW w) = .tup (w.m.map (fun n : Nat => NestedKey.num (n : Int)) ++ [.num w.last]) := by
  unfold encW
  rw [nk, nks_map, List.map_append, List.map_map]
  congr 1
theorem nk_encS (s : GSt) : nk (encS s) = .tup [.num (s.1 : Int), nk (encW s.2)] := by
  unfold encS
  rw [nk, nks, nks, nks]
  rfl
theorem nk_inj {s t : GSt} (h : nk (encS s) = nk (encS t)) : s = t := by
  rw [nk_encS, nk_encS] at h
  have h1 := NestedKey.tup.inj h
  have h2 := List.cons.inj h1
  have h3 := List.cons.inj h2.2
  have h4 : (s.1 : Int) = (t.1 : Int) := NestedKey.num.inj h2.1
  have h5 := h3.1
  rw [nk_encW, nk_encW] at h5
  have h6 := NestedKey.tup.inj h5
  have h7 := List.append_inj' h6 rfl
  have h8 : s.2.last = t.2.last := NestedKey.num.inj (List.cons.inj h7.2).1
  have h9 : s.2.m = t.2.m := by
    have hi : ∀ l r : List Nat, l.map (fun n : Nat => NestedKey.num (n : Int)) = r.map (fun n : Nat => NestedKey.num (n : Int)) → l = r := by
      intro l
      induction l with
      | nil => intro r h; cases r with
        | nil => rfl
        | cons a b => cases h
      | cons a l ih => intro r h; cases r with
        | nil => cases h
        | cons b r =>
          have z := List.cons.inj h
          have z1 : (a : Int) = (b : Int) := NestedKey.num.inj z.1
          rw [ih r z.2, Int.ofNat.inj z1]
    exact hi _ _ h7.1
  obtain ⟨a, m, l⟩ := s
  obtain ⟨b, m', l'⟩ := t
  have e1 : a = b := Int.ofNat.inj h4
  have e2 : m = m' := h9
  have e3 : l = l' := h8
  rw [e1, e2, e3]
theorem depth_nums : ∀ l : List NestedKey, (∀ k ∈ l, k.depth = 0) → NestedKey.depthAll l = 0
  | [], _ => by rw [NestedKey.depthAll]
  | x :: xs, h => by rw [NestedKey.depthAll, h x List.mem_cons_self, depth_nums xs fun k hk => h k (List.mem_cons_of_mem _ hk)]; rfl
theorem depth_encS (s : GSt) : (nk (encS s)).depth ≤ 8 := by
  rw [nk_encS, nk_encW, NestedKey.depth, NestedKey.depthAll, NestedKey.depthAll, NestedKey.depthAll, NestedKey.depth, NestedKey.depth, depth_nums _ fun k hk => ?_]
  · decide
  · rcases List.mem_append.mp hk with h | h
    · obtain ⟨n, _, rfl⟩ := List.mem_map.mp h
      rw [NestedKey.depth]
    · rw [List.mem_singleton.mp h, NestedKey.depth]
def eqS (s t : GSt) : Bool := decide (nk (encS s) = nk (encS t))
theorem eqS_iff {s t : GSt} : eqS s t = true ↔ s = t := ⟨fun h => nk_inj (of_decide_eq_true h), fun h => by rw [h]; exact decide_eq_true rfl⟩
def hasS (S : List GSt) (s : GSt) : Bool := S.any fun t => eqS t s
def ixS (S : List GSt) (s : GSt) : Nat := S.findIdx fun t => eqS t s
def addS (S : List GSt) (s : GSt) : List GSt := if hasS S s = true then S else S ++ [s]
theorem has_iff {S : List GSt} {s : GSt} : hasS S s = true ↔ s ∈ S := by
  unfold hasS
  rw [List.any_eq_true]
  exact ⟨fun ⟨t, h1, h2⟩ => by rw [← eqS_iff.mp h2]; exact h1, fun h => ⟨s, h, eqS_iff.mpr rfl⟩⟩
theorem ix_lt {S : List GSt} {s : GSt} (h : s ∈ S) : ixS S s < S.length := List.findIdx_lt_length_of_exists ⟨s, h, eqS_iff.mpr rfl⟩
theorem ix_get {S : List GSt} {s : GSt} (h : s ∈ S) : S[ixS S s]? = some s := by
  have hl := ix_lt h
  rw [List.getElem?_eq_getElem hl]
  have := List.findIdx_getElem (p := fun t => eqS t s) (xs := S) (w := hl)
  exact congrArg some (eqS_iff.mp this)
theorem ix_app {S : List GSt} {s : GSt} (h : s ∈ S) (r : List GSt) : ixS (S ++ r) s = ixS S s := by
  unfold ixS
  rw [List.findIdx_append]
  exact if_pos (ix_lt h)
theorem ix_new {S : List GSt} {s : GSt} (h : s ∉ S) : ixS (S ++ [s]) s = S.length := by
  unfold ixS
  have h1 : S.findIdx (fun t => eqS t s) = S.length := List.findIdx_eq_length.mpr fun t ht => by
    cases q : eqS t s with
    | false => rfl
    | true => exact absurd (eqS_iff.mp q ▸ ht) h
  rw [List.findIdx_append, h1, if_neg (Nat.lt_irrefl _), List.findIdx_cons, eqS_iff.mpr rfl]
  simp
theorem ix_at {S : List GSt} {s : GSt} {i : Nat} (nd : S.Nodup) (h : S[i]? = some s) : ixS S s = i := nodup_get nd (ix_get (List.mem_of_getElem? h)) h
theorem addS_mem {S : List GSt} {s : GSt} : s ∈ addS S s := by
  unfold addS
  split
  · rename_i h
    exact has_iff.mp h
  · simp
theorem addS_sub {S : List GSt} {s t : GSt} (h : t ∈ S) : t ∈ addS S s := by
  unfold addS
  split
  · exact h
  · exact List.mem_append_left _ h
theorem addS_pre (S : List GSt) (s : GSt) : ∃ r, addS S s = S ++ r := by
  unfold addS
  split
  · exact ⟨[], (List.append_nil _).symm⟩
  · exact ⟨[s], rfl⟩
theorem addS_nd {S : List GSt} {s : GSt} (nd : S.Nodup) : (addS S s).Nodup := by
  unfold addS
  split
  · exact nd
  · rename_i h
    rw [List.nodup_append]
    exact ⟨nd, by simp, fun x hx y hy => by
      rw [List.mem_singleton.mp hy]
      exact fun z => h (has_iff.mpr (z ▸ hx))⟩
/-- number s: none where there is no room -/
def num (S : List GSt) (s : GSt) : Option (List GSt) := if hasS S s = true then some S else if S.length = 64 then none else some (S ++ [s])
theorem num_add {S S' : List GSt} {s : GSt} (h : num S s = some S') : S' = addS S s := by
  unfold num at h
  unfold addS
  split at h
  · rename_i e
    rw [if_pos e]
    cases h; rfl
  · rename_i e
    rw [if_neg e]
    split at h
    · cases h
    · cases h; rfl
/-! ### the turned way of a state -/
def nmOf (N : List Str) (n : Nat) : Str := if n < N.length then N.getD n (("" : Str)) else (("" : Str))
def tw (R : Rules) (M : Mach) (N : List Str) (s : GSt) : Way := match ruleFor R (nmOf N s.1) with
  | none => wOne M (s.2.m.getD (stOf M (nmOf N s.1)) 0)
  | some its => wFil M its s.2
def stepS (R : Rules) (M : Mach) (N : List Str) (s t : GSt) : GSt := (s.1, wBeh s.2 (tw R M N t))
def markS (R : Rules) (M : Mach) (N : List Str) (s : GSt) : Nat := if (tw R M N s).last < 0 then 0 else M.marks.getD (tw R M N s).last.toNat 0
structure GOk (M : Mach) (N : List Str) (s : GSt) : Prop where
  n : s.1 ≤ N.length
  w : s.2.Ok M.steps.length
theorem way_get_lt {M : Mach} {w : Way} (hw : w.Ok M.steps.length) {i : Nat} (hi : i < M.steps.length) : w.m.getD i 0 < M.steps.length := hw.lt _ (getD_mem 0 (by rw [hw.len]; exact hi))
theorem tw_ok {R : Rules} {M : Mach} {N : List Str} {s : GSt} (wf : M.Wf) (h : GOk M N s) : (tw R M N s).Ok M.steps.length := by
  unfold tw
  split
  · exact wOne_ok wf (way_get_lt h.w (stOf_lt wf _))
  · exact wFil_ok wf h.w _
theorem stepS_ok {R : Rules} {M : Mach} {N : List Str} {s t : GSt} (wf : M.Wf) (h : GOk M N s) (h2 : GOk M N t) : GOk M N (stepS R M N s t) := ⟨h.n, wBeh_ok h.w (tw_ok wf h2)⟩
/-! ### the grower -/
abbrev GE := GSt × Addr × V
def kvE (E : List GE) : List (Dt × Addr × V) := E.map fun e => (encS e.1, e.2.1, e.2.2)
theorem valS_E (s : GSt) : ∀ E : List GE, valS (kvE E) (encS s) = (E.find? fun e => eqS e.1 s).map (·.2.2)
  | [] => rfl
  | e :: E => by
    have ih := valS_E s E
    unfold valS kvE at ih ⊢
    rw [List.map_cons, List.find?_cons, List.find?_cons]
    by_cases h : nk (encS e.1) = nk (encS s)
    · have h2 : eqS e.1 s = true := decide_eq_true h
      rw [decide_eq_true h, h2]
      rfl
    · have h2 : eqS e.1 s = false := decide_eq_false h
      rw [decide_eq_false h, h2]
      exact ih
theorem num_val (s : GSt) : ∀ (E : List GE) (n : Nat), (∀ (i : Nat) (e : GE), E[i]? = some e → e.2.2 = V.int ((n + i : Nat) : Int)) → valS (kvE E) (encS s) = if hasS (E.map (·.1)) s = true then some (.int ((n + ixS (E.map (·.1)) s : Nat) : Int)) else none
  | [], n, _ => rfl
  | e :: E, n, h => by
    have ih := num_val s E (n + 1) fun i e' he => by
      have := h (i + 1) e' (by simpa using he)
      rw [this]
      congr 2
      omega
    rw [valS_E] at ih ⊢
    rw [List.find?_cons]
    unfold hasS ixS at ih ⊢
    rw [List.map_cons, List.any_cons, List.findIdx_cons]
    cases q : eqS e.1 s with
    | true =>
      have := h 0 e rfl
      simp [this]
    | false =>
      simp only [Bool.false_or, cond_false]
      rw [ih]
      split
      · congr 3
        omega
      · rfl
/-- where it stands -/
structure GA where
  x : Addr
  dx : Addr
  dn : Addr
  ls : Addr
  ln : Addr
  dw : Addr
  vg : V
  vm : V
def gF (g : GA) : List (Str × V) := [("numbers", .ref g.dn), ("states", .ref g.ls), ("graft", g.vg), ("machine", g.vm), ("names", .ref g.ln), ("ways", .ref g.dw)]
theorem lk_here {k : Str} {v : V} {r : List (Str × V)} : List.lookup k ((k, v) :: r) = some v := by
  have e : (k == k) = true := beq_self_eq_true k
  simp only [List.lookup, e]
theorem lk_past {k g : Str} {v : V} {r : List (Str × V)} (h : (k == g) = false) : List.lookup k ((g, v) :: r) = List.lookup k r := by
  simp only [List.lookup, h]
theorem gF_numbers (g : GA) : (gF g).lookup ("numbers" : Str) = some (.ref g.dn) := lk_here
theorem gF_states (g : GA) : (gF g).lookup ("states" : Str) = some (.ref g.ls) := (lk_past (by decide +kernel)).trans lk_here
theorem gF_graft (g : GA) : (gF g).lookup ("graft" : Str) = some g.vg := (lk_past (by decide +kernel)).trans ((lk_past (by decide +kernel)).trans lk_here)
theorem gF_machine (g : GA) : (gF g).lookup ("machine" : Str) = some g.vm := (lk_past (by decide +kernel)).trans ((lk_past (by decide +kernel)).trans ((lk_past (by decide +kernel)).trans lk_here))
theorem gF_names (g : GA) : (gF g).lookup ("names" : Str) = some (.ref g.ln) := (lk_past (by decide +kernel)).trans ((lk_past (by decide +kernel)).trans ((lk_past (by decide +kernel)).trans ((lk_past (by decide +kernel)).trans lk_here)))
theorem gF_ways (g : GA) : (gF g).lookup ("ways" : Str) = some (.ref g.dw) := (lk_past (by decide +kernel)).trans ((lk_past (by decide +kernel)).trans ((lk_past (by decide +kernel)).trans ((lk_past (by decide +kernel)).trans ((lk_past (by decide +kernel)).trans lk_here))))
theorem gF_no {f : Str} (g : GA) (h1 : (f == ("numbers" : Str)) = false) (h2 : (f == ("states" : Str)) = false) (h3 : (f == ("graft" : Str)) = false) (h4 : (f == ("machine" : Str)) = false) (h5 : (f == ("names" : Str)) = false) (h6 : (f == ("ways" : Str)) = false) : (gF g).lookup f = none :=
  (lk_past h1).trans ((lk_past h2).trans ((lk_past h3).trans ((lk_past h4).trans ((lk_past h5).trans ((lk_past h6).trans rfl)))))
/-- all but the grower's own stays -/
structure GX (g : GA) (H H' : Hp) : Prop where
  st : ∀ b o, b ≠ g.dn → b ≠ g.ls → b ≠ g.dw → H b = some o → H' b = some o
  tk : Tk H H'
theorem GX.refl (g : GA) (H : Hp) : GX g H H := ⟨fun _ _ _ _ _ h => h, Tk.refl H⟩
theorem GX.trans {g : GA} {H H1 H2 : Hp} (a : GX g H H1) (b : GX g H1 H2) : GX g H H2 := ⟨fun x o h1 h2 h3 h => b.st x o h1 h2 h3 (a.st x o h1 h2 h3 h), a.tk.trans b.tk⟩
theorem GX.of {g : GA} {H H' : Hp} (e : Ex H H') : GX g H H' := ⟨fun b o _ _ _ h => e b o h, Tk.ex e⟩
theorem GX.ls {g : GA} {H H' : Hp} {a : Addr} {ds : List Dt} (x : GX g H H') (h1 : a ≠ g.dn) (h2 : a ≠ g.ls) (h3 : a ≠ g.dw) (l : Ls H a ds) : Ls H' a ds := let ⟨xs, h, r⟩ := l; ⟨xs, x.st a _ h1 h2 h3 h, r.mono x.tk⟩
/-- .. but the ways -/
structure GW (g : GA) (H H' : Hp) : Prop where
  st : ∀ b o, b ≠ g.dw → H b = some o → H' b = some o
  tk : Tk H H'
theorem GW.trans {g : GA} {H H1 H2 : Hp} (a : GW g H H1) (b : GW g H1 H2) : GW g H H2 := ⟨fun x o h1 h => b.st x o h1 (a.st x o h1 h), a.tk.trans b.tk⟩
theorem GW.of {g : GA} {H H' : Hp} (e : Ex H H') : GW g H H' := ⟨fun b o _ h => e b o h, Tk.ex e⟩
theorem GW.gx {g : GA} {H H' : Hp} (e : GW g H H') : GX g H H' := ⟨fun b o _ _ h3 h => e.st b o h3 h, e.tk⟩
structure GH (P : Program) (w : World) (C : Addr) (H : Hp) (g : GA) (R : Rules) (M : Mach) (N : List Str) (S : List GSt) : Prop where
  ins : H g.x = some (.ins C g.dx (gF g))
  rg : Rp H g.vg (encRs R)
  rm : Rp H g.vm (encM M)
  rn : Ls H g.ln (N.map .s)
  nu : ∃ E : List GE, E.map (·.1) = S ∧ SD P w H g.dn (kvE E) ∧ ∀ (i : Nat) (e : GE), E[i]? = some e → e.2.2 = V.int (i : Int)
  ss : Ls H g.ls (S.map encS)
  wy : ∃ E : List GE, SD P w H g.dw (kvE E) ∧ (E.map (·.1)).Nodup ∧ ∀ e ∈ E, e.1 ∈ S ∧ Rp H e.2.2 (encW (tw R M N e.1))
  n1 : g.dn ≠ g.dw
  n2 : g.ln ≠ g.ls
  nd : S.Nodup
  len : S.length ≤ 64
  ok : ∀ s ∈ S, GOk M N s
theorem GH.ex {P : Program} {w : World} {C : Addr} {H H' : Hp} {g : GA} {R : Rules} {M : Mach} {N : List Str} {S : List GSt} (e : Ex H H') (h : GH P w C H g R M N S) : GH P w C H' g R M N S := by
  obtain ⟨E1, a1, a2, a3⟩ := h.nu
  obtain ⟨E2, b1, b2, b3⟩ := h.wy
  exact ⟨e _ _ h.ins, h.rg.ex e, h.rm.ex e, h.rn.ex e, ⟨E1, a1, a2.ex e, a3⟩, h.ss.ex e, ⟨E2, b1.ex e, b2, fun x hx => ⟨(b3 x hx).1, (b3 x hx).2.ex e⟩⟩, h.n1, h.n2, h.nd, h.len, h.ok⟩
/-- .. and a write elsewhere -/
theorem GH.bt {P : Program} {w : World} {C l : Addr} {H H' : Hp} {g : GA} {R : Rules} {M : Mach} {N : List Str} {S : List GSt} (b : Bt l H H') (h1 : g.x ≠ l) (h2 : g.ln ≠ l) (h3 : g.dn ≠ l) (h4 : g.ls ≠ l) (h5 : g.dw ≠ l) (h : GH P w C H g R M N S) : GH P w C H' g R M N S := by
  obtain ⟨E1, a1, a2, a3⟩ := h.nu
  obtain ⟨E2, b1, b2, b3⟩ := h.wy
  exact ⟨by rw [b.bt _ h1]; exact h.ins, h.rg.mono b.tk, h.rm.mono b.tk, b.ls h2 h.rn, ⟨E1, a1, a2.bt b h3, a3⟩, b.ls h4 h.ss, ⟨E2, b1.bt b h5, b2, fun x hx => ⟨(b3 x hx).1, (b3 x hx).2.mono b.tk⟩⟩, h.n1, h.n2, h.nd, h.len, h.ok⟩
/-! ### the text of the classes -/
structure Txt (K : PySem.W.Frag) (mg : Str → Option Value) (CB CG CT : Addr) : Prop where
  cl : Cls K CB
  nN : NoAttr K CB "numbers"
  nS : NoAttr K CB "states"
  nG : NoAttr K CB "graft"
  nM : NoAttr K CB "machine"
  nA : NoAttr K CB "names"
  nW : NoAttr K CB "ways"
  gB : mg "BackGrower" = some (.ref CB)
  gG : mg "Grower" = some (.ref CG)
  gT : mg "TooMany" = some (.ref CT)
  rG : ClX.CRead K CG (.type "type")
  xT : PySem.W.excIn K CT [.type "ValueError", .type "Exception", .type "BaseException", .type "object"] "ValueError.__new__" = true
  kT : PySem.W.keepIn K (.ref CT) = true
  bT : PySem.W.subIn K (.ref CT) (.type "BaseException") = some true
  tT : PySem.W.typeIn K (.ref CT) = some (.type "type")
  eT : PySem.W.exmOne K (.ref CT) (.ref CT) = some true
/-- a method of the grower -/
structure MCal (P : Program) (w : World) (K : PySem.W.Frag) (mg : Str → Option Value) (base : Heap) (CX : CXT) (k : Nat) (C : Addr) (x : Str) (ps : List Str) (sp : Sp) (f : Addr) (fd : FuncData) : Prop where
  ok : FnOk P w K mg base CX k f fd ps sp
  me : Meth K C x f
  bd : Binds K fd ps []
section
variable {K : PySem.W.Frag} {mg : Str → Option Value} {CB CG CT : Addr} {σ : L2.St} {H H' : Hp} {ta tb te tx : TE}
theorem ev_fld {x C dx : Addr} {fs : List (Str × V)} {f : Str} {v : V} (ha : Ev ta σ H (.ref x)) (h : H x = some (.ins C dx fs)) (c : Cls K C) (n : NoAttr K C f) (l : fs.lookup f = some v) : Ev (tFld K ta f) σ H v := fun H1 e Q q =>
  ha H1 e _ fun H2 e2 => ⟨x, C, dx, fs, v, rfl, (e.trans e2) _ _ h, c, n, l, q H2 e2⟩
end
section
variable {X : Cx} {o e : Expr} {f : Str} {pos : Pos} {ta : TE}
theorem pe_fldK (K : PySem.W.Frag) (he : PE X e ta) (hK : X.K = K := by rfl) (hb : attributeBase e f X.env (eval e X.env) = eval e X.env := by rfl) : PE X (.Attribute e f pos) (tFld K ta f) := hK ▸ pe_fld he hb
end
end GF
set_option Elab.async false
set_option linter.all false
set_option maxRecDepth 100000
set_option maxHeartbeats 1000000
/-! Gf18: number. -/
namespace GF
open PySem L2 Evl PySem.Spec PyProof.Rows
section
variable {P : Program} {w : World} {K : PySem.W.Frag} {σ : L2.St} {H H' : Hp} {ta tb te td ty tv : TE} {D : Ends} {tz : TS}
theorem SGet.ex {d : Addr} {y : V} {o : Option V} (e : Ex H H') (g : SGet P w H d y o) : SGet P w H' d y o := by
  obtain ⟨kvs, k, b, g1, g2, g3, g4, g5⟩ := g
  exact ⟨kvs, k, b, g1.ex e, g2, g3.ex e, g4, g5⟩
theorem et_snotin {d b : Addr} {o : Option V} (hy : Ev ty σ H (.ref b)) (hd : Ev td σ H (.ref d)) (g : SGet P w H d (.ref b) o) : EvT (tB (tSNotIn P w ty td)) σ H (!o.isSome) := fun H1 e Q q =>
  hy H1 e _ fun H2 e2 => hd H2 (e.trans e2) _ fun H3 e3 => ⟨d, o, rfl, g.ex ((e.trans e2).trans e3), ⟨_, rfl, q H3 (e2.trans e3)⟩⟩
theorem ev_sget {d b : Addr} {v : V} (hd : Ev td σ H (.ref d)) (hy : Ev ty σ H (.ref b)) (g : SGet P w H d (.ref b) (some v)) : Ev (tSGet P w td ty) σ H v := fun H1 e Q q =>
  hd H1 e _ fun H2 e2 => hy H2 (e.trans e2) _ fun H3 e3 => ⟨d, v, rfl, g.ex ((e.trans e2).trans e3), q H3 (e2.trans e3)⟩
theorem sv_sput {d b : Addr} {v : V} {kvs : List (Dt × Addr × V)} {k : Dt} (hv : Ev tv σ H v) (hd : Ev td σ H (.ref d)) (hy : Ev ty σ H (.ref b)) (s : SD P w H d kvs) (rk : Rp H (.ref b) k) (dk : (nk k).depth ≤ 8) (nn : valS kvs k = none) (hz : kvs.length < 1000)
    (kk : ∀ H1 H2, Ex H H1 → Bt d H1 H2 → SD P w H2 d (kvs ++ [(k, b, v)]) → D.nx σ H2) : sSPut P w td ty tv D σ H :=
  hv H (Ex.refl H) _ fun H1 e1 => hd H1 e1 _ fun H2 e2 => hy H2 (e1.trans e2) _ fun H3 e3 => by
    have ee := (e1.trans e2).trans e3
    have s3 := s.ex ee
    have r3 := rk.ex ee
    have b3 : Bt d H3 (upd H3 d (SDic P w d (kvs ++ [(k, b, v)]))) := ⟨Tk.upd (fun u i z => by
      rw [s3.1] at z
      cases z
      exact nomatch i), fun c hc => upd_ne hc⟩
    refine ⟨d, kvs, k, b, rfl, rfl, s3, r3, dk, nn, hz, kk H3 _ ee b3 ⟨upd_same, fun e he => ?_⟩⟩
    rcases List.mem_append.mp he with h | h
    · exact ⟨(s3.2 e h).1.mono b3.tk, (s3.2 e h).2⟩
    · rw [List.mem_singleton.mp h]
      exact ⟨r3.mono b3.tk, dk⟩
end
def spNum (P : Program) (w : World) (C CT : Addr) : Sp := fun vs H Q E => ∃ g R M N S s v, vs = [.ref (GA.x g), v] ∧ GH P w C H g R M N S ∧ Rp H v (encS s) ∧ GOk M N s ∧ (num S s = none → ∀ H', E (.ref CT) none H') ∧
  ∀ S', num S s = some S' → ∀ H', GX g H H' → GH P w C H' g R M N S' → Q (.int ((ixS S' s : Nat) : Int)) H'
def spNum0 (P : Program) (w : World) (C : Addr) : Sp := fun vs H Q _ => ∃ g R M N S s v, vs = [.ref (GA.x g), v] ∧ GH P w C H g R M N S ∧ Rp H v (encS s) ∧ GOk M N s ∧ num S s ≠ none ∧
  ∀ S', num S s = some S' → ∀ H', GX g H H' → GH P w C H' g R M N S' → Q (.int ((ixS S' s : Nat) : Int)) H'
section
variable {P : Program} {w : World} {K : PySem.W.Frag} {mg : Str → Option Value} {base : Heap} {f : Addr} {fd : FuncData} {CB CG CT : Addr}
theorem scNumber : FnScope ["self", "state"] ["self", "state"] (defScope sNumber) := ⟨rfl, rfl, rfl, by decide +kernel, rfl, by decide +kernel, by decide +kernel⟩
/-- what number does -/
def tNumber (P : Program) (w : World) (K : PySem.W.Frag) (tr : TS) : TS :=
  tSeq (tIfS (tB (tSNotIn P w (tVar 1) (tFld K (tVar 0) "numbers")))
    (tSeq (tIfS (tTest (tOp rEq (tCB (rLenS K) (tCons (tFld K (tVar 0) "states") tNil)) (tC (.int 64)))) tr tNext)
      (tSeq (sSPut P w (tFld K (tVar 0) "numbers") (tVar 1) (tCB (rLenS K) (tCons (tFld K (tVar 0) "states") tNil))) (tDrop (tBM K "list" rAppend (tFld K (tVar 0) "states") (tCons (tVar 1) tNil))))) tNext)
    (tRet (tSGet P w (tFld K (tVar 0) "numbers") (tVar 1)))
theorem pure_number (T : Txt K mg CB CG CT) {tr : TS} {g : GA} {R : Rules} {M : Mach} {N : List Str} {S : List GSt} {s : GSt} {v : V} {H : Hp} {Q : VK} {Q0 : L2.St → Hp → Prop} (G : GH P w CB H g R M N S) (hv : Rp H v (encS s)) (hs : GOk M N s)
    (hr : num S s = none → ∀ D σ H', tr D σ H') (q : ∀ S', num S s = some S' → ∀ H', GX g H H' → GH P w CB H' g R M N S' → Q (.int ((ixS S' s : Nat) : Int)) H') :
    tNumber P w K tr { nx := Q0, rt := Q } (L2.start ["self", "state"] [.ref g.x, v]) H := by
  obtain ⟨b, xs, rfl, _, _⟩ := hv.tup
  have Sl0 : Sl H (L2.start ["self", "state"] [.ref g.x, .ref b]) [.v (.ref g.x), .v (.ref b)] := .cons rfl (.cons rfl .nil)
  obtain ⟨E, hE, sd, hi⟩ := G.nu
  have hval : valS (kvE E) (encS s) = if hasS S s = true then some (.int ((ixS S s : Nat) : Int)) else none := by
    have := num_val s E 0 (fun i e he => by rw [hi i e he, Nat.zero_add])
    rw [hE] at this
    rw [this]
    simp only [Nat.zero_add]
  have fN : ∀ {H1 : Hp} {σ : L2.St}, Ex H H1 → Sl H1 σ [.v (.ref g.x), .v (.ref b)] → Ev (tFld K (tVar 0) "numbers") σ H1 (.ref g.dn) := fun e S1 => ev_fld (ev_varV S1 rfl) (e _ _ G.ins) T.cl T.nN (gF_numbers g)
  have fS : ∀ {H1 : Hp} {σ : L2.St}, Ex H H1 → Sl H1 σ [.v (.ref g.x), .v (.ref b)] → Ev (tFld K (tVar 0) "states") σ H1 (.ref g.ls) := fun e S1 => ev_fld (ev_varV S1 rfl) (e _ _ G.ins) T.cl T.nS (gF_states g)
  have sg : SGet P w H g.dn (.ref b) (valS (kvE E) (encS s)) := ⟨kvE E, encS s, b, sd, rfl, hv, depth_encS s, rfl⟩
  -- the end
  have fin : ∀ {H1 : Hp} {σ : L2.St} {S' : List GSt}, num S s = some S' → GX g H H1 → GH P w CB H1 g R M N S' → Sl H1 σ [.v (.ref g.x), .v (.ref b)] → tRet (tSGet P w (tFld K (tVar 0) "numbers") (tVar 1)) { nx := Q0, rt := Q } σ H1 := fun {H1 σ S'} hn x G' S1 => by
    obtain ⟨E', hE', sd', hi'⟩ := G'.nu
    have hval' : valS (kvE E') (encS s) = some (.int ((ixS S' s : Nat) : Int)) := by
      have := num_val s E' 0 (fun i e he => by rw [hi' i e he, Nat.zero_add])
      rw [hE'] at this
      rw [this]
      have hm : s ∈ S' := by rw [num_add hn]; exact addS_mem
      rw [if_pos (has_iff.mpr hm), Nat.zero_add]
    refine (ev_sget (v := .int ((ixS S' s : Nat) : Int)) (d := g.dn) (b := b) (ev_fld (ev_varV S1 rfl) G'.ins T.cl T.nN (gF_numbers g)) (ev_varV S1 rfl) ⟨kvE E', encS s, b, sd', rfl, hv.mono x.tk, depth_encS s, hval'.symm⟩) H1 (Ex.refl H1) _ fun H2 e2 => ?_
    exact q S' hn H2 (x.trans (GX.of e2)) (G'.ex e2)
  refine q_when (et_snotin (ev_varV Sl0 rfl) (fN (Ex.refl H) Sl0) sg) (fun hb H1 e1 => ?_) (fun hb H1 e1 => ?_)
  · have hno : hasS S s = false := by
      rw [hval] at hb
      cases q : hasS S s with
      | false => rfl
      | true => rw [q] at hb; cases hb
    have hnm : s ∉ S := fun z => by rw [has_iff.mpr z] at hno; cases hno
    have hvn : valS (kvE E) (encS s) = none := by rw [hval, hno]; rfl
    have S1 := Sl0.ex e1
    have lS : EvR (tFld K (tVar 0) "states") _ H1 (S.map encS) := er_ev (fS e1 S1) (G.ss.ex e1)
    refine q_when (et_ed (ed_eq (ed_lenL lS) ed_int rfl rfl rfl)) (fun hb2 H2 e2 => ?_) (fun hb2 H2 e2 => ?_)
    · have h64 : S.length = 64 := by
        have := of_decide_eq_true hb2
        rw [List.length_map] at this
        have h := V.int.inj this
        omega
      exact hr (by unfold num; rw [hno, if_neg (by decide), if_pos h64]) _ _ _
    · have h64 : S.length ≠ 64 := fun z => by
        have := of_decide_eq_false hb2
        rw [List.length_map, z] at this
        exact this rfl
      have hn : num S s = some (S ++ [s]) := by
        unfold num
        rw [hno, if_neg (by decide), if_neg h64]
      have S2 := S1.ex e2
      have E2 := e1.trans e2
      have hlE : E.length = S.length := by rw [← hE, List.length_map]
      have hlen := G.len
      refine sv_sput (D := { nx := _, rt := Q }) (ev_int (ed_lenL (er_ev (fS E2 S2) (G.ss.ex E2)))) (fN E2 S2) (ev_varV S2 rfl) (sd.ex E2) (hv.ex E2) (depth_encS s) hvn (by unfold kvE; rw [List.length_map]; omega) fun H3 H4 e3 b4 sd4 => ?_
      have E3 := E2.trans e3
      have S4 := (S2.ex e3).tk b4.tk rfl
      have i3 := E3 _ _ G.ins
      have nxd : g.x ≠ g.dn := fun z => by
        have := (sd.ex E3).1
        rw [← z, i3] at this; cases this
      have nsd : g.ls ≠ g.dn := fun z => by
        obtain ⟨xs, h1, _⟩ := G.ss.ex E3
        rw [z, (sd.ex E3).1] at h1; cases h1
      have nld : g.ln ≠ g.dn := fun z => by
        obtain ⟨xs, h1, _⟩ := G.rn.ex E3
        rw [z, (sd.ex E3).1] at h1; cases h1
      have L4 : Ls H4 g.ls (S.map encS) := b4.ls nsd (G.ss.ex E3)
      refine sd_app (ev_fld (ev_varV S4 rfl) (by rw [b4.bt _ nxd]; exact i3) T.cl T.nS (gF_states g)) L4 (d := encS s) (fun H5 e5 Q5 q5 => (ev_varV S4 rfl) H5 e5 Q5 fun H6 e6 => q5 _ H6 e6 ((((hv.ex E3).mono b4.tk).ex e5).ex e6)) (by rw [List.length_map]; omega) fun H5 H6 e5 b6 L6 => ?_
      have nxs : g.x ≠ g.ls := fun z => by
        obtain ⟨xs, h1, _⟩ := G.ss
        rw [← z, G.ins] at h1; cases h1
      have nws : g.dw ≠ g.ls := fun z => by
        obtain ⟨xs, h1, _⟩ := G.ss
        obtain ⟨E2, s2, _⟩ := G.wy
        rw [← z, s2.1] at h1; cases h1
      have XX : GX g H H6 := (GX.of E3).trans (GX.trans ⟨fun c o h1 h2 h3 h => by rw [b4.bt c h1]; exact h, b4.tk⟩ ((GX.of e5).trans ⟨fun c o h1 h2 h3 h => by rw [b6.bt c h2]; exact h, b6.tk⟩))
      have S6 := (S4.ex e5).tk b6.tk rfl
      refine fin hn XX ⟨?_, (((G.rg.ex E3).mono b4.tk).ex e5).mono b6.tk, (((G.rm.ex E3).mono b4.tk).ex e5).mono b6.tk, ?_, ?_, ?_, ?_, G.n1, G.n2, ?_, ?_, ?_⟩ S6
      · rw [b6.bt _ nxs]
        exact e5 _ _ (by rw [b4.bt _ nxd]; exact i3)
      · exact b6.ls G.n2 ((b4.ls nld (G.rn.ex E3)).ex e5)
      · refine ⟨E ++ [(s, b, .int ((S.map encS).length : Int))], by rw [List.map_append, hE]; rfl, ?_, fun i e he => ?_⟩
        · have := (sd4.ex e5).bt b6 (Ne.symm nsd)
          unfold kvE at this ⊢
          rw [List.map_append]
          exact this
        · by_cases hlt : i < E.length
          · rw [List.getElem?_append_left hlt] at he
            exact hi i e he
          · rw [List.getElem?_append_right (by omega)] at he
            have h0 : i - E.length = 0 := by
              have := (List.getElem?_eq_some_iff.mp he).1
              simp at this
              omega
            rw [h0] at he
            cases he
            show V.int _ = V.int _
            congr 1
            rw [List.length_map]
            omega
      · rw [List.map_append]
        exact L6
      · obtain ⟨Ew, w1, w2, w3⟩ := G.wy
        refine ⟨Ew, (((w1.ex E3).bt b4 (Ne.symm G.n1)).ex e5).bt b6 nws, w2, fun e he => ⟨List.mem_append_left _ (w3 e he).1, (((((w3 e he).2).ex E3).mono b4.tk).ex e5).mono b6.tk⟩⟩
      · have := addS_nd (s := s) G.nd
        unfold addS at this
        rw [hno] at this
        exact this
      · rw [List.length_append]
        show _ + 1 ≤ 64
        omega
      · intro t ht
        rcases List.mem_append.mp ht with h | h
        · exact G.ok t h
        · rw [List.mem_singleton.mp h]; exact hs
  · have hyes : hasS S s = true := by
      rw [hval] at hb
      cases q : hasS S s with
      | true => rfl
      | false => rw [q] at hb; cases hb
    exact fin (S' := S) (by unfold num; rw [if_pos hyes]) (GX.of e1) (G.ex e1) (Sl0.ex e1)
theorem hu9 {A : Around} {k : Nat} (hr : Room k A) : A.units + 9 < cLine := Nat.lt_of_le_of_lt (Nat.add_le_add_left (by decide : 9 ≤ 64) _) hr.units
theorem ok_number (B : Blt mg) (F : Fun K "number" "Grower.number" sNumber f fd) (T : Txt K mg CB CG CT) : FnOk P w K mg base (L2.CX P w) 1 f fd ["self", "state"] (spNum P w CB CT) := by
  obtain ⟨ts, hst⟩ := B.states
  refine F.okX scNumber (fun vs H Q E h => ?_) (fun cdv A outer s H vs Q E hr h => ?_)
  · obtain ⟨g, R, M, N, S, s, v, rfl, _⟩ := h
    rfl
  obtain ⟨g, R, M, N, S, s', v, rfl, G, hv, hs, he, q⟩ := h
  refine ⟨tNumber P w K (fun _ _ H => E (.ref CT) none H), pss_cons (ps_if (pt_cmp (pc_snotin P w (hu9 hr) (pv 1) (pe_fld (pv 0) rfl)))
      (pss_cons (ps_if (pt_cmpR op_eq (pe_callB (lenK K) (by rfl) B.len PySem.boot_len (pa_cons (pe_fld (pv 0) rfl) pa_nil)) (pe_glob (v := .int 64) rfl hst ⟨_, rfl⟩) (nomark _))
        (pss_one (ps_raise rfl (takes_of rfl rfl rfl rfl) (pmk_own PySem.F.excBase_ValueError T.xT T.gT T.kT (raises_own T.bT T.tT) (by exact rfl)))) pss_nil)
      (pss_cons (ps_sput P w (hu9 hr) (pe_fld (pv 0) rfl) (pv 1) (pe_callB (lenK K) (by rfl) B.len PySem.boot_len (pa_cons (pe_fld (pv 0) rfl) pa_nil)) rfl)
      (pss_one (ps_expr (pe_bm PySem.F.plainAttrs_list PySem.F.slot_list_append PySem.F.type_list_append mt_append (pe_fld (pv 0) rfl) (pa_cons (pv 1) pa_nil)))))) pss_nil)
    (pss_one (ps_ret (pe_sget P w (hu9 hr) (pe_fld (pv 0) rfl) (pv 1) (fun _ _ => rfl)))), ?_⟩
  exact pure_number T G hv hs (fun hn D σ H' => he hn H') q
theorem ok_number0 (B : Blt mg) (F : Fun K "number" "Grower.number" sNumber f fd) (T : Txt K mg CB CG CT) : FnOk P w K mg base CX0 1 f fd ["self", "state"] (spNum0 P w CB) := by
  obtain ⟨ts, hst⟩ := B.states
  refine F.ok scNumber (fun vs H Q E h => ?_) (fun cdv A outer s H vs Q E hr h => ?_)
  · obtain ⟨g, R, M, N, S, s, v, rfl, _⟩ := h
    rfl
  obtain ⟨g, R, M, N, S, s', v, rfl, G, hv, hs, he, q⟩ := h
  refine ⟨tNumber P w K (fun _ _ _ => False), pss_cons (ps_if (pt_cmp (pc_snotin P w (hu9 hr) (pv 1) (pe_fld (pv 0) rfl)))
      (pss_cons (ps_if (pt_cmpR op_eq (pe_callB (lenK K) (by rfl) B.len PySem.boot_len (pa_cons (pe_fld (pv 0) rfl) pa_nil)) (pe_glob (v := .int 64) rfl hst ⟨_, rfl⟩) (nomark _))
        (pss_one ps_never) pss_nil)
      (pss_cons (ps_sput P w (hu9 hr) (pe_fld (pv 0) rfl) (pv 1) (pe_callB (lenK K) (by rfl) B.len PySem.boot_len (pa_cons (pe_fld (pv 0) rfl) pa_nil)) rfl)
      (pss_one (ps_expr (pe_bm PySem.F.plainAttrs_list PySem.F.slot_list_append PySem.F.type_list_append mt_append (pe_fld (pv 0) rfl) (pa_cons (pv 1) pa_nil)))))) pss_nil)
    (pss_one (ps_ret (pe_sget P w (hu9 hr) (pe_fld (pv 0) rfl) (pv 1) (fun _ _ => rfl)))), ?_⟩
  exact pure_number T G hv hs (fun hn D σ H' => absurd hn he) q
end
end GF
set_option Elab.async false
set_option linter.all false
set_option maxRecDepth 100000
set_option maxHeartbeats 1000000
/-! Gf19: the inits, turned_way, step, mark. -/
namespace GF
open PySem L2 Evl PySem.Spec PyProof.Rows
/-! ### C.f(e, ..), f a plain def of the class C -/
def tCFun (C : Addr) (sp : Sp) (E : XK) (ta : TE) (t : TA) : TE := fun σ H Q => ta σ H fun x H1 => x = .ref C ∧ t σ H1 fun vs H2 => sp vs H2 Q E
section
variable {X : Cx} {CX : CXT} {k : Nat} {C g : Addr} {mc : Value} {fd : FuncData} {ps : List Str} {sp : Sp} {E : XK} {m : Str} {pos apos : Pos} {e o : Expr} {es : List Expr} {ta : TE} {t : TA}
theorem pe_cfun {pl : Sem Bool} (he : PE X o ta) (r : ClX.CRead X.K C mc) (c : ClX.CVal X.K C mc m (.ref g) (.ref g)) (kp : PySem.W.keepIn X.K (.ref g) = true) (F : FnOk X.prog X.w X.K X.mg X.base CX k g fd ps sp) (hr : Room k X.A) (hb : Binds X.K fd ps []) (hx : Passes CX X E) (ha : PA X (e :: es) t)
    (hst : starEach (e :: es) X.env = (false, eval e X.env) :: starEach es X.env := by rfl) (hpl : (backTo pos (starEach es X.env)).any (·.1) = false := by rfl)
    (ht : eval (.Call (.Attribute o m apos) (e :: es) [] pos) X.env = (do
      let ov ← eval o X.env
      standAt apos.atName
      let (f, first) ← holding [ov] (getMethod ov m pl)
      callWith pos f first (backTo pos (starEach (e :: es) X.env)) (backToKw pos (keywordEach [] X.env))) := by rfl) : PE X (.Call (.Attribute o m apos) (e :: es) [] pos) (tCFun C sp E ta t) := by
  refine ⟨fun pins s σ H Q I h => ?_⟩
  refine PySem.W.methodCall_KW (pl := pl) (thn (he.run pins s σ H _ I h) fun u s1 ⟨x, H1, I1, rx, ex, q⟩ => ?_) ht
  subst ex
  obtain rfl : u = Value.ref C := rx
  refine PySem.W.method_cls I1.kIn r.ga (ClX.getcval_ok I1 r c fun s2 I2 => ?_)
  refine PySem.W.callWith_K (h₀ := X.base) I2.ok.mod.kin kp (thn (ha.run pos pins s2 σ H1 _ I2 q) fun us s3 ⟨vs, H2, I3, rv, q2⟩ => ⟨I3.kIn, ?_⟩) hst hpl
  exact run_fn F hr hb (dvs := []) .nil hx I3 rv (by rw [List.append_nil]; exact q2)
end
section
variable {K : PySem.W.Frag} {mg : Str → Option Value} {CB CG CT : Addr} {σ : L2.St} {H H' : Hp} {ta tb te tv : TE} {D : Ends} {tz tw' : TS} {ss : List Sd}
theorem qd_par2 {i j : Nat} {d1 d2 : Dt} (h : EvD te σ H (.t [d1, d2])) (k : ∀ v1 v2 H1, Ex H H1 → Rp H1 v1 d1 → Rp H1 v2 d2 → tz D ((σ.set i (some v1)).set j (some v2)) H1) : tSeq (tAsg te (gTup K 2 (gCons (gName i) (gCons (gName j) gNil)))) tz D σ H :=
  h H (Ex.refl H) _ fun v H1 e1 r => by
    obtain ⟨a, xs, rfl, h1, h2⟩ := r.tup
    cases h2 with
    | cons r1 h2 =>
      cases h2 with
      | cons r2 h2 =>
        cases h2
        exact ⟨a, _, rfl, st_of h1, rfl, _, _, rfl, _, _, rfl, rfl, k _ _ H1 e1 r1 r2⟩
/-- o.f = e, a field of an instance -/
theorem sv_fld {x C dx : Addr} {fs : List (Str × V)} {f : Str} {v : V} (hv : Ev tv σ H v) (ha : Ev ta σ H (.ref x)) (h : H x = some (.ins C dx fs)) (c : Cls K C) (n : NoAttr K C f) (l : fs.length < 1000)
    (k : ∀ H1 H2, Ex H H1 → Bt x H1 H2 → H2 x = some (.ins C dx (putF f v fs)) → D.nx σ H2) : sFld K ta tv f D σ H :=
  hv H (Ex.refl H) _ fun H1 e1 => ha H1 e1 _ fun H2 e2 => by
    have ee := e1.trans e2
    have h2 := ee _ _ h
    exact ⟨x, C, dx, fs, rfl, h2, c, n, l, k H2 _ ee ⟨Tk.upd (fun u i z => by
      rw [h2] at z
      cases z
      exact nomatch i), fun b hb => upd_ne hb⟩ upd_same⟩
theorem qFld_intro {f : Str} (h : tv σ H fun y H1 => ta σ H1 fun x H2 => ∃ a C dx fs, x = .ref a ∧ H2 a = some (.ins C dx fs) ∧ Cls K C ∧ NoAttr K C f ∧ fs.length < 1000 ∧ tz D σ (upd H2 a (.ins C dx (putF f y fs)))) : tSeq (sFld K ta tv f) tz D σ H := h
theorem put_past {f g : Str} {v x : V} {r : List (Str × V)} (h : ¬ g = f) : putF f v ((g, x) :: r) = (g, x) :: putF f v r := if_neg h
end
def spGInit (P : Program) (w : World) (C : Addr) : Sp := fun vs H Q _ => ∃ (x dx : Addr), vs = [.ref x] ∧ H x = some (.ins C dx []) ∧
  ∀ dn ls H', H dn = none → H ls = none → (∀ b o, b ≠ x → H b = some o → H' b = some o) → Tk H H' → H' x = some (.ins C dx [("numbers", .ref dn), ("states", .ref ls)]) → SD P w H' dn [] → Ls H' ls [] → Q .non H'
def spBInit (P : Program) (w : World) (C : Addr) : Sp := fun vs H Q _ => ∃ (x dx : Addr) (vg vm : V) (R : Rules) (M : Mach), vs = [.ref x, vg, vm] ∧ H x = some (.ins C dx []) ∧ Rp H vg (encRs R) ∧ Rp H vm (encM M) ∧ RulesOk 5 R ∧ M.names.length ≤ 9 ∧
  ∀ (g : GA) (N : List Str) H', g.x = x → H g.dn = none → H g.ls = none → H g.dw = none → H g.ln = none → (∀ b o, b ≠ x → H b = some o → H' b = some o) → Tk H H' → NS N → (∀ y, y ∈ N ↔ y ∈ M.names ∨ ∃ r ∈ R, r.1 = y) → GH P w C H' g R M N [] → Q .non H'
section
variable {P : Program} {w : World} {K : PySem.W.Frag} {mg : Str → Option Value} {base : Heap} {f fA fI fS fO fF fB fTW : Addr} {fd fdA fdI fdS fdO fdF fdB fdTW : FuncData} {CB CG CT : Addr}
theorem scGInit : FnScope ["self"] ["self"] (defScope sGInit) := ⟨rfl, rfl, rfl, by decide +kernel, rfl, by decide +kernel, by decide +kernel⟩
theorem ok_ginit (F : Fun K "__init__" "Grower.__init__" sGInit f fd) (T : Txt K mg CB CG CT) : FnOk P w K mg base CX0 1 f fd ["self"] (spGInit P w CB) := by
  refine F.ok scGInit (fun vs H Q E h => ?_) (fun cdv A outer s H vs Q E hr h => ?_)
  · obtain ⟨x, dx, rfl, _⟩ := h
    rfl
  obtain ⟨x, dx, rfl, hx, q⟩ := h
  have S : Sl H (L2.start ["self"] [.ref x]) [.v (.ref x)] := .cons rfl .nil
  refine ⟨_, pss_cons (ps_fld (pv 0) (pe_snew P w) rfl) (pss_one (ps_fld (pv 0) (pe_lst pa_nil) rfl)), ?_⟩
  -- {}
  refine fun dn hdn => ?_
  have e1 : Ex H (upd H dn (SDic P w dn [])) := Ex.new hdn
  have s1 : SD P w (upd H dn (SDic P w dn [])) dn [] := ⟨upd_same, fun e he => nomatch he⟩
  refine (ev_varV (S.ex e1) rfl) _ (Ex.refl _) _ fun H2 e2 => ?_
  have E2 := e1.trans e2
  have h2 := E2 _ _ hx
  have nxd : x ≠ dn := fun z => by rw [z, hdn] at hx; cases hx
  refine ⟨x, CB, dx, [], rfl, h2, T.cl, T.nN, by show 0 < 1000; decide, ?_⟩
  have b2 : Bt x H2 (upd H2 x (.ins CB dx (putF "numbers" (.ref dn) []))) := ⟨Tk.upd (fun u i z => by
      rw [h2] at z
      cases z
      exact nomatch i), fun b hb => upd_ne hb⟩
  generalize hH3 : upd H2 x (.ins CB dx (putF "numbers" (.ref dn) [])) = H3 at b2 ⊢
  have h3 : H3 x = some (.ins CB dx [("numbers", .ref dn)]) := by rw [← hH3]; exact upd_same
  have S3 := (S.ex E2).tk b2.tk rfl
  -- []
  refine ⟨by show 0 ≤ sizeLine; decide, fun ls hls => ?_⟩
  have e4 : Ex H3 (upd H3 ls (.lst [])) := Ex.new hls
  have nxl : x ≠ ls := fun z => by rw [z, hls] at h3; cases h3
  have hls2 : H2 ls = none := by rw [← b2.bt ls (Ne.symm nxl)]; exact hls
  refine (ev_varV (S3.ex e4) rfl) _ (Ex.refl _) _ fun H5 e5 => ?_
  have E5 := e4.trans e5
  have h5 := E5 _ _ h3
  refine ⟨x, CB, dx, [("numbers", .ref dn)], rfl, h5, T.cl, T.nS, by show 1 < 1000; decide, ?_⟩
  have b5 : Bt x H5 (upd H5 x (.ins CB dx (putF "states" (.ref ls) [("numbers", .ref dn)]))) := ⟨Tk.upd (fun u i z => by
      rw [h5] at z
      cases z
      exact nomatch i), fun b hb => upd_ne hb⟩
  refine q dn ls _ hdn (fresh_back E2 hls2) (fun b o hb ho => ?_) ((((Tk.ex E2).trans b2.tk).trans (Tk.ex E5)).trans b5.tk) ?_ ?_ ?_
  · rw [b5.bt b hb]
    exact E5 _ _ (by rw [b2.bt b hb]; exact E2 _ _ ho)
  · rw [upd_same, put_past (by decide +kernel)]
    rfl
  · exact ((((s1.ex e2).bt b2 (Ne.symm nxd)).ex E5).bt b5 (Ne.symm nxd))
  · exact b5.ls (Ne.symm nxl) (Ls.ex e5 ⟨[], upd_same, .nil⟩)
abbrev nBInit : List Str := ["self", "graft", "machine", "rule"]
theorem scBInit : FnScope nBInit ["self", "graft", "machine"] (defScope sBInit) := ⟨rfl, rfl, rfl, by decide +kernel, rfl, by decide +kernel, by decide +kernel⟩
theorem ok_binit (F : Fun K "__init__" "BackGrower.__init__" sBInit f fd) (T : Txt K mg CB CG CT) (GI : FnOk P w K mg base CX0 1 fI fdI ["self"] (spGInit P w CB)) (bI : Binds K fdI ["self"] []) (kI : PySem.W.keepIn K (.ref fI) = true)
    (cI : ClX.CVal K CG (.type "type") "__init__" (.ref fI) (.ref fI)) (CA : Cal P w K mg base CX0 1 "all_names" ["some", "others"] spAllNames fA fdA) : FnOk P w K mg base CX0 2 f fd ["self", "graft", "machine"] (spBInit P w CB) := by
  refine F.ok scBInit (fun vs H Q E h => ?_) (fun cdv A outer s H vs Q E hr h => ?_)
  · obtain ⟨x, dx, vg, vm, R, M, rfl, _⟩ := h
    rfl
  obtain ⟨x, dx, vg, vm, R, M, rfl, hx, hg, hm, hR, h9, q⟩ := h
  have S : Sl H (L2.start nBInit [.ref x, vg, vm]) [.v (.ref x), .v vg, .v vm, .no] := .cons rfl (.cons rfl (.cons rfl (.cons trivial .nil)))
  refine ⟨_, pss_cons (ps_expr (pe_cfun (pe_glob (v := .ref CG) rfl T.gG rfl) T.rG cI kI GI hr bI pass0 (pa_cons (pv 0) pa_nil)))
    (pss_cons (ps_fld (pv 0) (pv 1) rfl)
    (pss_cons (ps_fld (pv 0) (pv 2) rfl)
    (pss_cons (ps_fld (pv 0) (pe_cal CA hr (pa_cons (pe_ix (ixT K) (pv 2) pe_int (fun _ _ => rfl)) (pa_cons (pe_lc (own := [("rule", 3)]) (g := gName 3) (tt := tYes) rfl scBInit.nd (pi_tup (pv 1)) (blkOk_by (N := nBInit) (sc := defScope sBInit) (by decide +kernel))
      (fun _ _ _ _ _ => pg_name (i := 3) scBInit.nd rfl (Or.inl rfl)) (fun _ _ _ _ _ => pts_nil) (fun _ _ _ _ _ => pe_ix (ixT K) (pv 3) pe_int (fun _ _ => rfl))) pa_nil))) rfl)
    (pss_one (ps_fld (pv 0) (pe_snew P w) rfl))))), ?_⟩
  refine ⟨rfl, (ea_cons (ev_varV S rfl) ea_nil) H (Ex.refl H) _ fun H0 e0 => ?_⟩
  refine ⟨x, dx, rfl, e0 _ _ hx, fun dn ls H1 hdn hls st1 tk1 h1 sd1 ll1 => ?_⟩
  have fx : ∀ {b : Addr}, H0 b = none → H b = none := fun hb => fresh_back e0 hb
  have T1 : Tk H H1 := (Tk.ex e0).trans tk1
  have S1 : Sl H1 (L2.start nBInit [.ref x, vg, vm]) [.v (.ref x), .v vg, .v vm, .no] := S.tk T1 rfl
  have nxd : x ≠ dn := fun z => by have := fx hdn; rw [← z, hx] at this; cases this
  have nxl : x ≠ ls := fun z => by have := fx hls; rw [← z, hx] at this; cases this
  -- graft
  refine sv_fld (D := { nx := _, rt := Q }) (ev_varV S1 rfl) (ev_varV S1 rfl) h1 T.cl T.nG (by show 2 < 1000; decide) fun H2 H3 e2 b3 h3 => ?_
  have S3 := (S1.ex e2).tk b3.tk rfl
  have h3' : H3 x = some (.ins CB dx [("numbers", .ref dn), ("states", .ref ls), ("graft", vg)]) := by
    rw [h3, put_past (by decide +kernel), put_past (by decide +kernel)]
    rfl
  -- machine
  refine sv_fld (D := { nx := _, rt := Q }) (ev_varV S3 rfl) (ev_varV S3 rfl) h3' T.cl T.nM (by show 3 < 1000; decide) fun H4 H5 e4 b5 h5 => ?_
  have S5 := (S3.ex e4).tk b5.tk rfl
  have h5' : H5 x = some (.ins CB dx [("numbers", .ref dn), ("states", .ref ls), ("graft", vg), ("machine", vm)]) := by
    rw [h5, put_past (by decide +kernel), put_past (by decide +kernel), put_past (by decide +kernel)]
    rfl
  have T5 : Tk H H5 := (((T1.trans (Tk.ex e2)).trans b3.tk).trans (Tk.ex e4)).trans b5.tk
  have hg5 := hg.mono T5
  have hm5 := hm.mono T5
  -- names
  dsimp only
  refine qFld_intro ?_
  unfold tCall
  refine (ad_d (d := .f (M.names.map .s)) (ed_ixT (ed_varV S5 rfl hm5) ed_int rfl) (ad_l (ds := []) (d := (R.map (·.1)).map Dt.s) (er_is (EvN.r (en_lcT (K := K) (xs := R) encRule (fun r => Dt.s r.1) (ed_varV S5 rfl hg5) (Nat.le_trans hR.1 (by decide)) (fun a _ y Ha e r => ed_ixT (ed_var ((S5.ex e).setD 3 r) rfl) ed_int rfl))) (by rw [List.map_map]; rfl)) ad_nil)) H5 (Ex.refl H5) _ fun vs H7 e7 as => ?_
  cases as with
  | @cons u1 _ _ _ a1 as =>
  cases as with
  | cons a2 as =>
  cases as
  obtain ⟨v1, hv1, r1⟩ := a1
  obtain ⟨l, hl1, L7⟩ := a2
  cases hv1
  cases hl1
  refine ⟨u1, M.names, R.map (·.1), l, rfl, r1, L7, by rw [List.length_map]; have := hR.1; omega, fun N ln H8 nd mem hln e8 L8 => ?_⟩
  have e6 : Ex H5 H5 := Ex.refl H5
  have E8 := e7.trans e8
  have h8 := E8 _ _ h5'
  have nxn : x ≠ ln := fun z => by have := e7 _ _ h5'; rw [z, hln] at this; cases this
  refine (ev_varV (S5.ex E8) rfl) _ (Ex.refl _) _ fun H9 e9 => ?_
  have E9 := E8.trans e9
  have h9' := E9 _ _ h5'
  refine ⟨x, CB, dx, _, rfl, h9', T.cl, T.nA, by show 4 < 1000; decide, ?_⟩
  have b9 : Bt x H9 (upd H9 x (.ins CB dx (putF "names" (.ref ln) [("numbers", .ref dn), ("states", .ref ls), ("graft", vg), ("machine", vm)]))) := ⟨Tk.upd (fun u i z => by
      rw [h9'] at z
      cases z
      exact nomatch i), fun b hb => upd_ne hb⟩
  generalize hHA : upd H9 x (.ins CB dx (putF "names" (.ref ln) [("numbers", .ref dn), ("states", .ref ls), ("graft", vg), ("machine", vm)])) = HA at b9 ⊢
  have hA : HA x = some (.ins CB dx [("numbers", .ref dn), ("states", .ref ls), ("graft", vg), ("machine", vm), ("names", .ref ln)]) := by
    rw [← hHA, upd_same, put_past (by decide +kernel), put_past (by decide +kernel), put_past (by decide +kernel), put_past (by decide +kernel)]
    rfl
  have SA := (S5.ex E9).tk b9.tk rfl
  -- ways
  refine fun dw hdw => ?_
  have eB : Ex HA (upd HA dw (SDic P w dw [])) := Ex.new hdw
  have nxw : x ≠ dw := fun z => by rw [z, hdw] at hA; cases hA
  refine (ev_varV (SA.ex eB) rfl) _ (Ex.refl _) _ fun HC eC => ?_
  have EC := eB.trans eC
  have hC := EC _ _ hA
  refine ⟨x, CB, dx, _, rfl, hC, T.cl, T.nW, by show 5 < 1000; decide, ?_⟩
  have bC : Bt x HC (upd HC x (.ins CB dx (putF "ways" (.ref dw) [("numbers", .ref dn), ("states", .ref ls), ("graft", vg), ("machine", vm), ("names", .ref ln)]))) := ⟨Tk.upd (fun u i z => by
      rw [hC] at z
      cases z
      exact nomatch i), fun b hb => upd_ne hb⟩
  -- all told
  have back5 : ∀ {b : Addr}, b ≠ x → H5 b = none → H b = none := fun {b} hb h => by
    have h4 : H4 b = none := by rw [← b5.bt b hb]; exact h
    have h3 := fresh_back e4 h4
    have h2 : H2 b = none := by rw [← b3.bt b hb]; exact h3
    have h1 := fresh_back e2 h2
    cases z : H0 b with
    | none => exact fx z
    | some o => rw [st1 b o hb z] at h1; cases h1
  have fln : H ln = none := back5 (Ne.symm nxn) (fresh_back e7 hln)
  have h9w : H9 dw = none := by rw [← b9.bt dw (Ne.symm nxw)]; exact hdw
  have fdw : H dw = none := back5 (Ne.symm nxw) (fresh_back E9 h9w)
  have sdn : SD P w (upd HC x (.ins CB dx (putF "ways" (.ref dw) [("numbers", .ref dn), ("states", .ref ls), ("graft", vg), ("machine", vm), ("names", .ref ln)]))) dn [] :=
    ((((((((sd1.ex e2).bt b3 (Ne.symm nxd)).ex e4).bt b5 (Ne.symm nxd)).ex E9).bt b9 (Ne.symm nxd)).ex EC).bt bC (Ne.symm nxd))
  have lls : Ls H9 ls [] := (((b5.ls (Ne.symm nxl) ((b3.ls (Ne.symm nxl) (ll1.ex e2)).ex e4)).ex E9))
  have lln : Ls H9 ln (N.map .s) := L8.ex e9
  have n1 : dn ≠ dw := fun z => by
    have := ((((((sd1.ex e2).bt b3 (Ne.symm nxd)).ex e4).bt b5 (Ne.symm nxd)).ex E9)).1
    rw [z, h9w] at this; cases this
  have n2 : ln ≠ ls := fun z => by
    have := ((b5.ls (Ne.symm nxl) ((b3.ls (Ne.symm nxl) (ll1.ex e2)).ex e4)).ex e7).some
    rw [← z, hln] at this
    exact this rfl
  have TC : Tk H5 (upd HC x (.ins CB dx (putF "ways" (.ref dw) [("numbers", .ref dn), ("states", .ref ls), ("graft", vg), ("machine", vm), ("names", .ref ln)]))) := (((Tk.ex E9).trans b9.tk).trans (Tk.ex EC)).trans bC.tk
  refine q ⟨x, dx, dn, ls, ln, dw, vg, vm⟩ N _ rfl (fx hdn) (fx hls) fdw fln (fun b o hb ho => ?_) (T5.trans TC) nd (fun y => ?_) ⟨?_, hg5.mono TC, hm5.mono TC, ?_, ⟨[], rfl, sdn, fun i e he => by simp at he⟩, ?_, ⟨[], ?_, List.nodup_nil, fun e he => nomatch he⟩, n1, n2, List.nodup_nil, Nat.zero_le _, fun s hs => nomatch hs⟩
  · rw [bC.bt b hb]
    refine EC _ _ ?_
    rw [b9.bt b hb]
    refine E9 _ _ ?_
    rw [b5.bt b hb]
    refine e4 _ _ ?_
    rw [b3.bt b hb]
    exact e2 _ _ (st1 b o hb (e0 _ _ ho))
  · rw [mem y, List.mem_map]
  · show upd HC x _ x = some (.ins CB dx [("numbers", .ref dn), ("states", .ref ls), ("graft", vg), ("machine", vm), ("names", .ref ln), ("ways", .ref dw)])
    rw [upd_same, put_past (by decide +kernel), put_past (by decide +kernel), put_past (by decide +kernel), put_past (by decide +kernel), put_past (by decide +kernel)]
    rfl
  · exact bC.ls (Ne.symm nxn) ((b9.ls (Ne.symm nxn) lln).ex EC)
  · exact bC.ls (Ne.symm nxl) ((b9.ls (Ne.symm nxl) lls).ex EC)
  · exact (SD.ex eC ⟨upd_same, fun e he => nomatch he⟩).bt bC (Ne.symm nxw)
end
end GF
set_option Elab.async false
set_option linter.all false
set_option maxRecDepth 100000
set_option maxHeartbeats 1000000
/-! Gf20: turned_way, step, mark. -/
namespace GF
open PySem L2 Evl PySem.Spec PyProof.Rows
theorem nodup_sub {S : List GSt} {l : List GSt} (nd : l.Nodup) (h : ∀ s ∈ l, s ∈ S) : l.length ≤ S.length := by
  have h1 : (l.map (ixS S)).Nodup := by
    unfold List.Nodup at nd ⊢
    rw [List.pairwise_map]
    refine List.Pairwise.imp_of_mem (fun {a b} ha hb hne => ?_) nd
    intro z
    have e1 := ix_get (h a ha)
    have e2 := ix_get (h b hb)
    rw [z, e2] at e1
    exact hne (Option.some.inj e1).symm
  have h2 := nodup_lt S.length (l.map (ixS S)) h1 fun x hx => by
    obtain ⟨s, hs, rfl⟩ := List.mem_map.mp hx
    exact ix_lt (h s hs)
  rw [List.length_map] at h2
  exact h2
theorem valW_none {E : List GE} {s : GSt} (h : valS (kvE E) (encS s) = none) : s ∉ E.map (·.1) := fun hm => by
  rw [valS_E] at h
  obtain ⟨e, he, rfl⟩ := List.mem_map.mp hm
  have := List.find?_eq_none.mp (Option.map_eq_none_iff.mp h) e he
  exact this (eqS_iff.mpr rfl)
theorem valW_some {E : List GE} {s : GSt} {v : V} (h : valS (kvE E) (encS s) = some v) : ∃ e ∈ E, e.1 = s ∧ e.2.2 = v := by
  rw [valS_E] at h
  obtain ⟨e, he, rfl⟩ := Option.map_eq_some_iff.mp h
  exact ⟨e, List.mem_of_find?_eq_some he, eqS_iff.mp (List.find?_some (p := fun e : GE => eqS e.1 s) he), rfl⟩
theorem valW_new {E : List GE} {s : GSt} {b : Addr} {v : V} (h : valS (kvE E) (encS s) = none) : valS (kvE (E ++ [(s, b, v)])) (encS s) = some v := by
  rw [valS_E] at h ⊢
  rw [List.find?_append, Option.map_eq_none_iff.mp h, List.find?_cons, eqS_iff.mpr rfl]
  rfl
structure GOkM (R : Rules) (M : Mach) (N : List Str) : Prop where
  wf : M.Wf
  rs : RulesOk 5 R
  nl : N.length ≤ 60
def spTW (P : Program) (w : World) (C : Addr) : Sp := fun vs H Q _ => ∃ g R M N S s v, vs = [.ref (GA.x g), v] ∧ GOkM R M N ∧ GH P w C H g R M N S ∧ Rp H v (encS s) ∧ s ∈ S ∧ ∀ v' H', GW g H H' → GH P w C H' g R M N S → Rp H' v' (encW (tw R M N s)) → Q v' H'
def spStep (P : Program) (w : World) (C : Addr) : Sp := fun vs H Q _ => ∃ g R M N S s t v u, vs = [.ref (GA.x g), v, u] ∧ GOkM R M N ∧ GH P w C H g R M N S ∧ Rp H v (encS s) ∧ Rp H u (encS t) ∧ s ∈ S ∧ t ∈ S ∧
  ∀ v' H', GX g H H' → GH P w C H' g R M N S → Rp H' v' (encS (stepS R M N s t)) → Q v' H'
def spMarkG (P : Program) (w : World) (C : Addr) : Sp := fun vs H Q _ => ∃ g R M N S s v, vs = [.ref (GA.x g), v] ∧ GOkM R M N ∧ GH P w C H g R M N S ∧ Rp H v (encS s) ∧ s ∈ S ∧ ∀ H', GW g H H' → GH P w C H' g R M N S → Q (.int ((markS R M N s : Nat) : Int)) H'
section
variable {P : Program} {w : World} {K : PySem.W.Frag} {mg : Str → Option Value} {base : Heap} {f fA fI fS fO fF fB fTW : Addr} {fd fdA fdI fdS fdO fdF fdB fdTW : FuncData} {CB CG CT : Addr}
abbrev nTW : List Str := ["self", "state", "number", "way", "name", "items"]
theorem scTW : FnScope nTW ["self", "state"] (defScope sTurnedWay) := ⟨rfl, rfl, rfl, by decide +kernel, rfl, by decide +kernel, by decide +kernel⟩
theorem ok_tw (B : Blt mg) (F : Fun K "turned_way" "BackGrower.turned_way" sTurnedWay f fd) (T : Txt K mg CB CG CT) (CI : Cal P w K mg base CX0 1 "items_for" ["turner", "name"] spItemsFor fI fdI) (CS : Cal P w K mg base CX0 1 "start_of" ["machine", "name"] spStartOf fS fdS)
    (CO : Cal P w K mg base CX0 1 "way_of_one" ["machine", "state"] spWayOne fO fdO) (CF : Cal P w K mg base CX0 13 "way_filled" ["machine", "items", "way"] (spWayFilled 6) fF fdF) : FnOk P w K mg base CX0 14 f fd ["self", "state"] (spTW P w CB) := by
  refine F.ok scTW (fun vs H Q E h => ?_) (fun cdv A outer s H vs Q E hr h => ?_)
  · obtain ⟨g, R, M, N, S, s, v, rfl, _⟩ := h
    rfl
  obtain ⟨g, R, M, N, S, s, v, rfl, ok, G, hv, hs, q⟩ := h
  have hr1 : Room 1 _ := hr.mono (by decide)
  have wf := ok.wf
  obtain ⟨b, xs, rfl, _, _⟩ := hv.tup
  have S0 : Sl H (L2.start nTW [.ref g.x, .ref b]) [.v (.ref g.x), .v (.ref b), .no, .no, .no, .no] := .cons rfl (.cons rfl (Sl.rep 4))
  refine ⟨_, pss_cons (ps_if (pt_cmp (pc_snotin P w (hu9 hr) (pv 1) (pe_fldK K (pv 0))))
      (pss_cons (ps_asg (pv 1) (pgTup K (n := 2) rfl (pgs_cons (pg_name (i := 2) scTW.nd rfl (Or.inl rfl)) (pgs_cons (pg_name (i := 3) scTW.nd rfl (Or.inl rfl)) pgs_nil))))
      (pss_cons (ps_set (i := 4) scTW.nd rfl (Or.inl rfl) pe_str)
      (pss_cons (ps_if (pt_cmpR op_lt (pv 2) (pe_callB (lenK K) (by rfl) B.len PySem.boot_len (pa_cons (pe_fldK K (pv 0)) pa_nil)) (nomark _)) (pss_one (ps_set (i := 4) scTW.nd rfl (Or.inl rfl) (pe_ix (ixL K) (pe_fldK K (pv 0)) (pv 2) (fun _ _ => rfl)))) pss_nil)
      (pss_cons (ps_set (i := 5) scTW.nd rfl (Or.inl rfl) (pe_cal CI hr1 (pa_cons (pe_fldK K (pv 0)) (pa_cons (pv 4) pa_nil))))
      (pss_one (ps_if (pt_cmp (pc_isN (pv 5)))
        (pss_one (ps_sput P w (hu9 hr) (pe_fldK K (pv 0)) (pv 1) (pe_cal CO hr1 (pa_cons (pe_fldK K (pv 0)) (pa_cons (pe_ix (ixT K) (pv 3) (pe_cal CS hr1 (pa_cons (pe_fldK K (pv 0)) (pa_cons (pv 4) pa_nil))) (fun _ _ => rfl)) pa_nil))) rfl))
        (pss_one (ps_sput P w (hu9 hr) (pe_fldK K (pv 0)) (pv 1) (pe_cal CF hr (pa_cons (pe_fldK K (pv 0)) (pa_cons (pv 5) (pa_cons (pv 3) pa_nil)))) rfl)))))))) pss_nil)
    (pss_one (ps_ret (pe_sget P w (hu9 hr) (pe_fldK K (pv 0)) (pv 1) (fun _ _ => rfl)))), ?_⟩
  obtain ⟨E, sd, nde, he⟩ := G.wy
  have gok := G.ok s hs
  -- the end
  have fin : ∀ {σ : L2.St} {H1 : Hp} {ss : List Sd}, GW g H H1 → GH P w CB H1 g R M N S → Sl H1 σ ss → ss[0]? = some (.v (.ref g.x)) → ss[1]? = some (.v (.ref b)) → (∃ E1 : List GE, SD P w H1 g.dw (kvE E1) ∧ (∃ v, valS (kvE E1) (encS s) = some v) ∧ ∀ e ∈ E1, e.1 ∈ S ∧ Rp H1 e.2.2 (encW (tw R M N e.1))) →
      tRet (tSGet P w (tFld K (tVar 0) "ways") (tVar 1)) { nx := fun _ H' => Q .non H', rt := Q } σ H1 := fun {σ H1 ss} x G1 S1 i0 i1 hE1 => by
    obtain ⟨E1, sd1, ⟨v1, hv1⟩, he1⟩ := hE1
    obtain ⟨e, hem, hes, hev⟩ := valW_some hv1
    refine (ev_sget (v := v1) (d := g.dw) (b := b) (ev_fld (ev_varV S1 i0) G1.ins T.cl T.nW (gF_ways g)) (ev_varV S1 i1) ⟨kvE E1, encS s, b, sd1, rfl, hv.mono x.tk, depth_encS s, hv1.symm⟩) H1 (Ex.refl H1) _ fun H2 e2 => ?_
    have r1 := (he1 e hem).2
    rw [hes, hev] at r1
    exact q v1 H2 (x.trans (GW.of e2)) (G1.ex e2) (r1.ex e2)
  have fW : ∀ {H1 : Hp} {σ : L2.St} {ss : List Sd}, Ex H H1 → Sl H1 σ ss → ss[0]? = some (.v (.ref g.x)) → Ev (tFld K (tVar 0) "ways") σ H1 (.ref g.dw) := fun e S1 i0 => ev_fld (ev_varV S1 i0) (e _ _ G.ins) T.cl T.nW (gF_ways g)
  refine q_when (et_snotin (ev_varV S0 rfl) (fW (Ex.refl H) S0 rfl) ⟨kvE E, encS s, b, sd, rfl, hv, depth_encS s, rfl⟩) (fun hb H1 e1 => ?_) (fun hb H1 e1 => ?_)
  · have hvn : valS (kvE E) (encS s) = none := by
      cases z : valS (kvE E) (encS s) with
      | none => rfl
      | some v => rw [z] at hb; cases hb
    have S1 := S0.ex e1
    refine qd_par2 (d1 := eN s.1) (d2 := encW s.2) (ed_varV S1 rfl (hv.ex e1)) fun v1 v2 H2 e2 r1 r2 => ?_
    have S2 := ((S1.ex e2).setD 2 r1).setD 3 r2
    have E2 := e1.trans e2
    refine qs_set (d := .s (("" : Str))) S2 ed_str fun σ3 H3 e3 S3 => ?_
    have E3 := E2.trans e3
    have fNm : ∀ {H1 : Hp} {σ : L2.St} {ss : List Sd}, Ex H H1 → Sl H1 σ ss → ss[0]? = some (.v (.ref g.x)) → EvR (tFld K (tVar 0) "names") σ H1 (N.map .s) := fun e S1 i0 => er_ev (ev_fld (ev_varV S1 i0) (e _ _ G.ins) T.cl T.nA (gF_names g)) (G.rn.ex e)
    have fG : ∀ {H1 : Hp} {σ : L2.St} {ss : List Sd}, Ex H H1 → Sl H1 σ ss → ss[0]? = some (.v (.ref g.x)) → EvD (tFld K (tVar 0) "graft") σ H1 (encRs R) := fun e S1 i0 => ed_ev (ev_fld (ev_varV S1 i0) (e _ _ G.ins) T.cl T.nG (gF_graft g)) fun Ha ea => G.rg.ex (e.trans ea)
    have fM : ∀ {H1 : Hp} {σ : L2.St} {ss : List Sd}, Ex H H1 → Sl H1 σ ss → ss[0]? = some (.v (.ref g.x)) → EvD (tFld K (tVar 0) "machine") σ H1 (encM M) := fun e S1 i0 => ed_ev (ev_fld (ev_varV S1 i0) (e _ _ G.ins) T.cl T.nM (gF_machine g)) fun Ha ea => G.rm.ex (e.trans ea)
    refine qs_ifset (d := .s (nmOf N s.1)) S3 (et_ed (ed_cmp0 (ed_var S3 rfl) (ed_lenL (fNm E3 S3 rfl)))) (fun hb3 => ?_) (fun hb3 => ?_) fun σ4 H4 e4 S4 => ?_
    · have hlt : s.1 < N.length := by
        have := of_decide_eq_true hb3
        rw [List.length_map] at this
        omega
      refine ed_ixL (fNm E3 S3 rfl) (ed_var S3 rfl) (atI_nat ?_)
      rw [List.getElem?_map, get_lt (("" : Str)) hlt]
      unfold nmOf
      rw [if_pos hlt]
      rfl
    · have hlt : ¬ s.1 < N.length := by
        have := of_decide_eq_false hb3
        rw [List.length_map] at this
        omega
      unfold nmOf
      rw [if_neg hlt]
      rfl
    have E4 := E3.trans e4
    refine qs_set (d := encO (ruleFor R (nmOf N s.1))) S4 (ed_call (R, nmOf N s.1) (ad_d (fG E4 S4 rfl) (ad_d (ed_var S4 rfl) ad_nil)) trivial) fun σ5 H5 e5 S5 => ?_
    have E5 := E4.trans e5
    have hElen : E.length ≤ 64 := by
      have h1 := nodup_sub nde (S := S) fun t ht => by
        obtain ⟨e, hee, rfl⟩ := List.mem_map.mp ht
        exact (he e hee).1
      rw [List.length_map] at h1
      exact Nat.le_trans h1 G.len
    -- what a put comes to
    have put : ∀ {Ha Hb : Hp} {v : V} {te : TE}, Ex H5 Ha → Ex Ha Ha → Bt g.dw Ha Hb → Rp Ha v (encW (tw R M N s)) → SD P w Hb g.dw (kvE E ++ [(encS s, b, v)]) → tRet (tSGet P w (tFld K (tVar 0) "ways") (tVar 1)) { nx := fun _ H' => Q .non H', rt := Q } σ5 Hb := fun {Ha Hb v te} ea _ bt rv sdb => by
      have EA := E5.trans ea
      have GA' := G.ex EA
      have iA := GA'.ins
      have dA := (sd.ex EA).1
      have nx : g.x ≠ g.dw := fun z => by rw [z, dA] at iA; cases iA
      have nl : g.ln ≠ g.dw := fun z => by
        obtain ⟨_, h1, _⟩ := GA'.rn
        rw [z, dA] at h1; cases h1
      have ns : g.ls ≠ g.dw := fun z => by
        obtain ⟨_, h1, _⟩ := GA'.ss
        rw [z, dA] at h1; cases h1
      have ek : kvE (E ++ [(s, b, v)]) = kvE E ++ [(encS s, b, v)] := by unfold kvE; rw [List.map_append]; rfl
      obtain ⟨En, n1, n2, n3⟩ := GA'.nu
      have hall : ∀ e ∈ E ++ [(s, b, v)], e.1 ∈ S ∧ Rp Hb e.2.2 (encW (tw R M N e.1)) := fun e hee => by
        rcases List.mem_append.mp hee with h | h
        · exact ⟨(he e h).1, (((he e h).2).ex EA).mono bt.tk⟩
        · rw [List.mem_singleton.mp h]
          exact ⟨hs, rv.mono bt.tk⟩
      have GB : GH P w CB Hb g R M N S := ⟨by rw [bt.bt _ nx]; exact iA, GA'.rg.mono bt.tk, GA'.rm.mono bt.tk, bt.ls nl GA'.rn, ⟨En, n1, n2.bt bt G.n1, n3⟩, bt.ls ns GA'.ss, ⟨E ++ [(s, b, v)], by rw [ek]; exact sdb, by
        rw [List.map_append, List.nodup_append]
        exact ⟨nde, by simp, fun x hx y hy => by
          rw [List.mem_singleton.mp hy]
          exact fun z => by
            have z' : x = s := z
            exact valW_none hvn (z' ▸ hx)⟩, hall⟩, G.n1, G.n2, G.nd, G.len, G.ok⟩
      exact fin ((GW.of EA).trans ⟨fun c o h3 h => by rw [bt.bt c h3]; exact h, bt.tk⟩) GB ((S5.ex ea).tk bt.tk rfl) rfl rfl ⟨E ++ [(s, b, v)], by rw [ek]; exact sdb, ⟨v, valW_new hvn⟩, hall⟩
    have kz : (kvE E).length < 1000 := by unfold kvE; rw [List.length_map]; omega
    have sput : ∀ {Ha : Hp} {te : TE}, Ex H5 Ha → EvD te σ5 Ha (encW (tw R M N s)) → sSPut P w (tFld K (tVar 0) "ways") (tVar 1) te { nx := tRet (tSGet P w (tFld K (tVar 0) "ways") (tVar 1)) { nx := fun _ H' => Q .non H', rt := Q }, rt := Q } σ5 Ha := fun {Ha te} ea h => by
      refine h Ha (Ex.refl Ha) _ fun v Hb eb rv => ?_
      have EB := (E5.trans ea).trans eb
      have Sb := (S5.ex ea).ex eb
      refine (fW EB Sb rfl) Hb (Ex.refl Hb) _ fun Hc ec => (ev_varV (Sb.ex ec) rfl) Hc (Ex.refl Hc) _ fun Hd ed => ?_
      have EC := (EB.trans ec).trans ed
      have s3 := sd.ex EC
      have r3 := hv.ex EC
      have b3 : Bt g.dw Hd (upd Hd g.dw (SDic P w g.dw (kvE E ++ [(encS s, b, v)]))) := ⟨Tk.upd (fun u i z => by
        rw [s3.1] at z
        cases z
        exact nomatch i), fun c hc => upd_ne hc⟩
      refine ⟨g.dw, kvE E, encS s, b, rfl, rfl, s3, r3, depth_encS s, hvn, kz, put (te := te) (((ea.trans eb).trans ec).trans ed) (Ex.refl _) b3 ((rv.ex ec).ex ed) ⟨upd_same, fun e hee => ?_⟩⟩
      rcases List.mem_append.mp hee with h | h
      · exact ⟨(s3.2 e h).1.mono b3.tk, (s3.2 e h).2⟩
      · rw [List.mem_singleton.mp h]
        exact ⟨r3.mono b3.tk, depth_encS s⟩
    refine s_if (et_isN (ed_var S5 rfl)) (fun hb6 H6 e6 => ?_) (fun hb6 H6 e6 => ?_)
    · have hnone : ruleFor R (nmOf N s.1) = none := by
        cases z : ruleFor R (nmOf N s.1) with
        | none => rfl
        | some its => rw [z] at hb6; cases hb6
      have hst := stOf_lt wf (nmOf N s.1)
      have S6 := S5.ex e6
      have E6 := E5.trans e6
      have htw : tw R M N s = wOne M (s.2.m.getD (stOf M (nmOf N s.1)) 0) := by unfold tw; rw [hnone]
      refine sput e6 (ed_is (ed_call (M, s.2.m.getD (stOf M (nmOf N s.1)) 0) (ad_d (fM E6 S6 rfl) (ad_d (ed_ixT (k := ((stOf M (nmOf N s.1) : Nat) : Int)) (ed_var S6 rfl) (ed_call (M, nmOf N s.1) (ad_d (fM E6 S6 rfl) (ad_d (ed_var S6 rfl) ad_nil)) wf) (at_encW gok.w hst)) ad_nil)) ⟨wf, way_get_lt gok.w hst⟩) (by rw [htw]))
    · obtain ⟨its, hits⟩ : ∃ its, ruleFor R (nmOf N s.1) = some its := by
        cases z : ruleFor R (nmOf N s.1) with
        | none => rw [z] at hb6; cases hb6
        | some its => exact ⟨its, rfl⟩
      have S6 := S5.ex e6
      have E6 := E5.trans e6
      have htw : tw R M N s = wFil M its s.2 := by unfold tw; rw [hits]
      have h5 : deps its ≤ 5 := ok.rs.2.2 _ (ruleFor_mem hits)
      refine sput e6 (ed_is (ed_call (M, its, s.2) (ad_d (fM E6 S6 rfl) (ad_d (ed_is (ed_var S6 rfl) (by rw [hits]; rfl)) (ad_d (ed_var S6 rfl) ad_nil))) ⟨wf, gok.w, by show deps its < 6; omega⟩) (by rw [htw]))
  · have hvs : ∃ v, valS (kvE E) (encS s) = some v := by
      cases z : valS (kvE E) (encS s) with
      | some v => exact ⟨v, rfl⟩
      | none => rw [z] at hb; cases hb
    exact fin (GW.of e1) (G.ex e1) (S0.ex e1) rfl rfl ⟨E, sd.ex e1, hvs, fun e hee => ⟨(he e hee).1, (he e hee).2.ex e1⟩⟩
end
end GF
set_option Elab.async false
set_option linter.all false
set_option maxRecDepth 100000
set_option maxHeartbeats 1000000
/-! Gf21: step, mark. -/
namespace GF
open PySem L2 Evl PySem.Spec PyProof.Rows
section
variable {P : Program} {w : World} {K : PySem.W.Frag} {mg : Str → Option Value} {base : Heap} {f fA fI fS fO fF fB fTW : Addr} {fd fdA fdI fdS fdO fdF fdB fdTW : FuncData} {CB CG CT : Addr}
theorem cons_intro {ta : TE} {tr : TA} {σ : L2.St} {H : Hp} {Q : List V → Hp → Prop} (h : ta σ H fun x H1 => tr σ H1 fun xs H2 => Q (x :: xs) H2) : tCons ta tr σ H Q := h
theorem op_intro {r : R2} {ta tb : TE} {σ : L2.St} {H : Hp} {Q : VK} (h : ta σ H fun x H1 => tb σ H1 fun y H2 => r x y H2 Q) : tOp r ta tb σ H Q := h
theorem asg_intro {te : TE} {i : Nat} {tz : TS} {D : Ends} {σ : L2.St} {H : Hp} (h : te σ H fun v H1 => tz D (σ.set i (some v)) H1) : tSeq (tAsg te (gName i)) tz D σ H := h
theorem call_intro {sp : Sp} {E : XK} {ta : TA} {σ : L2.St} {H : Hp} {Q : VK} (h : ta σ H fun vs H1 => sp (vs ++ []) H1 Q E) : tCall sp [] E ta σ H Q := h
theorem meth_intro {C : Addr} {m : Str} {sp : Sp} {E : XK} {ta : TE} {t : TA} {σ : L2.St} {H : Hp} {Q : VK} {x dx : Addr} {fs : List (Str × V)} (ha : Ev ta σ H (.ref x)) (hx : H x = some (.ins C dx fs)) (hl : fs.lookup m = none) (h : ∀ H1, Ex H H1 → t σ H1 fun vs H2 => sp (.ref x :: (vs ++ [])) H2 Q E) : tMeth C m sp [] E ta t σ H Q :=
  ha H (Ex.refl H) _ fun H1 e => ⟨x, dx, fs, rfl, e _ _ hx, hl, h H1 e⟩
theorem tw_call (T : Txt K mg CB CG CT) {g : GA} {R : Rules} {M : Mach} {N : List Str} {S : List GSt} {t : GSt} {u : V} {ta tb : TE} {σ : L2.St} {H : Hp} (ok : GOkM R M N) (G : GH P w CB H g R M N S) (ha : Ev ta σ H (.ref g.x)) (hb : Ev tb σ H u) (hu : Rp H u (encS t)) (ht : t ∈ S) (Q : VK)
    (q : ∀ v H', GW g H H' → GH P w CB H' g R M N S → Rp H' v (encW (tw R M N t)) → Q v H') : tMeth CB "turned_way" (spTW P w CB) [] E0 ta (tCons tb tNil) σ H Q :=
  meth_intro ha G.ins (gF_no g (by decide +kernel) (by decide +kernel) (by decide +kernel) (by decide +kernel) (by decide +kernel) (by decide +kernel)) fun H1 e1 => cons_intro (hb H1 e1 _ fun H2 e2 =>
    ⟨g, R, M, N, S, t, u, rfl, ok, G.ex (e1.trans e2), hu.ex (e1.trans e2), ht, fun v H' x G' r => q v H' ((GW.of (e1.trans e2)).trans x) G' r⟩)
theorem scStep : FnScope ["self", "one", "other"] ["self", "one", "other"] (defScope sStep) := ⟨rfl, rfl, rfl, by decide +kernel, rfl, by decide +kernel, by decide +kernel⟩
theorem ok_step (F : Fun K "step" "BackGrower.step" sStep f fd) (T : Txt K mg CB CG CT) (CBe : Cal P w K mg base CX0 1 "way_behind" ["way", "other"] spWayBehind fB fdB) (MT : MCal P w K mg base CX0 14 CB "turned_way" ["self", "state"] (spTW P w CB) fTW fdTW) :
    FnOk P w K mg base CX0 15 f fd ["self", "one", "other"] (spStep P w CB) := by
  refine F.ok scStep (fun vs H Q E h => ?_) (fun cdv A outer s H vs Q E hr h => ?_)
  · obtain ⟨g, R, M, N, S, s, t, v, u, rfl, _⟩ := h
    rfl
  obtain ⟨g, R, M, N, S, s, t, v, u, rfl, ok, G, hv, hu, hs, ht, q⟩ := h
  have hr1 : Room 1 _ := hr.mono (by decide)
  have wf := ok.wf
  have S0 : Sl H (L2.start ["self", "one", "other"] [.ref g.x, v, u]) [.v (.ref g.x), .d (encS s), .v u] := .cons rfl (.cons ⟨_, rfl, hv⟩ (.cons rfl .nil))
  refine ⟨_, pss_one (ps_ret (pe_tup (pa_cons (pe_ix (ixT K) (pv 1) pe_int (fun _ _ => rfl)) (pa_cons (pe_cal CBe hr1 (pa_cons (pe_ix (ixT K) (pv 1) pe_int (fun _ _ => rfl)) (pa_cons (pe_meth (pv 0) T.cl MT.me MT.ok hr MT.bd .nil pass0 (pa_cons (pv 2) pa_nil)) pa_nil))) pa_nil)))), ?_⟩
  unfold tRet tTup
  refine (ed_ixT (d := eN s.1) (ed_var S0 rfl) ed_int rfl) H (Ex.refl H) _ fun v0 H1 e1 r0 => ?_
  have S1 := S0.ex e1
  refine (ed_ixT (d := encW s.2) (ed_var S1 rfl) ed_int rfl) H1 (Ex.refl H1) _ fun v1 H2 e2 r1 => ?_
  have S2 := S1.ex e2
  have E2 := e1.trans e2
  refine cons_intro (tw_call (t := t) T ok (G.ex E2) (ev_varV S2 rfl) (ev_varV S2 rfl) (hu.ex E2) ht _ fun v2 H5 x5 G5 r2 => ?_)
  have r1' : Rp H5 v1 (encW s.2) := r1.mono x5.tk
  have ads : Ads H5 ([v1, v2] ++ []) [.d (encW s.2), .d (encW (tw R M N t))] := .cons ⟨v1, rfl, r1'⟩ (.cons ⟨v2, rfl, r2⟩ .nil)
  refine ⟨(M.steps.length, s.2, tw R M N t), ads, ⟨(G.ok s hs).w, tw_ok wf (G.ok t ht), wf.few⟩, fun v3 H6 e6 r3 => ?_⟩
  refine ⟨by show 2 ≤ sizeLine; decide, fun p hp => ?_⟩
  have ep : Ex H5 (upd H6 p (.tup [v0, v3])) := e6.trans (Ex.new hp)
  refine q _ _ ((GX.of E2).trans (x5.gx.trans (GX.of ep))) (G5.ex ep) (.t upd_same (.cons ?_ (.cons (r3.ex (Ex.new hp)) .nil)))
  exact ((r0.ex e2).mono x5.tk).ex ep
theorem scMarkG : FnScope ["self", "state", "last"] ["self", "state"] (defScope sMark) := ⟨rfl, rfl, rfl, by decide +kernel, rfl, by decide +kernel, by decide +kernel⟩
theorem ok_markG (F : Fun K "mark" "BackGrower.mark" sMark f fd) (T : Txt K mg CB CG CT) (MT : MCal P w K mg base CX0 14 CB "turned_way" ["self", "state"] (spTW P w CB) fTW fdTW) : FnOk P w K mg base CX0 15 f fd ["self", "state"] (spMarkG P w CB) := by
  refine F.ok scMarkG (fun vs H Q E h => ?_) (fun cdv A outer s H vs Q E hr h => ?_)
  · obtain ⟨g, R, M, N, S, s, v, rfl, _⟩ := h
    rfl
  obtain ⟨g, R, M, N, S, s, v, rfl, ok, G, hv, hs, q⟩ := h
  have wf := ok.wf
  have S0 : Sl H (L2.start ["self", "state", "last"] [.ref g.x, v]) [.v (.ref g.x), .v v, .no] := .cons rfl (.cons rfl (.cons trivial .nil))
  refine ⟨_, pss_cons (ps_set (i := 2) scMarkG.nd rfl (Or.inl rfl) (pe_ix (ixT K) (pe_meth (pv 0) T.cl MT.me MT.ok hr MT.bd .nil pass0 (pa_cons (pv 1) pa_nil)) (pe_un un_neg pe_int) (fun _ _ => rfl)))
    (pss_cons (ps_if (pt_cmpR op_lt (pv 2) pe_int (nomark _)) (pss_one (ps_ret pe_int)) pss_nil)
    (pss_one (ps_ret (pe_ix (ixT K) (pe_ix (ixT K) (pe_fldK K (pv 0)) pe_int (fun _ _ => rfl)) (pv 2) (fun _ _ => rfl))))), ?_⟩
  refine asg_intro (op_intro (tw_call (t := s) T ok G (ev_varV S0 rfl) (ev_varV S0 rfl) hv hs _ fun v2 H5 x5 G5 r2 => ?_))
  have S5 : Sl H5 (L2.start ["self", "state", "last"] [.ref g.x, v]) [.v (.ref g.x), .v v, .no] := S0.tk x5.tk rfl
  refine (ed_neg ed_int : EvD _ _ H5 (.i (-1))) H5 (Ex.refl H5) _ fun v3 H6 e6 r3 => ?_
  rw [r3.int]
  obtain ⟨a, ys, rfl, h1, h2⟩ := (r2.ex e6).tup
  obtain ⟨y, hy, ry⟩ := h2.atI (k := -1) at_last
  refine ⟨a, ys, -1, y, rfl, rfl, st_of h1, hy, ?_⟩
  have S6 := (S5.ex e6).setD 2 ry
  have X6 := x5.trans (GW.of e6)
  have G6 := G5.ex e6
  have tok := tw_ok (R := R) wf (G.ok s hs)
  have tok2 := tok.la
  refine q_when (et_ed (ed_cmp0 (ed_var S6 rfl) ed_int)) (fun hb H7 e7 => ?_) (fun hb H7 e7 => ?_)
  · have hneg : (tw R M N s).last < 0 := of_decide_eq_true hb
    refine sd_ret (d := .i 0) ed_int fun v H8 e8 r => ?_
    have hm : markS R M N s = 0 := by unfold markS; rw [if_pos hneg]
    rw [r.int]
    have := q H8 (X6.trans (GW.of (e7.trans e8))) (G6.ex (e7.trans e8))
    rw [hm] at this
    exact this
  · have hneg : ¬ (tw R M N s).last < 0 := of_decide_eq_false hb
    have hlt : (tw R M N s).last.toNat < M.steps.length := by omega
    have hm : markS R M N s = M.marks.getD (tw R M N s).last.toNat 0 := by unfold markS; rw [if_neg hneg]
    have S7 := S6.ex e7
    refine sd_ret (d := eN (markS R M N s)) (ed_ixT (k := (((tw R M N s).last.toNat : Nat) : Int)) (ed_ixT (ds := [.t (M.forms.map .s), .f (M.names.map .s), .t (M.starts.map eN), .t (M.steps.map fun r => .t (r.map eN)), .t (M.marks.map eN)]) (d := .t (M.marks.map eN)) (ed_ev (ev_fld (ev_varV S7 rfl) (G6.ex e7).ins T.cl T.nM (gF_machine g)) fun Ha ea => (G6.rm.ex e7).ex ea) ed_int rfl) (ed_is (ed_var S7 rfl) ?_) ?_) fun v H8 e8 r => ?_
    · show Dt.i _ = Dt.i _
      congr 1
      omega
    · rw [hm]
      exact at_eN (get_lt 0 (by rw [wf.ml]; exact hlt))
    · rw [r.int]
      exact q H8 (X6.trans (GW.of (e7.trans e8))) (G6.ex (e7.trans e8))
end
end GF
set_option Elab.async false
set_option linter.all false
set_option maxRecDepth 100000
set_option maxHeartbeats 1000000
/-! Gf22: growing, plainly; tables. -/
namespace GF
open PySem L2 Evl PySem.Spec PyProof.Rows
abbrev dS : GSt := (0, ⟨[], 0⟩)
abbrev gS (S : List GSt) (a : Nat) : GSt := S.getD a dS
abbrev FS := GSt → GSt → GSt
theorem num_pre {S S' : List GSt} {s : GSt} (h : num S s = some S') : ∃ r, S' = S ++ r := by
  rw [num_add h]
  exact addS_pre S s
theorem num_mem {S S' : List GSt} {s : GSt} (h : num S s = some S') : s ∈ S' := by
  rw [num_add h]
  exact addS_mem
def rowM (f : FS) (p : Nat) : Nat → List GSt → Option (List GSt)
  | 0, S => some S
  | q + 1, S => (rowM f p q S).bind fun S1 => (num S1 (f (gS S1 p) (gS S1 q))).bind fun S2 => num S2 (f (gS S2 q) (gS S2 p))
def allM (f : FS) : Nat → List GSt → Option (List GSt)
  | 0, S => some S
  | p + 1, S => (allM f p S).bind fun S1 => rowM f p (p + 1) S1
theorem rowM_pre {f : FS} {p : Nat} : ∀ {q : Nat} {S S' : List GSt}, rowM f p q S = some S' → ∃ r, S' = S ++ r
  | 0, S, S', h => by
    cases h
    exact ⟨[], (List.append_nil _).symm⟩
  | q + 1, S, S', h => by
    rw [rowM] at h
    obtain ⟨S1, h1, h⟩ := Option.bind_eq_some_iff.mp h
    obtain ⟨S2, h2, h3⟩ := Option.bind_eq_some_iff.mp h
    obtain ⟨r1, rfl⟩ := rowM_pre h1
    obtain ⟨r2, rfl⟩ := num_pre h2
    obtain ⟨r3, rfl⟩ := num_pre h3
    exact ⟨r1 ++ r2 ++ r3, by simp only [List.append_assoc]⟩
theorem allM_pre {f : FS} : ∀ {p : Nat} {S S' : List GSt}, allM f p S = some S' → ∃ r, S' = S ++ r
  | 0, S, S', h => by
    cases h
    exact ⟨[], (List.append_nil _).symm⟩
  | p + 1, S, S', h => by
    rw [allM] at h
    obtain ⟨S1, h1, h⟩ := Option.bind_eq_some_iff.mp h
    obtain ⟨r1, rfl⟩ := allM_pre h1
    obtain ⟨r2, rfl⟩ := rowM_pre h
    exact ⟨r1 ++ r2, by simp only [List.append_assoc]⟩
theorem gS_app {S : List GSt} (r : List GSt) {a : Nat} (h : a < S.length) : gS (S ++ r) a = gS S a := by
  unfold gS
  rw [List.getD_eq_getElem?_getD, List.getD_eq_getElem?_getD, List.getElem?_append_left h]
theorem gS_mem {S : List GSt} {a : Nat} (h : a < S.length) : gS S a ∈ S := getD_mem dS h
abbrev keyP (a b : Nat) : List Key := [Sum.inl (a : Int), Sum.inl (b : Int)]
theorem keyP_inj {a b c d : Nat} (h : keyP a b = keyP c d) : a = c ∧ b = d := by
  have h1 := List.cons.inj h
  have h2 := List.cons.inj h1.2
  have h3 := Sum.inl.inj h1.1
  have h4 := Sum.inl.inj h2.1
  exact ⟨Int.ofNat.inj h3, Int.ofNat.inj h4⟩
/-- what the table of steps holds -/
def DI (f : FS) (kvs : List (List Key × V)) (S : List GSt) (Pc : Nat → Nat → Prop) : Prop := ∀ a b, Pc a b → a < S.length ∧ b < S.length ∧ f (gS S a) (gS S b) ∈ S ∧ valV kvs (keyP a b) = some (.int ((ixS S (f (gS S a) (gS S b)) : Nat) : Int))
theorem DI.app {f : FS} {kvs : List (List Key × V)} {S : List GSt} {Pc : Nat → Nat → Prop} (h : DI f kvs S Pc) (r : List GSt) : DI f kvs (S ++ r) Pc := fun a b p => by
  obtain ⟨h1, h2, h3, h4⟩ := h a b p
  rw [gS_app r h1, gS_app r h2, ix_app h3, List.length_append]
  exact ⟨by omega, by omega, List.mem_append_left _ h3, h4⟩
theorem DI.put {f : FS} {kvs : List (List Key × V)} {S : List GSt} {Pc Pc' : Nat → Nat → Prop} {a0 b0 : Nat} (h : DI f kvs S Pc) (h1 : a0 < S.length) (h2 : b0 < S.length) (h3 : f (gS S a0) (gS S b0) ∈ S) (hp : ∀ a b, Pc' a b → Pc a b ∨ (a = a0 ∧ b = b0)) :
    DI f (putK kvs (keyP a0 b0) (.int ((ixS S (f (gS S a0) (gS S b0)) : Nat) : Int))) S Pc' := fun a b p => by
  rw [valV_put]
  by_cases e : keyP a b = keyP a0 b0
  · obtain ⟨rfl, rfl⟩ := keyP_inj e
    rw [if_pos rfl]
    exact ⟨h1, h2, h3, rfl⟩
  · rw [if_neg e]
    rcases hp a b p with q | ⟨rfl, rfl⟩
    · exact h a b q
    · exact absurd rfl e
def nums (S : List GSt) (l : List GSt) : List GSt := l.foldl addS S
theorem nums_snoc (S l : List GSt) (s : GSt) : nums S (l ++ [s]) = addS (nums S l) s := by unfold nums; rw [List.foldl_append]; rfl
theorem nums_len : ∀ (l S : List GSt), (nums S l).length ≤ S.length + l.length
  | [], S => Nat.le_refl _
  | s :: l, S => by
    have h := nums_len l (addS S s)
    have h2 : (addS S s).length ≤ S.length + 1 := by
      unfold addS
      split
      · omega
      · rw [List.length_append]; exact Nat.le_refl _
    show (nums (addS S s) l).length ≤ _
    rw [List.length_cons]
    omega
theorem nums_mem {S l : List GSt} : ∀ s ∈ l, s ∈ nums S l := by
  induction l generalizing S with
  | nil => intro s hs; cases hs
  | cons t l ih =>
    intro s hs
    show s ∈ nums (addS S t) l
    rcases List.mem_cons.mp hs with rfl | h
    · have hk : ∀ (l S : List GSt), s ∈ S → s ∈ nums S l := by
        intro l
        induction l with
        | nil => intro S h; exact h
        | cons u l ih => intro S h; exact ih _ (addS_sub h)
      exact hk l _ addS_mem
    · exact ih s h
/-- the end of the growing -/
structure Fin2 (f : FS) (S0 : List GSt) (S : List GSt) (p : Nat) : Prop where
  at_ : allM f p S0 = some S
  le : S.length ≤ p
  lt : ∀ p' S', p' < p → allM f p' S0 = some S' → p' < S'.length
theorem Fin2.one {f : FS} {S0 S S' : List GSt} {p p' : Nat} (h : Fin2 f S0 S p) (h' : Fin2 f S0 S' p') : S = S' := by
  rcases Nat.lt_trichotomy p p' with e | e | e
  · have := h'.lt p S e h.at_
    have := h.le
    omega
  · subst e
    exact Option.some.inj (h.at_.symm.trans h'.at_)
  · have := h.lt p' S' e h'.at_
    have := h'.le
    omega
def spTables (P : Program) (w : World) (C CT : Addr) : Sp := fun vs H Q E => ∃ g R M N l sts, vs = [.ref (GA.x g), .ref l] ∧ GOkM R M N ∧ GH P w C H g R M N [] ∧ Ls H l (sts.map encS) ∧ l ≠ g.ls ∧ (∀ s ∈ sts, GOk M N s) ∧ sts.length ≤ 60 ∧ (∀ H', E (.ref CT) none H') ∧
  ∀ S p v H', GX g H H' → GH P w C H' g R M N S → Fin2 (stepS R M N) (nums [] sts) S p → (∀ a b, a < S.length → b < S.length → stepS R M N (gS S a) (gS S b) ∈ S) → (∀ s ∈ sts, s ∈ S) →
    Rp H' v (.t [.t (sts.map fun s => eN (ixS S s)), .t ((List.range S.length).map fun a => Dt.t ((List.range S.length).map fun b => eN (ixS S (stepS R M N (gS S a) (gS S b)))))]) → Q v H'
section
variable {P : Program} {w : World} {K : PySem.W.Frag} {mg : Str → Option Value} {base : Heap} {f fA fI fS fO fF fB fN fP : Addr} {fd fdA fdI fdS fdO fdF fdB fdN fdP : FuncData} {CB CG CT : Addr}

theorem gx_ne {g : GA} {R : Rules} {M : Mach} {N : List Str} {S : List GSt} {H : Hp} (G : GH P w CB H g R M N S) {a : Addr} (h : H a = none) : g.x ≠ a ∧ g.ln ≠ a ∧ g.dn ≠ a ∧ g.ls ≠ a ∧ g.dw ≠ a := by
  obtain ⟨E1, _, s1, _⟩ := G.nu
  obtain ⟨E2, s2, _⟩ := G.wy
  exact ⟨fun z => (by have := G.ins; rw [z, h] at this; cases this), fun z => G.rn.some (z ▸ h), fun z => (by have := s1.1; rw [z, h] at this; cases this), fun z => G.ss.some (z ▸ h), fun z => (by have := s2.1; rw [z, h] at this; cases this)⟩
/-- self.number(self.step(self.states[a], self.states[b])) -/
theorem num_step (T : Txt K mg CB CG CT) {g : GA} {R : Rules} {M : Mach} {N : List Str} {S : List GSt} {a b : Nat} {t0 ta tb : TE} {σ : L2.St} {H : Hp} {E : XK} (ok : GOkM R M N) (G : GH P w CB H g R M N S) (h0 : Ev t0 σ H (.ref g.x)) (ha : EvD ta σ H (eN a)) (hb : EvD tb σ H (eN b))
    (la : a < S.length) (lb : b < S.length) (hE : ∀ H', E (.ref CT) none H') (Q : VK) (q : ∀ S' H', num S (stepS R M N (gS S a) (gS S b)) = some S' → GX g H H' → GH P w CB H' g R M N S' → Q (.int ((ixS S' (stepS R M N (gS S a) (gS S b)) : Nat) : Int)) H') :
    tMeth CB "number" (spNum P w CB CT) [] E t0 (tCons (tMeth CB "step" (spStep P w CB) [] E0 t0 (tCons (tOp (rIxL K) (tFld K t0 "states") ta) (tCons (tOp (rIxL K) (tFld K t0 "states") tb) tNil))) tNil) σ H Q := by
  refine meth_intro h0 G.ins (gF_no g (by decide +kernel) (by decide +kernel) (by decide +kernel) (by decide +kernel) (by decide +kernel) (by decide +kernel)) fun H1 e1 => cons_intro ?_
  refine meth_intro (fun H2 e2 => h0 H2 (e1.trans e2)) (G.ex e1).ins (gF_no g (by decide +kernel) (by decide +kernel) (by decide +kernel) (by decide +kernel) (by decide +kernel) (by decide +kernel)) fun H2 e2 => ?_
  have E2 := e1.trans e2
  have fS : EvR (tFld K t0 "states") σ H (S.map encS) := er_ev (ev_fld h0 G.ins T.cl T.nS (gF_states g)) G.ss
  have gat : ∀ {c : Nat}, c < S.length → atI (S.map encS) (c : Int) = some (encS (gS S c)) := fun hc => atI_nat (by rw [List.getElem?_map, get_lt dS hc]; rfl)
  refine cons_intro ((ed_ixL fS ha (gat la)) H2 E2 _ fun v H3 e3 rv => cons_intro ((ed_ixL fS hb (gat lb)) H3 (E2.trans e3) _ fun u H4 e4 ru => ?_))
  have E4 := (E2.trans e3).trans e4
  refine ⟨g, R, M, N, S, gS S a, gS S b, v, u, rfl, ok, G.ex E4, rv.ex e4, ru, gS_mem la, gS_mem lb, fun v' H5 x5 G5 r5 => ?_⟩
  refine ⟨g, R, M, N, S, stepS R M N (gS S a) (gS S b), v', rfl, G5, r5, stepS_ok ok.wf (G.ok _ (gS_mem la)) (G.ok _ (gS_mem lb)), fun _ => hE, fun S' hn H6 x6 G6 => q S' H6 hn ((GX.of E4).trans (x5.trans x6)) G6⟩
/-- steps[a, b] = .. -/
theorem dput_step (T : Txt K mg CB CG CT) {g : GA} {R : Rules} {M : Mach} {N : List Str} {S : List GSt} {a b i j sd : Nat} {σ : L2.St} {H : Hp} {E : XK} {D : Ends} {ss : List Sd} {kvs : List (List Key × V)} (ok : GOkM R M N) (G : GH P w CB H g R M N S) (Sl0 : Sl H σ ss) (nl : ss.all Sd.noL = true)
    (i0 : ss[0]? = some (.v (.ref g.x))) (i3 : ss[3]? = some (.v (.ref sd))) (ii : ss[i]? = some (.d (eN a))) (ij : ss[j]? = some (.d (eN b))) (hd : H sd = some (.dT kvs)) (hz : kvs.length < 100000) (la : a < S.length) (lb : b < S.length) (hE : ∀ H', E (.ref CT) none H')
    (k : ∀ S' H1 H2, num S (stepS R M N (gS S a) (gS S b)) = some S' → GX g H H1 → Bt sd H1 H2 → GH P w CB H2 g R M N S' → H2 sd = some (.dT (putK kvs (keyP a b) (.int ((ixS S' (stepS R M N (gS S a) (gS S b)) : Nat) : Int)))) → Sl H2 σ ss → D.nx σ H2) :
    sDPut (tVar 3) (tTup (tCons (tVar i) (tCons (tVar j) tNil))) (tMeth CB "number" (spNum P w CB CT) [] E (tVar 0) (tCons (tMeth CB "step" (spStep P w CB) [] E0 (tVar 0) (tCons (tOp (rIxL K) (tFld K (tVar 0) "states") (tVar i)) (tCons (tOp (rIxL K) (tFld K (tVar 0) "states") (tVar j)) tNil))) tNil)) D σ H := by
  refine num_step T ok G (ev_varV Sl0 i0) (ed_var Sl0 ii) (ed_var Sl0 ij) la lb hE _ fun S' H1 hn x1 G1 => ?_
  have S1 := Sl0.tk x1.tk nl
  obtain ⟨E1, _, s1, _⟩ := G.nu
  obtain ⟨E2, s2, _⟩ := G.wy
  have n1 : sd ≠ g.dn := fun z => by
    have := s1.1
    rw [← z, hd] at this; cases this
  have n2 : sd ≠ g.ls := fun z => by
    obtain ⟨_, h, _⟩ := G.ss
    rw [← z, hd] at h; cases h
  have n3 : sd ≠ g.dw := fun z => by
    have := s2.1
    rw [← z, hd] at this; cases this
  have hd1 := x1.st sd _ n1 n2 n3 hd
  refine (ev_varV S1 i3) H1 (Ex.refl H1) _ fun H2 e2 => ?_
  unfold tTup
  refine cons_intro ((ev_int (ed_var (S1.ex e2) ii)) H2 (Ex.refl H2) _ fun H3 e3 => cons_intro ((ev_int (ed_var ((S1.ex e2).ex e3) ij)) H3 (Ex.refl H3) _ fun H4 e4 => ?_))
  refine ⟨by show 2 ≤ sizeLine; decide, fun kp hkp => ?_⟩
  have e5 : Ex H1 (upd H4 kp (.tup [.int (a : Int), .int (b : Int)])) := ((e2.trans e3).trans e4).trans (Ex.new hkp)
  have hd5 := e5 _ _ hd1
  refine ⟨sd, _, rfl, DPut.t (k := keyP a b) hd5 upd_same (sz_lt hz), ?_⟩
  have b6 : Bt sd (upd H4 kp (.tup [.int (a : Int), .int (b : Int)])) (upd (upd H4 kp (.tup [.int (a : Int), .int (b : Int)])) sd (.dT (putK kvs (keyP a b) (.int ((ixS S' (stepS R M N (gS S a) (gS S b)) : Nat) : Int))))) := ⟨Tk.upd (fun u i z => by
    rw [hd5] at z
    cases z
    exact nomatch i), fun c hc => upd_ne hc⟩
  have n4 : g.x ≠ sd := fun z => by have := G.ins; rw [z, hd] at this; cases this
  have n5 : g.ln ≠ sd := fun z => by
    obtain ⟨_, h, _⟩ := G.rn
    rw [z, hd] at h; cases h
  exact k S' _ _ hn (x1.trans (GX.of e5)) b6 ((G1.ex e5).bt b6 n4 n5 (Ne.symm n1) (Ne.symm n2) (Ne.symm n3)) upd_same ((S1.ex e5).tk b6.tk nl)
theorem qdput_step (T : Txt K mg CB CG CT) {g : GA} {R : Rules} {M : Mach} {N : List Str} {S : List GSt} {a b i j sd : Nat} {σ : L2.St} {H : Hp} {E : XK} {D : Ends} {tz : TS} {ss : List Sd} {kvs : List (List Key × V)} (ok : GOkM R M N) (G : GH P w CB H g R M N S) (Sl0 : Sl H σ ss) (nl : ss.all Sd.noL = true)
    (i0 : ss[0]? = some (.v (.ref g.x))) (i3 : ss[3]? = some (.v (.ref sd))) (ii : ss[i]? = some (.d (eN a))) (ij : ss[j]? = some (.d (eN b))) (hd : H sd = some (.dT kvs)) (hz : kvs.length < 100000) (la : a < S.length) (lb : b < S.length) (hE : ∀ H', E (.ref CT) none H')
    (k : ∀ S' H1 H2, num S (stepS R M N (gS S a) (gS S b)) = some S' → GX g H H1 → Bt sd H1 H2 → GH P w CB H2 g R M N S' → H2 sd = some (.dT (putK kvs (keyP a b) (.int ((ixS S' (stepS R M N (gS S a) (gS S b)) : Nat) : Int)))) → Sl H2 σ ss → tz D σ H2) :
    tSeq (sDPut (tVar 3) (tTup (tCons (tVar i) (tCons (tVar j) tNil))) (tMeth CB "number" (spNum P w CB CT) [] E (tVar 0) (tCons (tMeth CB "step" (spStep P w CB) [] E0 (tVar 0) (tCons (tOp (rIxL K) (tFld K (tVar 0) "states") (tVar i)) (tCons (tOp (rIxL K) (tFld K (tVar 0) "states") (tVar j)) tNil))) tNil))) tz D σ H :=
  dput_step (D := { D with nx := tz D }) T ok G Sl0 nl i0 i3 ii ij hd hz la lb hE k
theorem gx_back {g : GA} {R : Rules} {M : Mach} {N : List Str} {S : List GSt} {H H' : Hp} (x : GX g H H') (G : GH P w CB H' g R M N S) {a : Addr} (h : H' a = none) : H a = none := by
  obtain ⟨_, _, n1, n2, n3⟩ := gx_ne G h
  cases z : H a with
  | none => rfl
  | some o =>
    have := x.st a o (Ne.symm n1) (Ne.symm n2) (Ne.symm n3) z
    rw [h] at this; cases this
theorem GX.bt {g : GA} {H H1 H2 : Hp} {sd : Addr} (x : GX g H H1) (b : Bt sd H1 H2) (h : H sd = none) : GX g H H2 := ⟨fun c o h1 h2 h3 hc => by rw [b.bt c (ne_of_none hc h)]; exact x.st c o h1 h2 h3 hc, x.tk.trans b.tk⟩
/-- steps[a, b] -/
theorem ed_dget {i j sd a b : Nat} {z : Int} {σ : L2.St} {H : Hp} {ss : List Sd} {kvs : List (List Key × V)} (S : Sl H σ ss) (i3 : ss[3]? = some (.v (.ref sd))) (ii : ss[i]? = some (.d (eN a))) (ij : ss[j]? = some (.d (eN b))) (hd : H sd = some (.dT kvs)) (hv : valV kvs (keyP a b) = some (.int z)) :
    EvD (tDGet (tVar 3) (tTup (tCons (tVar i) (tCons (tVar j) tNil)))) σ H (.i z) := fun H1 e1 Q q => by
  refine (ev_varV S i3) H1 e1 _ fun H2 e2 => ?_
  unfold tTup
  have S2 := S.ex (e1.trans e2)
  refine cons_intro ((ev_int (ed_var S2 ii)) H2 (Ex.refl H2) _ fun H3 e3 => cons_intro ((ev_int (ed_var (S2.ex e3) ij)) H3 (Ex.refl H3) _ fun H4 e4 => ?_))
  refine ⟨by show 2 ≤ sizeLine; decide, fun kp hkp => ?_⟩
  have e5 : Ex H1 (upd H4 kp (.tup [.int (a : Int), .int (b : Int)])) := ((e2.trans e3).trans e4).trans (Ex.new hkp)
  refine ⟨sd, .int z, rfl, ?_, q _ _ e5 (.i z)⟩
  rw [← hv]
  exact DGet.t (k := keyP a b) ((e1.trans e5) _ _ hd) upd_same

/-- [self.number(state) for state in starts] -/
theorem lc_firsts (T : Txt K mg CB CG CT) {g : GA} {R : Rules} {M : Mach} {N : List Str} {sts : List GSt} {l : Addr} {tl : TE} {σ : L2.St} {H : Hp} {ss : List Sd} (G : GH P w CB H g R M N []) (hL : Ls H l (sts.map encS)) (hls : l ≠ g.ls) (hst : ∀ s ∈ sts, GOk M N s) (h60 : sts.length ≤ 60)
    (hl : Ev tl σ H (.ref l)) (S0 : Sl H σ ss) (nl : ss.all Sd.noL = true) (i0 : (ss.set 8 (.v .non))[0]? = some (.v (.ref g.x))) (i8 : ∀ x, (ss.set 8 (.v x))[0]? = some (.v (.ref g.x)) ∧ (ss.set 8 (.v x))[8]? = some (.v x) ∧ (ss.set 8 (.v x)).all Sd.noL = true) (Q1 : VK)
    (q1 : ∀ p H1, H p = none → GX g H H1 → GH P w CB H1 g R M N (nums [] sts) → Ls H1 p (sts.map fun s => eN (ixS (nums [] sts) s)) → Q1 (.ref p) H1) : tLc (iList K tl) (gName 8) tYes (tMeth CB "number" (spNum0 P w CB) [] E0 (tVar 0) (tCons (tVar 8) tNil)) [8] σ H Q1 := by
  refine hl H (Ex.refl H) _ fun H1 e1 => ?_
  obtain ⟨vs, h1, h2⟩ := hL.ex e1
  have hl : vs.length = sts.length := by rw [h2.len, List.length_map]
  have G1 := G.ex e1
  have na : l ≠ g.dn := fun z => by
    obtain ⟨E1, _, s1, _⟩ := G1.nu
    have := s1.1
    rw [← z, h1] at this; cases this
  have nb : l ≠ g.dw := fun z => by
    obtain ⟨E1, s1, _⟩ := G1.wy
    have := s1.1
    rw [← z, h1] at this; cases this
  refine ⟨l, rfl, ⟨vs, sq_of h1⟩, fun Dl hD => ?_⟩
  have nDl := gx_ne (CB := CB) (P := P) (w := w) G1 hD
  refine lc_list (xs := vs) (fun i H' => GX g H1 H' ∧ GH P w CB H' g R M N (nums [] (sts.take i)) ∧ Ls H' Dl ((sts.take i).map fun s => eN (ixS (nums [] (sts.take i)) s)))
    ⟨GX.of (Ex.new hD), G1.ex (Ex.new hD), [], upd_same, .nil⟩ (fun i H' _ p => sq_of (p.1.st l _ na hls nb h1)) (fun i x H' hi p => ?_) (fun H' p => ?_)
  · obtain ⟨p1, p2, p4⟩ := p
    obtain ⟨d, hd, rd⟩ := h2.getV hi
    rw [List.getElem?_map] at hd
    obtain ⟨s, hs, rfl⟩ := Option.map_eq_some_iff.mp hd
    have hm : s ∈ sts := List.mem_of_getElem? hs
    have hlt : i < sts.length := (List.getElem?_eq_some_iff.mp hs).1
    have es : (wipe σ [8]).set 8 (some x) = σ.set 8 (some x) := set2 _ 8 none _
    show wipe ((wipe σ [8]).set 8 (some x)) [8] = wipe σ [8] ∧ tYes ((wipe σ [8]).set 8 (some x)) H' _
    rw [es]
    refine ⟨set2 _ 8 _ none, ?_⟩
    have S8 : Sl H' (σ.set 8 (some x)) (ss.set 8 (.v x)) := (S0.tk ((Tk.ex e1).trans p1.tk) nl).setV 8 x
    have etk : sts.take (i + 1) = sts.take i ++ [s] := by rw [List.take_add_one, hs]; rfl
    have hlen : (nums [] (sts.take i)).length ≤ i := by
      have := nums_len (sts.take i) []
      rw [List.length_take] at this
      simp at this
      omega
    have hadd : nums [] (sts.take (i + 1)) = addS (nums [] (sts.take i)) s := by rw [etk, nums_snoc]
    have hnn : num (nums [] (sts.take i)) s = some (nums [] (sts.take (i + 1))) := by
      rw [hadd]
      unfold num addS
      split
      · rfl
      · rw [if_neg (by omega)]
    show tMeth CB "number" (spNum0 P w CB) [] E0 (tVar 0) (tCons (tVar 8) tNil) (σ.set 8 (some x)) H' fun y H4 => ∃ acc, H4 Dl = some (.lst acc) ∧ acc.length < sizeLine ∧ (GX g H1 (upd H4 Dl (.lst (acc ++ [y]))) ∧ GH P w CB (upd H4 Dl (.lst (acc ++ [y]))) g R M N (nums [] (sts.take (i + 1))) ∧ Ls (upd H4 Dl (.lst (acc ++ [y]))) Dl ((sts.take (i + 1)).map fun s => eN (ixS (nums [] (sts.take (i + 1))) s)))
    refine meth_intro (ev_varV S8 (i8 x).1) p2.ins (gF_no g (by decide +kernel) (by decide +kernel) (by decide +kernel) (by decide +kernel) (by decide +kernel) (by decide +kernel)) fun H2 e2 => ?_
    refine cons_intro ((ev_varV (S8.ex e2) (i8 x).2.1) H2 (Ex.refl H2) _ fun H3 e3 => ?_)
    have e23 := e2.trans e3
    refine ⟨g, R, M, N, nums [] (sts.take i), s, x, rfl, p2.ex e23, (rd.mono p1.tk).ex e23, hst s hm, (by rw [hnn]; intro z; cases z), fun S' hS' H4 x4 G4 => ?_⟩
    rw [hnn] at hS'
    cases hS'
    have L4 : Ls H4 Dl ((sts.take i).map fun s => eN (ixS (nums [] (sts.take i)) s)) := x4.ls (Ne.symm nDl.2.2.1) (Ne.symm nDl.2.2.2.1) (Ne.symm nDl.2.2.2.2) (p4.ex e23)
    obtain ⟨ws, w1, w2⟩ := L4
    have hwl := w2.len
    rw [List.length_map, List.length_take] at hwl
    have bt : Bt Dl H4 (upd H4 Dl (.lst (ws ++ [V.int ((ixS (nums [] (sts.take (i + 1))) s : Nat) : Int)]))) := ⟨Tk.updL w1, fun b hb => upd_ne hb⟩
    have X4 : GX g H1 H4 := p1.trans ((GX.of e23).trans x4)
    refine ⟨ws, w1, sz_lt (by omega), ⟨fun b o q1 q2 q3 hb => by rw [bt.bt b (ne_of_none hb hD)]; exact X4.st b o q1 q2 q3 hb, X4.tk.trans bt.tk⟩, G4.bt bt nDl.1 nDl.2.1 nDl.2.2.1 nDl.2.2.2.1 nDl.2.2.2.2, _, upd_same, ?_⟩
    have w3 : RpA H4 (ws ++ [V.int ((ixS (nums [] (sts.take (i + 1))) s : Nat) : Int)]) ((sts.take (i + 1)).map fun s => eN (ixS (nums [] (sts.take (i + 1))) s)) := by
      rw [etk, List.map_append]
      rw [← etk]
      refine RpA.app ?_ (.one (.i _))
      have : (sts.take i).map (fun s => eN (ixS (nums [] (sts.take (i + 1))) s)) = (sts.take i).map fun s => eN (ixS (nums [] (sts.take i)) s) := List.map_congr_left fun t ht => by
        obtain ⟨r, hr⟩ := addS_pre (nums [] (sts.take i)) s
        rw [hadd, hr, ix_app (nums_mem t ht)]
      rw [this]
      exact w2
    exact w3.mono bt.tk
  · obtain ⟨p1, p2, p4⟩ := p
    rw [List.take_of_length_le (by omega)] at p2 p4
    exact q1 Dl H' (fresh_back e1 hD) ((GX.of e1).trans p1) p2 p4
abbrev nTables : List Str := ["self", "starts", "firsts", "steps", "p", "q", "many", "rows", "state"]
theorem scTables : FnScope nTables ["self", "starts"] (defScope sTables) := ⟨rfl, rfl, rfl, by decide +kernel, rfl, by decide +kernel, by decide +kernel⟩
theorem ok_tables (B : Blt mg) (F : Fun K "tables" "Grower.tables" sTables f fd) (T : Txt K mg CB CG CT) (MN0 : MCal P w K mg base CX0 1 CB "number" ["self", "state"] (spNum0 P w CB) fN fdN) (MN : MCal P w K mg base (L2.CX P w) 1 CB "number" ["self", "state"] (spNum P w CB CT) fN fdN)
    (MS : MCal P w K mg base CX0 15 CB "step" ["self", "one", "other"] (spStep P w CB) fP fdP) : FnOk P w K mg base (L2.CX P w) 16 f fd ["self", "starts"] (spTables P w CB CT) := by
  refine F.okX scTables (fun vs H Q E h => ?_) (fun cdv A outer s H vs Q E hr h => ?_)
  · obtain ⟨g, R, M, N, l, sts, rfl, _⟩ := h
    rfl
  have hr1 : Room 1 _ := hr.mono (by decide)
  refine ⟨_, pss_cons (ps_set (i := 2) scTables.nd rfl (Or.inl rfl) (pe_callTy (tupK K) (by rfl) B.tuple (by decide +kernel) (pa_cons (pe_lc (own := [("state", 8)]) (g := gName 8) (tt := tYes) rfl scTables.nd (pi_list (pv 1)) (blkOk_by (N := nTables) (sc := defScope sTables) (by decide +kernel))
      (fun _ _ _ _ _ => pg_name (i := 8) scTables.nd rfl (Or.inl rfl)) (fun _ _ _ _ _ => pts_nil) (fun _ _ _ _ _ => pe_meth (pv 0) T.cl MN0.me MN0.ok hr1 MN0.bd .nil pass0 (pa_cons (pv 8) pa_nil))) pa_nil)))
    (pss_cons (ps_set (i := 3) scTables.nd rfl (Or.inr rfl) pe_dnewT)
    (pss_cons (ps_set (i := 4) scTables.nd rfl (Or.inl rfl) pe_int)
    (pss_cons (ps_while (passes_of rfl) (pt_cmpR op_lt (pv 4) (pe_callB (lenK K) (by rfl) B.len PySem.boot_len (pa_cons (pe_fldK K (pv 0)) pa_nil)) (nomark _))
      (pss_cons (ps_for (passes_of rfl) rfl (pi_range1 (by rfl) B.range (pa_cons (pe_op op_add (pv 4) pe_int) pa_nil)) (pg_name (i := 5) scTables.nd rfl (Or.inl rfl))
        (pss_cons (ps_dput (hu_of hr) (pv 3) (pe_tup (pa_cons (pv 4) (pa_cons (pv 5) pa_nil))) (pe_meth (pv 0) T.cl MN.me MN.ok hr1 MN.bd .nil (passes_call (takes_of rfl rfl rfl rfl) (fun _ _ _ _ h => h)) (pa_cons (pe_meth (pv 0) T.cl MS.me MS.ok hr MS.bd .nil pass0 (pa_cons (pe_ix (ixL K) (pe_fldK K (pv 0)) (pv 4) (fun _ _ => rfl)) (pa_cons (pe_ix (ixL K) (pe_fldK K (pv 0)) (pv 5) (fun _ _ => rfl)) pa_nil))) pa_nil)) rfl)
        (pss_one (ps_dput (hu_of hr) (pv 3) (pe_tup (pa_cons (pv 5) (pa_cons (pv 4) pa_nil))) (pe_meth (pv 0) T.cl MN.me MN.ok hr1 MN.bd .nil (passes_call (takes_of rfl rfl rfl rfl) (fun _ _ _ _ h => h)) (pa_cons (pe_meth (pv 0) T.cl MS.me MS.ok hr MS.bd .nil pass0 (pa_cons (pe_ix (ixL K) (pe_fldK K (pv 0)) (pv 5) (fun _ _ => rfl)) (pa_cons (pe_ix (ixL K) (pe_fldK K (pv 0)) (pv 4) (fun _ _ => rfl)) pa_nil))) pa_nil)) rfl))))
      (pss_one (ps_set (i := 4) scTables.nd rfl (Or.inl rfl) (pe_op op_add (pv 4) pe_int)))))
    (pss_cons (ps_set (i := 6) scTables.nd rfl (Or.inr rfl) (pe_callB (lenK K) (by rfl) B.len PySem.boot_len (pa_cons (pe_fldK K (pv 0)) pa_nil)))
    (pss_cons (ps_setLc (i := 7) (own := [("p", 4)]) (g := gName 4) (tt := tYes) rfl scTables.nd rfl rfl (sw_true rfl rfl rfl (by decide +kernel)) (pi_range1 (by rfl) B.range (pa_cons (pv 6) pa_nil)) (blkOk_by (N := nTables) (sc := defScope sTables) (by decide +kernel))
      (fun _ _ _ _ _ => pg_name (i := 4) scTables.nd rfl (Or.inr rfl)) (fun _ _ _ _ _ => pts_nil) (fun _ _ _ _ _ => pe_callTy (tupK K) (by rfl) B.tuple (by decide +kernel) (pa_cons
        (pe_lc (own := [("q", 5)]) (g := gName 5) (tt := tYes) rfl scTables.nd (pi_range1 (by rfl) B.range (pa_cons (pv 6) pa_nil)) (blkOk_by (by rfl))
          (fun _ _ _ _ _ => pg_name (i := 5) scTables.nd rfl (Or.inl rfl)) (fun _ _ _ _ _ => pts_nil) (fun _ _ _ _ _ => pe_dget (hu_of hr) (pv 3) (pe_tup (pa_cons (pv 4) (pa_cons (pv 5) pa_nil))) (fun _ _ => rfl))) pa_nil)))
    (pss_one (ps_ret (pe_tup (pa_cons (pv 2) (pa_cons (pe_callTy (tupK K) (by rfl) B.tuple (by decide +kernel) (pa_cons (pv 7) pa_nil)) pa_nil)))))))))), ?_⟩
  obtain ⟨g, R, M, N, l, sts, rfl, ok, G, hL, hls, hst, h60, hE, q⟩ := h
  have S0 : Sl H (L2.start nTables [.ref g.x, .ref l]) [.v (.ref g.x), .v (.ref l), .no, .no, .no, .no, .no, .no, .no] := .cons rfl (.cons rfl (Sl.rep 7))
  -- firsts
  refine asg_intro (cons_intro ?_)
  refine lc_firsts T G hL hls hst h60 (ev_varV S0 rfl) S0 rfl rfl (fun x => ⟨rfl, rfl, rfl⟩) _ fun pf H1 hpf x1 G1 L1 => ?_
  obtain ⟨ws, w1, w2⟩ := L1
  refine ⟨pf, ws, rfl, Or.inl ⟨sq_of w1, fun tf htf => ?_⟩⟩
  have eT : Ex H1 (upd H1 tf (.tup ws)) := Ex.new htf
  have rT : Rp (upd H1 tf (.tup ws)) (.ref tf) (.t (sts.map fun s => eN (ixS (nums [] sts) s))) := .t upd_same (w2.ex eT)
  have x2 := x1.trans (GX.of eT)
  have G2 := G1.ex eT
  have S2 := (S0.tk x2.tk rfl).setD 2 rT
  generalize upd H1 tf (.tup ws) = H2 at eT rT x2 G2 S2 ⊢
  -- steps
  refine asg_intro fun sd hsd => ?_
  have e3 : Ex H2 (upd H2 sd (.dT [])) := Ex.new hsd
  have S3 := (S2.ex e3).setV 3 (.ref sd)
  have G3 := G2.ex e3
  have x3 := x2.trans (GX.of e3)
  have d3 : (upd H2 sd (.dT [])) sd = some (.dT []) := upd_same
  have nsd : H sd = none := gx_back x2 G2 hsd
  generalize upd H2 sd (.dT []) = H3 at e3 S3 G3 x3 d3 ⊢
  refine qs_set (d := eN 0) S3 ed_int fun σ4 H4 e4 S4 => ?_
  have hE2 : ∀ H', (fun cls d H => E cls d H) (Value.ref CT) none H' := hE
  generalize hF : Dt.t (sts.map fun s => eN (ixS (nums [] sts) s)) = FD at S4
  -- what holds
  have fS : ∀ {H' : Hp} {σ' : L2.St} {ss : List Sd} {S : List GSt}, GH P w CB H' g R M N S → Sl H' σ' ss → ss[0]? = some (.v (.ref g.x)) → EvR (tFld K (tVar 0) "states") σ' H' (S.map encS) := fun G' S' i0 => er_ev (ev_fld (ev_varV S' i0) G'.ins T.cl T.nS (gF_states g)) G'.ss
  refine q_while (fun m σ' H' => ∃ p S kvs, m + p = 65 ∧ p ≤ 64 ∧ Sl H' σ' [.v (.ref g.x), .v (.ref l), .d FD, .v (.ref sd), .d (eN p), .no, .no, .no, .no] ∧ GX g H H' ∧ GH P w CB H' g R M N S ∧ allM (stepS R M N) p (nums [] sts) = some S ∧
      (∀ p' S', p' < p → allM (stepS R M N) p' (nums [] sts) = some S' → p' < S'.length) ∧ H' sd = some (.dT kvs) ∧ kvs.length ≤ 200 * p ∧ DI (stepS R M N) kvs S (fun a b => a < p ∧ b < p)) 65
    ⟨0, nums [] sts, [], rfl, by decide, S4, x3.trans (GX.of e4), G3.ex e4, rfl, fun _ _ h => absurd h (Nat.not_lt_zero _), e4 _ _ d3, Nat.le_refl _, fun a b h => absurd h.1 (Nat.not_lt_zero _)⟩
    (fun m σ' H' hw => ?_)
  obtain ⟨p, S, kvs, w1, w2, w3, w4, w5, w6, w7, w8, w9, w10⟩ := hw
  refine ⟨decide (p < S.length), ?_, fun hb H5 e5 => ?_, fun hb H5 e5 => ?_⟩
  · have h := et_ed (ed_cmp0 (p := fun i j => decide (i < j)) (ed_var w3 (i := 4) rfl) (ed_lenL (K := K) (fS w5 w3 rfl)))
    have e : decide (((p : Nat) : Int) < (((S.map encS).length : Nat) : Int)) = decide (p < S.length) := by
      rw [List.length_map]
      by_cases h : p < S.length
      · rw [decide_eq_true h, decide_eq_true (by omega)]
      · rw [decide_eq_false h, decide_eq_false (by omega)]
    rw [← e]
    exact h
  · have hp : p < S.length := of_decide_eq_true hb
    have hlen := w5.len
    refine ⟨fun σ2 H2 => ∃ m', m' < m ∧ _, fun σ2 H2 h => h, ?_⟩
    have V5 := w3.ex e5
    refine qd_forR (n := p + 1) (ds_cons (ed_is (ed_i0 (ed_var V5 rfl) ed_int) rfl) ds_nil) (by omega)
      (fun i σ' H' => ∃ S' kvs', Sl H' σ' [.v (.ref g.x), .v (.ref l), .d FD, .v (.ref sd), .d (eN p), .no, .no, .no, .no] ∧ GX g H H' ∧ GH P w CB H' g R M N S' ∧ rowM (stepS R M N) p i S = some S' ∧ H' sd = some (.dT kvs') ∧ kvs'.length ≤ 200 * p + 2 * i ∧
        DI (stepS R M N) kvs' S' (fun a b => (a < p ∧ b < p) ∨ (a = p ∧ b < i) ∨ (b = p ∧ a < i)))
      (fun Ha e => ⟨S, kvs, V5.ex e, w4.trans (GX.of (e5.trans e)), w5.ex (e5.trans e), rfl, (e5.trans e) _ _ w8, w9, fun a b h => w10 a b (by omega)⟩) (fun i σ6 H6 hi pv => ?_) (fun σ6 H6 pv => ?_)
    · obtain ⟨S6, kvs6, u1, u2, u3, u4, u5, u6, u7⟩ := pv
      obtain ⟨r6, hr6⟩ := rowM_pre u4
      have hp6 : p < S6.length := by rw [hr6, List.length_append]; omega
      have V6 := u1.setD 5 (.i (i : Int))
      refine qdput_step (i := 4) (j := 5) (a := p) (b := i) T ok u3 V6 rfl rfl rfl rfl rfl u5 (by omega) hp6 (by omega) hE2 fun S7 H7 H8 hn7 x7 b8 G8 d8 V8 => ?_
      obtain ⟨r7, hr7⟩ := num_pre hn7
      have hp7 : p < S7.length := by rw [hr7, List.length_append]; omega
      have g1 : gS S7 p = gS S6 p := by rw [hr7]; exact gS_app r7 hp6
      have g2 : gS S7 i = gS S6 i := by rw [hr7]; exact gS_app r7 (by omega)
      have D7 : DI (stepS R M N) (putK kvs6 (keyP p i) (.int ((ixS S7 (stepS R M N (gS S6 p) (gS S6 i)) : Nat) : Int))) S7 (fun a b => ((a < p ∧ b < p) ∨ (a = p ∧ b < i) ∨ (b = p ∧ a < i)) ∨ (a = p ∧ b = i)) := by
        rw [← g1, ← g2]
        refine DI.put (Pc := fun a b => (a < p ∧ b < p) ∨ (a = p ∧ b < i) ∨ (b = p ∧ a < i)) ?_ hp7 (by omega) (by rw [g1, g2]; exact num_mem hn7) (fun a b h => h)
        rw [hr7]
        exact u7.app r7
      have kl7 := length_putK kvs6 (keyP p i) (.int ((ixS S7 (stepS R M N (gS S6 p) (gS S6 i)) : Nat) : Int))
      generalize putK kvs6 (keyP p i) (.int ((ixS S7 (stepS R M N (gS S6 p) (gS S6 i)) : Nat) : Int)) = kvs7 at d8 D7 kl7
      refine dput_step (i := 5) (j := 4) (a := i) (b := p) T ok G8 V8 rfl rfl rfl rfl rfl d8 (by omega) (by omega) hp7 hE2 fun S9 H9 HA hn9 x9 bA GA dA VA => ?_
      obtain ⟨r9, hr9⟩ := num_pre hn9
      have g3 : gS S9 p = gS S7 p := by rw [hr9]; exact gS_app r9 hp7
      have g4 : gS S9 i = gS S7 i := by rw [hr9]; exact gS_app r9 (by omega)
      have l9 : S7.length ≤ S9.length := by rw [hr9, List.length_append]; omega
      have kl9 := length_putK kvs7 (keyP i p) (.int ((ixS S9 (stepS R M N (gS S7 i) (gS S7 p)) : Nat) : Int))
      refine ⟨S9, _, VA.drop 5, ((u2.trans x7).bt b8 nsd |>.trans x9).bt bA nsd, GA, ?_, dA, by omega, ?_⟩
      · rw [rowM, u4]
        show (num S6 (stepS R M N (gS S6 p) (gS S6 i))).bind _ = _
        rw [hn7]
        exact hn9
      · rw [← g3, ← g4]
        refine DI.put (Pc := fun a b => ((a < p ∧ b < p) ∨ (a = p ∧ b < i) ∨ (b = p ∧ a < i)) ∨ (a = p ∧ b = i)) ?_ (by omega) (by omega) (by rw [g3, g4]; exact num_mem hn9) (fun a b h => by omega)
        rw [hr9]
        exact D7.app r9
    · obtain ⟨S6, kvs6, u1, u2, u3, u4, u5, u6, u7⟩ := pv
      refine ss_set (d := eN (p + 1)) u1 (ed_is (ed_i0 (ed_var u1 rfl) ed_int) rfl) fun σ7 H7 e7 S7 => ?_
      refine ⟨m - 1, by omega, p + 1, S6, kvs6, by omega, by omega, S7, u2.trans (GX.of e7), u3.ex e7, by rw [allM, w6]; exact u4, fun p' S' hp' h' => ?_, e7 _ _ u5, by omega, fun a b h => u7 a b (by omega)⟩
      by_cases e : p' = p
      · subst e
        rw [w6] at h'
        cases h'
        exact hp
      · exact w7 p' S' (by omega) h'
  · have hp : ¬ p < S.length := of_decide_eq_false hb
    have V5 := w3.ex e5
    have G5 := w5.ex e5
    have hlen := G5.len
    refine qs_set (d := eN S.length) V5 (ed_is (ed_lenL (fS G5 V5 rfl)) (by rw [List.length_map]; rfl)) fun σ6 H6 e6 S6 => ?_
    have d6 := (e5.trans e6) _ _ w8
    refine qs_setN S6 (en_lcR (n := S.length) (fun a => Dt.t ((List.range S.length).map fun b => eN (ixS S (stepS R M N (gS S a) (gS S b))))) (ds_cons (ed_var S6 rfl) ds_nil) (by omega) (fun a Ha ha ea => ?_)) fun pr σ7 H7 hpr e7 L7 S7 => ?_
    · have SA := (S6.ex ea).setD 4 (.i (a : Int))
      refine ed_tupL (EvN.r (en_lcR (n := S.length) (fun b => eN (ixS S (stepS R M N (gS S a) (gS S b)))) (ds_cons (ed_var SA rfl) ds_nil) (by omega) (fun b Hb hb2 eb => ?_)))
      have SB := (SA.ex eb).setD 5 (.i (b : Int))
      exact ed_dget SB rfl rfl rfl ((ea.trans eb) _ _ d6) (w10 a b ⟨by omega, by omega⟩).2.2.2
    · have E7 := (e5.trans e6).trans e7
      obtain ⟨r, hr⟩ := allM_pre w6
      refine sd_ret (ed_tup (ds_cons (ed_var S7 rfl) (ds_cons (ed_tupL (er_varA S7 rfl L7)) ds_nil)) (by simp)) fun v H8 e8 rv => ?_
      refine q S p v H8 (w4.trans (GX.of (E7.trans e8))) (w5.ex (E7.trans e8)) ⟨w6, by omega, w7⟩ (fun a b ha hb2 => (w10 a b ⟨by omega, by omega⟩).2.2.1) (fun s hs => by rw [hr]; exact List.mem_append_left _ (nums_mem s hs)) ?_
      have ef : (sts.map fun s => eN (ixS S s)) = sts.map fun s => eN (ixS (nums [] sts) s) := List.map_congr_left fun s hs => by rw [hr, ix_app (nums_mem s hs)]
      rw [ef, hF]
      exact rv
end
end GF
set_option Elab.async false
set_option linter.all false
set_option maxRecDepth 100000
set_option maxHeartbeats 1000000
/-! Gf23: back_tables, drawn_back, back_states. -/
namespace GF
open PySem L2 Evl PySem.Spec PyProof.Rows
def sts0 (M : Mach) (N : List Str) : List GSt := (List.range (N.length + 1)).map fun n => (n, wNone M)
/-- the machine that is told -/
def told (R : Rules) (M : Mach) (N : List Str) (S : List GSt) : Mach :=
  ⟨M.forms, N, (sts0 M N).map (ixS S), (List.range S.length).map fun a => (List.range S.length).map fun b => ixS S (stepS R M N (gS S a) (gS S b)), S.map (markS R M N)⟩
structure Grown (R : Rules) (M : Mach) (N : List Str) (S : List GSt) : Prop where
  ns : NS N
  mem : ∀ y, y ∈ N ↔ y ∈ M.names ∨ ∃ r ∈ R, r.1 = y
  nd : S.Nodup
  len : S.length ≤ 64
  ok : ∀ s ∈ S, GOk M N s
  fin : ∃ p, Fin2 (stepS R M N) (nums [] (sts0 M N)) S p
  cl : ∀ a b, a < S.length → b < S.length → stepS R M N (gS S a) (gS S b) ∈ S
  st : ∀ s ∈ sts0 M N, s ∈ S
theorem Grown.one {R : Rules} {M : Mach} {N N' : List Str} {S S' : List GSt} (h : Grown R M N S) (h' : Grown R M N' S') : N = N' ∧ S = S' := by
  have e : N = N' := h.ns.one h'.ns fun x => (h.mem x).trans (h'.mem x).symm
  subst e
  obtain ⟨p, h1⟩ := h.fin
  obtain ⟨p', h2⟩ := h'.fin
  exact ⟨rfl, h1.one h2⟩
def spBack (CT : Addr) (out : Rules → Mach → List Str → List GSt → Dt) : Sp := fun vs H Q E => ∃ v1 v2 R M, vs = [v1, v2] ∧ Rp H v1 (encRs R) ∧ Rp H v2 (encM M) ∧ M.Wf ∧ M.names.length ≤ 9 ∧ RulesOk 5 R ∧ (∀ H', E (.ref CT) none H') ∧
  ∀ N S v H', Ex H H' → Grown R M N S → Rp H' v (out R M N S) → Q v H'
abbrev outB (R : Rules) (M : Mach) (N : List Str) (S : List GSt) : Dt := .t [encM (told R M N S), .t (S.map encS)]
abbrev outD (R : Rules) (M : Mach) (N : List Str) (S : List GSt) : Dt := encM (told R M N S)
abbrev outS (R : Rules) (M : Mach) (N : List Str) (S : List GSt) : Dt := .t (S.map encS)
theorem lenN {R : Rules} {M : Mach} {N : List Str} (h9 : M.names.length ≤ 9) (hR : RulesOk 5 R) (ns : NS N) (mem : ∀ y, y ∈ N ↔ y ∈ M.names ∨ ∃ r ∈ R, r.1 = y) : N.length ≤ 13 := by
  have hsub : ∀ (l r : List Str), l.Nodup → (∀ x ∈ l, x ∈ r) → l.length ≤ r.length := by
    intro l
    induction l with
    | nil => intro r _ _; exact Nat.zero_le _
    | cons x l ih =>
      intro r nd h
      obtain ⟨h1, h2⟩ := List.nodup_cons.mp nd
      have hx : x ∈ r := h x List.mem_cons_self
      have := ih (r.erase x) h2 fun y hy => by
        have hne : y ≠ x := fun z => h1 (z ▸ hy)
        exact (List.mem_erase_of_ne hne).mpr (h y (List.mem_cons_of_mem _ hy))
      rw [List.length_erase_of_mem hx] at this
      have hp : 0 < r.length := List.length_pos_of_mem hx
      rw [List.length_cons]
      omega
  have := hsub N (M.names ++ R.map (·.1)) ns.2 fun x hx => by
    rcases (mem x).mp hx with h | ⟨r, hr, rfl⟩
    · exact List.mem_append_left _ h
    · exact List.mem_append_right _ (List.mem_map_of_mem hr)
  rw [List.length_append, List.length_map] at this
  have := hR.1
  omega
section
variable {P : Program} {w : World} {K : PySem.W.Frag} {mg : Str → Option Value} {base : Heap} {f fA fI fS fO fF fB fN fP : Addr} {fd fdA fdI fdS fdO fdF fdB fdN fdP : FuncData} {CB CG CT : Addr}
/-- [grower.mark(state) for state in grower.states] -/
theorem lc_marks (T : Txt K mg CB CG CT) {g : GA} {R : Rules} {M : Mach} {N : List Str} {S : List GSt} {tl : TE} {σ : L2.St} {H : Hp} {ss : List Sd} (ok : GOkM R M N) (G : GH P w CB H g R M N S)
    (hl : Ev tl σ H (.ref g.ls)) (S0 : Sl H σ ss) (nl : ss.all Sd.noL = true) (i8 : ∀ x, (ss.set 8 (.v x))[2]? = some (.v (.ref g.x)) ∧ (ss.set 8 (.v x))[8]? = some (.v x)) (Q1 : VK)
    (q1 : ∀ p H1, H p = none → GW g H H1 → GH P w CB H1 g R M N S → Ls H1 p (S.map fun s => eN (markS R M N s)) → Q1 (.ref p) H1) : tLc (iList K tl) (gName 8) tYes (tMeth CB "mark" (spMarkG P w CB) [] E0 (tVar 2) (tCons (tVar 8) tNil)) [8] σ H Q1 := by
  refine hl H (Ex.refl H) _ fun H1 e1 => ?_
  have G1 := G.ex e1
  obtain ⟨vs, h1, h2⟩ := id G1.ss
  have hl : vs.length = S.length := by rw [h2.len, List.length_map]
  have nw : g.ls ≠ g.dw := fun z => by
    obtain ⟨E1, s1, _⟩ := G1.wy
    have := s1.1
    rw [← z, h1] at this; cases this
  have hlen := G.len
  refine ⟨g.ls, rfl, ⟨vs, sq_of h1⟩, fun Dl hD => ?_⟩
  have nDl := gx_ne (CB := CB) (P := P) (w := w) G1 hD
  refine lc_list (xs := vs) (fun i H' => GW g H1 H' ∧ GH P w CB H' g R M N S ∧ Ls H' Dl ((S.take i).map fun s => eN (markS R M N s)))
    ⟨GW.of (Ex.new hD), G1.ex (Ex.new hD), [], upd_same, .nil⟩ (fun i H' _ p => sq_of (p.1.st _ _ nw h1)) (fun i x H' hi p => ?_) (fun H' p => ?_)
  · obtain ⟨p1, p2, p4⟩ := p
    obtain ⟨d, hd, rd⟩ := h2.getV hi
    rw [List.getElem?_map] at hd
    obtain ⟨s, hs, rfl⟩ := Option.map_eq_some_iff.mp hd
    have hm : s ∈ S := List.mem_of_getElem? hs
    have es : (wipe σ [8]).set 8 (some x) = σ.set 8 (some x) := set2 _ 8 none _
    show wipe ((wipe σ [8]).set 8 (some x)) [8] = wipe σ [8] ∧ tYes ((wipe σ [8]).set 8 (some x)) H' _
    rw [es]
    refine ⟨set2 _ 8 _ none, ?_⟩
    have S8 : Sl H' (σ.set 8 (some x)) (ss.set 8 (.v x)) := (S0.tk ((Tk.ex e1).trans p1.tk) nl).setV 8 x
    show tMeth CB "mark" (spMarkG P w CB) [] E0 (tVar 2) (tCons (tVar 8) tNil) (σ.set 8 (some x)) H' fun y H4 => ∃ acc, H4 Dl = some (.lst acc) ∧ acc.length < sizeLine ∧ (GW g H1 (upd H4 Dl (.lst (acc ++ [y]))) ∧ GH P w CB (upd H4 Dl (.lst (acc ++ [y]))) g R M N S ∧ Ls (upd H4 Dl (.lst (acc ++ [y]))) Dl ((S.take (i + 1)).map fun s => eN (markS R M N s)))
    refine meth_intro (ev_varV S8 (i8 x).1) p2.ins (gF_no g (by decide +kernel) (by decide +kernel) (by decide +kernel) (by decide +kernel) (by decide +kernel) (by decide +kernel)) fun H2 e2 => ?_
    refine cons_intro ((ev_varV (S8.ex e2) (i8 x).2) H2 (Ex.refl H2) _ fun H3 e3 => ?_)
    have e23 := e2.trans e3
    refine ⟨g, R, M, N, S, s, x, rfl, ok, p2.ex e23, (rd.mono p1.tk).ex e23, hm, fun H4 x4 G4 => ?_⟩
    obtain ⟨ws, w1, w2⟩ := p4.ex e23
    have w1' := x4.st Dl _ (Ne.symm nDl.2.2.2.2) w1
    have hwl := w2.len
    rw [List.length_map, List.length_take] at hwl
    have bt : Bt Dl H4 (upd H4 Dl (.lst (ws ++ [V.int ((markS R M N s : Nat) : Int)]))) := ⟨Tk.updL w1', fun b hb => upd_ne hb⟩
    have X4 : GW g H1 H4 := p1.trans ((GW.of e23).trans x4)
    refine ⟨ws, w1', sz_lt (by omega), ⟨fun b o q3 hb => by rw [bt.bt b (ne_of_none hb hD)]; exact X4.st b o q3 hb, X4.tk.trans bt.tk⟩, G4.bt bt nDl.1 nDl.2.1 nDl.2.2.1 nDl.2.2.2.1 nDl.2.2.2.2, _, upd_same, ?_⟩
    rw [List.take_add_one, hs, List.map_append]
    exact ((w2.mono x4.tk).app (.one (.i _))).mono bt.tk
  · obtain ⟨p1, p2, p4⟩ := p
    rw [List.take_of_length_le (by omega)] at p4
    exact q1 Dl H' (fresh_back e1 hD) ((GW.of e1).trans p1) p2 p4
abbrev nBack : List Str := ["turner", "machine", "grower", "none", "starts", "steps", "marks", "number", "state"]
theorem scBack : FnScope nBack ["turner", "machine"] (defScope sBackTables) := ⟨rfl, rfl, rfl, by decide +kernel, rfl, by decide +kernel, by decide +kernel⟩
theorem make_intro {C : Addr} {sp : Sp} {E : XK} {t : TA} {σ : L2.St} {H : Hp} {Q : VK} (h : t σ H fun vs H1 => ∀ x dx, H1 x = none → H1 dx = none → dx ≠ x → sp (.ref x :: (vs ++ [])) (upd (upd H1 dx (.own x)) x (.ins C dx [])) (fun v H2 => v = .non ∧ Q (.ref x) H2) E) : tMake C sp [] E t σ H Q := h
theorem ok_back (B : Blt mg) (F : Df K mg "back_tables" sBackTables f fd) (T : Txt K mg CB CG CT) (MK : Mk K CB fI) (GI : FnOk P w K mg base CX0 2 fI fdI ["self", "graft", "machine"] (spBInit P w CB)) (bI : Binds K fdI ["self", "graft", "machine"] [])
    (CN : Cal P w K mg base CX0 1 "way_of_none" ["machine"] spWayNone fO fdO) (MT : MCal P w K mg base (L2.CX P w) 16 CB "tables" ["self", "starts"] (spTables P w CB CT) fN fdN) (MM : MCal P w K mg base CX0 15 CB "mark" ["self", "state"] (spMarkG P w CB) fP fdP) :
    Cal P w K mg base (L2.CX P w) 17 "back_tables" ["turner", "machine"] (spBack CT outB) f fd := by
  refine F.cal (F.fn.okX scBack (fun vs H Q E h => ?_) (fun cdv A outer s H vs Q E hr h => ?_)) fun _ _ _ _ _ _ us hl => match us, hl with | [_, _], _ => rfl
  · obtain ⟨v1, v2, R, M, rfl, _⟩ := h
    rfl
  have hr1 : Room 1 _ := hr.mono (by decide)
  have hr3 : Room 3 _ := hr.mono (by decide)
  have hr15 : Room 15 _ := hr.mono (by decide)
  refine ⟨_, pss_cons (ps_set (i := 2) scBack.nd rfl (Or.inr rfl) (pe_make MK GI hr3 rfl T.gB bI .nil pass0 (pa_cons (pv 0) (pa_cons (pv 1) pa_nil))))
    (pss_cons (ps_set (i := 3) scBack.nd rfl (Or.inr rfl) (pe_cal CN hr1 (pa_cons (pv 1) pa_nil)))
    (pss_cons (ps_asg (pe_meth (pv 2) T.cl MT.me MT.ok hr MT.bd .nil (passes_call (takes_of rfl rfl rfl rfl) (fun _ _ _ _ h => h)) (pa_cons (pe_lc (own := [("number", 7)]) (g := gName 7) (tt := tYes) rfl scBack.nd (pi_range1 (by rfl) B.range (pa_cons (pe_op op_add (pe_callB (lenK K) (by rfl) B.len PySem.boot_len (pa_cons (pe_fldK K (pv 2)) pa_nil)) pe_int) pa_nil)) (blkOk_by (N := nBack) (sc := defScope sBackTables) (by decide +kernel))
        (fun _ _ _ _ _ => pg_name (i := 7) scBack.nd rfl (Or.inl rfl)) (fun _ _ _ _ _ => pts_nil) (fun _ _ _ _ _ => pe_tup (pa_cons (pv 7) (pa_cons (pv 3) pa_nil)))) pa_nil))
      (pgTup K (n := 2) rfl (pgs_cons (pg_name (i := 4) scBack.nd rfl (Or.inl rfl)) (pgs_cons (pg_name (i := 5) scBack.nd rfl (Or.inl rfl)) pgs_nil))))
    (pss_cons (ps_set (i := 6) scBack.nd rfl (Or.inl rfl) (pe_callTy (tupK K) (by rfl) B.tuple (by decide +kernel) (pa_cons (pe_lc (own := [("state", 8)]) (g := gName 8) (tt := tYes) rfl scBack.nd (pi_list (pe_fldK K (pv 2))) (blkOk_by (N := nBack) (sc := defScope sBackTables) (by decide +kernel))
        (fun _ _ _ _ _ => pg_name (i := 8) scBack.nd rfl (Or.inl rfl)) (fun _ _ _ _ _ => pts_nil) (fun _ _ _ _ _ => pe_meth (pv 2) T.cl MM.me MM.ok hr15 MM.bd .nil pass0 (pa_cons (pv 8) pa_nil))) pa_nil)))
    (pss_one (ps_ret (pe_tup (pa_cons (pe_tup (pa_cons (pe_ix (ixT K) (pv 1) pe_int (fun _ _ => rfl)) (pa_cons (pe_callTy call_tupF (by rfl) B.tuple (by decide +kernel) (pa_cons (pe_fldK K (pv 2)) pa_nil)) (pa_cons (pv 4) (pa_cons (pv 5) (pa_cons (pv 6) pa_nil))))))
      (pa_cons (pe_callTy (tupK K) (by rfl) B.tuple (by decide +kernel) (pa_cons (pe_fldK K (pv 2)) pa_nil)) pa_nil)))))))), ?_⟩
  obtain ⟨v1, v2, R, M, rfl, hv1, hv2, wf, h9, hR, hE, q⟩ := h
  have S0 : Sl H (L2.start nBack [v1, v2]) [.v v1, .d (encM M), .no, .no, .no, .no, .no, .no, .no] := .cons rfl (.cons ⟨_, rfl, hv2⟩ (Sl.rep 7))
  -- the grower
  refine asg_intro (make_intro ((ea_cons (ev_varV (i := 0) S0 rfl) (ea_cons (ev_varV (v := v2) (i := 1) (ss := [.v v1, .v v2, .no, .no, .no, .no, .no, .no, .no]) (.cons rfl (.cons rfl (Sl.rep 7))) rfl) ea_nil)) H (Ex.refl H) _ fun H1 e1 x dx hx hdx hne => ?_))
  have eM : Ex H1 (upd (upd H1 dx (.own x)) x (.ins CB dx [])) := (Ex.new hdx).trans (Ex.new (by rw [upd_ne (Ne.symm hne)]; exact hx))
  generalize hHM : upd (upd H1 dx (.own x)) x (.ins CB dx []) = HM at eM
  have hxM : HM x = some (.ins CB dx []) := by rw [← hHM]; exact upd_same
  have EM := e1.trans eM
  refine ⟨x, dx, v1, v2, R, M, rfl, hxM, hv1.ex EM, hv2.ex EM, hR, h9, fun g N H2 hgx f1 f2 f3 f4 st2 tk2 ns mem G2 => ⟨rfl, ?_⟩⟩
  have EX2 : Ex H H2 := fun b o hb => st2 b o (ne_of_none (e1 _ _ hb) hx) (EM _ _ hb)
  have gxe : ∀ {H' : Hp}, GX g H2 H' → Ex H H' := fun xx b o hb => xx.st b o (ne_of_none (EM _ _ hb) f1) (ne_of_none (EM _ _ hb) f2) (ne_of_none (EM _ _ hb) f3) (EX2 _ _ hb)
  have S2 := (S0.ex EX2).setV 2 (.ref x)
  rw [← hgx] at S2
  rw [← hgx]
  have hN := lenN h9 hR ns mem
  have okM : GOkM R M N := ⟨wf, hR, by omega⟩
  -- none
  refine qs_set (d := encW (wNone M)) S2 (ed_call M (ad_d (ed_var S2 rfl) ad_nil) wf) fun σ3 H3 e3 S3 => ?_
  have G3 := G2.ex e3
  -- tables
  have fNm : ∀ {H' : Hp} {σ' : L2.St} {ss : List Sd} {S : List GSt}, GH P w CB H' g R M N S → Sl H' σ' ss → ss[2]? = some (.v (.ref g.x)) → EvR (tFld K (tVar 2) "names") σ' H' (N.map .s) := fun G' S' i0 => er_ev (ev_fld (ev_varV S' i0) G'.ins T.cl T.nA (gF_names g)) G'.rn
  have hT : ∀ Q1 : VK, (∀ S p v H', GX g H3 H' → GH P w CB H' g R M N S → Fin2 (stepS R M N) (nums [] (sts0 M N)) S p → (∀ a b, a < S.length → b < S.length → stepS R M N (gS S a) (gS S b) ∈ S) → (∀ s ∈ sts0 M N, s ∈ S) →
      Rp H' v (.t [.t ((sts0 M N).map fun s => eN (ixS S s)), .t ((List.range S.length).map fun a => Dt.t ((List.range S.length).map fun b => eN (ixS S (stepS R M N (gS S a) (gS S b)))))]) → Q1 v H') →
      tMeth CB "tables" (spTables P w CB CT) [] E (tVar 2) (tCons (tLc (iRng1 (tCons (tOp (rI0 fun i j => .int (i + j)) (tCB (rLenS K) (tCons (tFld K (tVar 2) "names") tNil)) (tC (.int 1))) tNil)) (gName 7) tYes (tTup (tCons (tVar 7) (tCons (tVar 3) tNil))) [7]) tNil) σ3 H3 Q1 := fun Q1 q1 => by
    refine meth_intro (ev_varV S3 rfl) G3.ins (gF_no g (by decide +kernel) (by decide +kernel) (by decide +kernel) (by decide +kernel) (by decide +kernel) (by decide +kernel)) fun H4 e4 => cons_intro ?_
    have S4 := S3.ex e4
    have G4 := G3.ex e4
    refine (en_lcR (n := N.length + 1) (fun n => encS (n, wNone M)) (ds_cons (ed_is (ed_i0 (ed_lenL (fNm G4 S4 rfl)) ed_int) (by rw [List.length_map]; rfl)) ds_nil) (by omega) (fun k Ha hk ea => ?_)) H4 (Ex.refl H4) _ fun l H5 hl e5 L5 => ?_
    · have S7 := (S4.ex ea).setD 7 (.i (k : Int))
      exact ed_tup (ds_cons (ed_var S7 rfl) (ds_cons (ed_var S7 rfl) ds_nil)) (by simp)
    · have G5 := G4.ex e5
      refine ⟨g, R, M, N, l, sts0 M N, rfl, okM, G5, ?_, fun z => (G4.ss.some (z ▸ hl)), fun s hs => ?_, ?_, hE, fun S p v H' x5 G' f cl st r => q1 S p v H' ((GX.of (e4.trans e5)).trans x5) G' f cl st r⟩
      · have L5' := L5
        unfold sts0
        rw [List.map_map]
        exact L5'
      · obtain ⟨n, hn, rfl⟩ := List.mem_map.mp hs
        have := List.mem_range.mp hn
        exact ⟨by show n ≤ N.length; omega, wNone_ok M⟩
      · unfold sts0
        rw [List.length_map, List.length_range]
        omega
  refine hT _ fun S p vT H6 x6 G6 fin cl st r6 => ?_
  obtain ⟨aT, ys, rfl, t1, t2⟩ := r6.tup
  cases t2 with
  | @cons vS _ _ _ rS t2 =>
  cases t2 with
  | @cons vP _ _ _ rP t2 =>
  cases t2
  refine ⟨aT, _, rfl, st_of t1, rfl, _, _, rfl, _, _, rfl, rfl, ?_⟩
  have S6 := (((S3.tk x6.tk rfl).setD 4 rS).setD 5 rP)
  -- marks
  have hM : ∀ Q1 : VK, (∀ v H1, GW g H6 H1 → GH P w CB H1 g R M N S → Rp H1 v (.t (S.map fun s => eN (markS R M N s))) → Q1 v H1) → tCB (rTup K) (tCons (tLc (iList K (tFld K (tVar 2) "states")) (gName 8) tYes (tMeth CB "mark" (spMarkG P w CB) [] E0 (tVar 2) (tCons (tVar 8) tNil)) [8]) tNil) ((σ3.set 4 (some vS)).set 5 (some vP)) H6 Q1 := fun Q1 q1 => by
    refine cons_intro (lc_marks T okM G6 (ev_fld (ev_varV S6 rfl) G6.ins T.cl T.nS (gF_states g)) S6 rfl (fun x => ⟨rfl, rfl⟩) _ fun pm H7 hpm x7 G7 L7 => ?_)
    obtain ⟨ws, w1, w2⟩ := L7
    refine ⟨pm, ws, rfl, Or.inl ⟨sq_of w1, fun tf htf => ?_⟩⟩
    have eT : Ex H7 (upd H7 tf (.tup ws)) := Ex.new htf
    exact q1 _ _ (x7.trans (GW.of eT)) (G7.ex eT) (.t upd_same (w2.ex eT))
  refine asg_intro (hM _ fun vM H7 x7 G7 rM => ?_)
  have S7 := (S6.tk x7.tk rfl).setD 6 rM
  refine sd_ret (ed_tup (ds_cons (ed_tup (ds_cons (ed_ixT (ed_var S7 rfl) ed_int rfl) (ds_cons (ed_tupF (fNm G7 S7 rfl)) (ds_cons (ed_var S7 rfl) (ds_cons (ed_var S7 rfl) (ds_cons (ed_var S7 rfl) ds_nil))))) (by simp)) (ds_cons (ed_tupL (er_ev (ev_fld (ev_varV S7 rfl) G7.ins T.cl T.nS (gF_states g)) G7.ss)) ds_nil)) (by simp)) fun v H8 e8 r8 => ?_
  refine q N S v H8 ((gxe (((GX.of e3).trans x6).trans x7.gx)).trans e8) ⟨ns, mem, G7.nd, G7.len, G7.ok, ⟨p, fin⟩, cl, st⟩ ?_
  have e1' : (told R M N S).starts.map eN = (sts0 M N).map fun s => eN (ixS S s) := by
    unfold told
    rw [List.map_map]
    rfl
  have e2' : ((told R M N S).steps.map fun r => Dt.t (r.map eN)) = (List.range S.length).map fun a => Dt.t ((List.range S.length).map fun b => eN (ixS S (stepS R M N (gS S a) (gS S b)))) := by
    unfold told
    rw [List.map_map]
    refine List.map_congr_left fun a _ => ?_
    show Dt.t _ = Dt.t _
    rw [List.map_map]
    rfl
  have e3' : (told R M N S).marks.map eN = S.map fun s => eN (markS R M N s) := by
    unfold told
    rw [List.map_map]
    rfl
  show Rp H8 v (.t [.t [.t (M.forms.map .s), .f (N.map .s), .t ((told R M N S).starts.map eN), .t ((told R M N S).steps.map fun r => .t (r.map eN)), .t ((told R M N S).marks.map eN)], .t (S.map encS)])
  rw [e1', e2', e3']
  exact r8
theorem scDrawn : FnScope ["turner", "machine"] ["turner", "machine"] (defScope sDrawnBack) := ⟨rfl, rfl, rfl, by decide +kernel, rfl, by decide +kernel, by decide +kernel⟩
theorem scStates : FnScope ["turner", "machine"] ["turner", "machine"] (defScope sBackStates) := ⟨rfl, rfl, rfl, by decide +kernel, rfl, by decide +kernel, by decide +kernel⟩
theorem ix_out {sp : Sp} {z : Int} {σ : L2.St} {H : Hp} {E : XK} {v1 v2 : V} {Q : VK} (S : Sl H σ [.v v1, .v v2]) (h : ∀ H1, Ex H H1 → sp [v1, v2] H1 (fun v H2 => rIxT K v (.int z) H2 Q) E) : tOp (rIxT K) (tCall sp [] E (tCons (tVar 0) (tCons (tVar 1) tNil))) (tC (.int z)) σ H Q := by
  refine op_intro (call_intro ((ea_cons (ev_varV (i := 0) S rfl) (ea_cons (ev_varV (i := 1) S rfl) ea_nil)) H (Ex.refl H) _ fun H1 e1 => ?_))
  exact h H1 e1
theorem ok_drawn (F : Df K mg "drawn_back" sDrawnBack f fd) (C : Cal P w K mg base (L2.CX P w) 17 "back_tables" ["turner", "machine"] (spBack CT outB) fB fdB) : Cal P w K mg base (L2.CX P w) 18 "drawn_back" ["turner", "machine"] (spBack CT outD) f fd := by
  refine F.cal (F.fn.okX scDrawn (fun vs H Q E h => ?_) (fun cdv A outer s H vs Q E hr h => ?_)) fun _ _ _ _ _ _ us hl => match us, hl with | [_, _], _ => rfl
  · obtain ⟨v1, v2, R, M, rfl, _⟩ := h
    rfl
  obtain ⟨v1, v2, R, M, rfl, hv1, hv2, wf, h9, hR, hE, q⟩ := h
  refine ⟨_, pss_one (ps_ret (pe_ix (ixT K) (pe_call C.ok hr (by rfl) C.mg C.kp C.bd .nil (passes_call (takes_of rfl rfl rfl rfl) (fun _ _ _ _ h => h)) (pa_cons (pv 0) (pa_cons (pv 1) pa_nil))) pe_int (fun _ _ => rfl))), ?_⟩
  have S0 : Sl H (L2.start ["turner", "machine"] [v1, v2]) [.v v1, .v v2] := .cons rfl (.cons rfl .nil)
  refine ix_out S0 fun H1 e1 => ⟨v1, v2, R, M, rfl, hv1.ex e1, hv2.ex e1, wf, h9, hR, hE, fun N S v H2 e2 gr r => ?_⟩
  obtain ⟨a, xs, rfl, h1, h2⟩ := r.tup
  obtain ⟨y, hy, ry⟩ := h2.atI (k := ((0 : Nat) : Int)) (atI_nat rfl)
  exact ⟨a, xs, 0, y, rfl, rfl, st_of h1, hy, q N S y H2 (e1.trans e2) gr ry⟩
theorem ok_states (F : Df K mg "back_states" sBackStates f fd) (C : Cal P w K mg base (L2.CX P w) 17 "back_tables" ["turner", "machine"] (spBack CT outB) fB fdB) : Cal P w K mg base (L2.CX P w) 18 "back_states" ["turner", "machine"] (spBack CT outS) f fd := by
  refine F.cal (F.fn.okX scStates (fun vs H Q E h => ?_) (fun cdv A outer s H vs Q E hr h => ?_)) fun _ _ _ _ _ _ us hl => match us, hl with | [_, _], _ => rfl
  · obtain ⟨v1, v2, R, M, rfl, _⟩ := h
    rfl
  obtain ⟨v1, v2, R, M, rfl, hv1, hv2, wf, h9, hR, hE, q⟩ := h
  refine ⟨_, pss_one (ps_ret (pe_ix (ixT K) (pe_call C.ok hr (by rfl) C.mg C.kp C.bd .nil (passes_call (takes_of rfl rfl rfl rfl) (fun _ _ _ _ h => h)) (pa_cons (pv 0) (pa_cons (pv 1) pa_nil))) pe_int (fun _ _ => rfl))), ?_⟩
  have S0 : Sl H (L2.start ["turner", "machine"] [v1, v2]) [.v v1, .v v2] := .cons rfl (.cons rfl .nil)
  refine ix_out S0 fun H1 e1 => ⟨v1, v2, R, M, rfl, hv1.ex e1, hv2.ex e1, wf, h9, hR, hE, fun N S v H2 e2 gr r => ?_⟩
  obtain ⟨a, xs, rfl, h1, h2⟩ := r.tup
  obtain ⟨y, hy, ry⟩ := h2.atI (k := ((1 : Nat) : Int)) (atI_nat rfl)
  exact ⟨a, xs, 1, y, rfl, rfl, st_of h1, hy, q N S y H2 (e1.trans e2) gr ry⟩
end
end GF
set_option Elab.async false
set_option linter.all false
set_option maxRecDepth 100000
set_option maxHeartbeats 1000000
/-! Gf24: the plain law. -/
namespace GF
open PySem L2 Evl PySem.Spec PyProof.Rows
theorem getD_rng {n s : Nat} {g : Nat → Nat} (h : s < n) : ((List.range n).map g).getD s 0 = g s := by
  rw [List.getD_eq_getElem?_getD, List.getElem?_map, List.getElem?_range h]
  rfl
theorem wayOf_at {M : Mach} {row : List Doc} {s : Nat} (h : s < M.steps.length) : (wayOf M row).m.getD s 0 = (row.map (docSt M)).foldl (stp M) s := getD_rng h
theorem way_ext {a b : Way} (h1 : a.m = b.m) (h2 : a.last = b.last) : a = b := by
  obtain ⟨m, l⟩ := a
  obtain ⟨m', l'⟩ := b
  have e1 : m = m' := h1
  have e2 : l = l' := h2
  rw [e1, e2]
theorem way_none (M : Mach) : wNone M = wayOf M [] := way_ext (by
  show List.range M.steps.length = (List.range M.steps.length).map fun s => s
  rw [List.map_id']) rfl
theorem last_nn : ∀ l : List Nat, lastOf l = -1 ↔ l = []
  | [] => ⟨fun _ => rfl, fun _ => rfl⟩
  | [x] => ⟨fun h => by
      have h' : ((x : Nat) : Int) = -1 := h
      omega, fun h => nomatch h⟩
  | x :: y :: r => ⟨fun h => by
      have h' : (-2 : Int) = -1 := h
      omega, fun h => nomatch h⟩
theorem last_two {l r : List Nat} (h1 : l ≠ []) (h2 : r ≠ []) : lastOf (l ++ r) = -2 := by
  cases l with
  | nil => exact absurd rfl h1
  | cons x l =>
    cases r with
    | nil => exact absurd rfl h2
    | cons y r =>
      cases l with
      | nil => rfl
      | cons z l => rfl
theorem docs_lt {M : Mach} (wf : M.Wf) (row : List Doc) : ∀ x ∈ row.map (docSt M), x < M.steps.length := fun x hx => by
  obtain ⟨d, _, rfl⟩ := List.mem_map.mp hx
  exact docSt_lt wf d
theorem way_app {M : Mach} (wf : M.Wf) (r1 r2 : List Doc) : wBeh (wayOf M r1) (wayOf M r2) = wayOf M (r1 ++ r2) := by
  refine way_ext ?_ ?_
  · show ((wayOf M r1).m.map fun s => (wayOf M r2).m.getD s 0) = (List.range M.steps.length).map fun s => ((r1 ++ r2).map (docSt M)).foldl (stp M) s
    show (((List.range M.steps.length).map fun s => (r1.map (docSt M)).foldl (stp M) s).map fun s => (wayOf M r2).m.getD s 0) = _
    rw [List.map_map]
    refine List.map_congr_left fun s hs => ?_
    show (wayOf M r2).m.getD ((r1.map (docSt M)).foldl (stp M) s) 0 = _
    rw [wayOf_at (fold_lt wf (List.mem_range.mp hs) (docs_lt wf r1)), List.map_append, List.foldl_append]
  · show (if lastOf (r2.map (docSt M)) = -1 then lastOf (r1.map (docSt M)) else if lastOf (r1.map (docSt M)) = -1 then lastOf (r2.map (docSt M)) else -2) = lastOf ((r1 ++ r2).map (docSt M))
    rw [List.map_append]
    generalize r1.map (docSt M) = l
    generalize r2.map (docSt M) = r
    by_cases h2 : r = []
    · rw [if_pos ((last_nn r).mpr h2), h2, List.append_nil]
    · rw [if_neg fun z => h2 ((last_nn r).mp z)]
      by_cases h1 : l = []
      · rw [if_pos ((last_nn l).mpr h1), h1, List.nil_append]
      · rw [if_neg fun z => h1 ((last_nn l).mp z), last_two h1 h2]
theorem way_one {M : Mach} (d : Doc) : wOne M (docSt M d) = wayOf M [d] := by
  refine way_ext ?_ rfl
  show (M.steps.map fun r => r.getD (docSt M d) 0) = (List.range M.steps.length).map fun s => stp M s (docSt M d)
  refine List.ext_getElem? fun i => ?_
  rw [List.getElem?_map, List.getElem?_map]
  by_cases hi : i < M.steps.length
  · rw [List.getElem?_range hi, get_lt [] hi]
    rfl
  · rw [List.getElem?_eq_none (by omega), List.getElem?_eq_none (by rw [List.length_range]; omega)]
    rfl
theorem docSt_way {M : Mach} (wf : M.Wf) (nm : Str) (row : List Doc) : docSt M (.mk nm row) = (wayOf M row).m.getD (stOf M nm) 0 := by rw [docSt_mk, wayOf_at (stOf_lt wf nm)]
mutual
theorem itW_full {M : Mach} (wf : M.Wf) (row : List Doc) : ∀ it : Item, itW M (wayOf M row) it = wayOf M (fullI row it)
  | .hole => by rw [fullI]; rfl
  | .el n ks => by
    have h := wGo_full wf row ks []
    show wOne M (iSt M (wayOf M row) (.el n ks)) = _
    rw [iSt, way_none, h, List.nil_append, ← docSt_way wf n (fullIs row ks), way_one, fullI]
theorem wGo_full {M : Mach} (wf : M.Wf) (row : List Doc) : ∀ (its : List Item) (pre : List Doc), wGo M (wayOf M row) (wayOf M pre) its = wayOf M (pre ++ fullIs row its)
  | [], pre => by rw [wGo, fullIs, List.append_nil]
  | it :: r, pre => by
    rw [wGo_cons, itW_full wf row it, way_app wf, wGo_full wf row r, fullIs, List.append_assoc]
end
theorem wFil_full {M : Mach} (wf : M.Wf) (row : List Doc) (its : List Item) : wFil M its (wayOf M row) = wayOf M (fullIs row its) := by
  unfold wFil
  rw [way_none, wGo_full wf, List.nil_append]
structure Plain (R : Rules) (M : Mach) : Prop where
  wf : M.Wf
  m : ∀ x ∈ M.names, Ltr x
  r : ∀ r ∈ R, Ltr r.1
section
variable {R : Rules} {M : Mach} {N : List Str} {S : List GSt}
def Doc.nm : Doc → Str
  | .mk n _ => n
def Doc.ks : Doc → List Doc
  | .mk _ k => k
/-- a place's pair -/
def pairOf (R : Rules) (M : Mach) (N : List Str) (d : Doc) : GSt := (N.idxOf d.nm, wayOf M (trs R d.ks))
theorem rule_none {x : Str} (h : ∀ r ∈ R, r.1 ≠ x) : ruleFor R x = none := by
  induction R with
  | nil => rfl
  | cons r R ih =>
    rw [ruleFor, if_neg (h r List.mem_cons_self)]
    exact ih fun r' hr => h r' (List.mem_cons_of_mem _ hr)
theorem st_absent {x : Str} (h : x ∉ M.names) : stOf M x = M.starts.getD M.names.length 0 := by
  unfold stOf
  rw [List.idxOf_eq_length h]
theorem nm_facts (pl : Plain R M) (mem : ∀ y, y ∈ N ↔ y ∈ M.names ∨ ∃ r ∈ R, r.1 = y) (x : Str) : ruleFor R (nmOf N (N.idxOf x)) = ruleFor R x ∧ stOf M (nmOf N (N.idxOf x)) = stOf M x := by
  by_cases h : x ∈ N
  · have hl := List.idxOf_lt_length_iff.mpr h
    have e : nmOf N (N.idxOf x) = x := by
      unfold nmOf
      rw [if_pos hl]
      exact getD_of (idx_get h).1
    rw [e]
    exact ⟨rfl, rfl⟩
  · have hl : ¬ N.idxOf x < N.length := fun z => h (List.idxOf_lt_length_iff.mp z)
    have e : nmOf N (N.idxOf x) = (("" : Str)) := by
      unfold nmOf
      rw [if_neg hl]
    have hno : x ∉ M.names ∧ ¬ ∃ r ∈ R, r.1 = x := by
      constructor
      · exact fun z => h ((mem x).mpr (.inl z))
      · exact fun z => h ((mem x).mpr (.inr z))
    rw [e]
    constructor
    · rw [rule_none (x := x) fun r hr z => hno.2 ⟨r, hr, z⟩, rule_none fun r hr z => (pl.r r hr).empty z]
    · rw [st_absent hno.1, st_absent fun z => (pl.m _ z).empty rfl]
/-- the turned way of a place's pair -/
theorem tw_pair (pl : Plain R M) (mem : ∀ y, y ∈ N ↔ y ∈ M.names ∨ ∃ r ∈ R, r.1 = y) (d : Doc) : tw R M N (pairOf R M N d) = wayOf M (tr R d) := by
  obtain ⟨nm, ks⟩ := d
  obtain ⟨h1, h2⟩ := nm_facts (N := N) pl mem nm
  show (match ruleFor R (nmOf N (N.idxOf nm)) with
    | none => wOne M ((wayOf M (trs R ks)).m.getD (stOf M (nmOf N (N.idxOf nm))) 0)
    | some its => wFil M its (wayOf M (trs R ks))) = _
  rw [h1, h2]
  cases q : ruleFor R nm with
  | none =>
    show wOne M ((wayOf M (trs R ks)).m.getD (stOf M nm) 0) = _
    rw [← docSt_way pl.wf, way_one, sz_tr_none q]
  | some its =>
    show wFil M its (wayOf M (trs R ks)) = _
    rw [wFil_full pl.wf, sz_tr_some q]
theorem told_len (R : Rules) (M : Mach) (N : List Str) (S : List GSt) : (told R M N S).steps.length = S.length := by
  unfold told
  rw [List.length_map, List.length_range]
theorem told_stp {a b : Nat} (ha : a < S.length) (hb : b < S.length) : stp (told R M N S) a b = ixS S (stepS R M N (gS S a) (gS S b)) := by
  unfold stp told
  have e : ((List.range S.length).map fun a => (List.range S.length).map fun b => ixS S (stepS R M N (gS S a) (gS S b))).getD a [] = (List.range S.length).map fun b => ixS S (stepS R M N (gS S a) (gS S b)) := by
    rw [List.getD_eq_getElem?_getD, List.getElem?_map, List.getElem?_range ha]
    rfl
  show ((((List.range S.length).map fun a => (List.range S.length).map fun b => ixS S (stepS R M N (gS S a) (gS S b))).getD a []).getD b 0) = _
  rw [e, getD_rng hb]
theorem gS_ix {s : GSt} (h : s ∈ S) : gS S (ixS S s) = s := getD_of (ix_get h)
theorem told_wf (G : Grown R M N S) (wf : M.Wf) (hN : N.length ≤ 60) : (told R M N S).Wf where
  st := by
    show ((sts0 M N).map (ixS S)).length = N.length + 1
    unfold sts0
    rw [List.length_map, List.length_map, List.length_range]
  ml := by
    rw [told_len]
    show (S.map (markS R M N)).length = S.length
    rw [List.length_map]
  pos := by
    rw [told_len]
    have h : ((0, wNone M) : GSt) ∈ S := G.st _ (List.mem_map.mpr ⟨0, List.mem_range.mpr (by omega), rfl⟩)
    exact List.length_pos_of_mem h
  sl := fun s hs => by
    rw [told_len]
    obtain ⟨t, ht, rfl⟩ := List.mem_map.mp (show s ∈ (sts0 M N).map (ixS S) from hs)
    exact ix_lt (G.st t ht)
  rl := fun r hr => by
    rw [told_len]
    obtain ⟨a, ha, rfl⟩ := List.mem_map.mp (show r ∈ (List.range S.length).map fun a => (List.range S.length).map fun b => ixS S (stepS R M N (gS S a) (gS S b)) from hr)
    refine ⟨by rw [List.length_map, List.length_range], fun x hx => ?_⟩
    obtain ⟨b, hb, rfl⟩ := List.mem_map.mp hx
    exact ix_lt (G.cl a b (List.mem_range.mp ha) (List.mem_range.mp hb))
  few := by
    rw [told_len]
    exact G.len
  nfew := Nat.le_trans (show N.length ≤ 60 from hN) (by decide)
  ffew := wf.ffew
theorem step_mem (G : Grown R M N S) {s t : GSt} (hs : s ∈ S) (ht : t ∈ S) : stepS R M N s t ∈ S := by
  have := G.cl _ _ (ix_lt hs) (ix_lt ht)
  rw [gS_ix hs, gS_ix ht] at this
  exact this
theorem start_mem (G : Grown R M N S) {i : Nat} (h : i ≤ N.length) : ((i, wNone M) : GSt) ∈ S := G.st _ (List.mem_map.mpr ⟨i, List.mem_range.mpr (by omega), rfl⟩)
theorem told_st (G : Grown R M N S) (x : Str) : stOf (told R M N S) x = ixS S (N.idxOf x, wNone M) := by
  have h : N.idxOf x ≤ N.length := List.idxOf_le_length
  unfold stOf told sts0
  show (((List.range (N.length + 1)).map fun n => ((n, wNone M) : GSt)).map (ixS S)).getD (N.idxOf x) 0 = _
  rw [List.map_map, getD_rng (g := ixS S ∘ fun n => ((n, wNone M) : GSt)) (by omega)]
  rfl
/-- the walk over the children: the pair's way grows -/
theorem fold_pair (G : Grown R M N S) (pl : Plain R M) (n : Nat) (hn : n ≤ N.length) : ∀ (ks : List Doc) (pre : List Doc), (∀ d ∈ ks, docSt (told R M N S) d = ixS S (pairOf R M N d) ∧ pairOf R M N d ∈ S) → ((n, wayOf M (trs R pre)) : GSt) ∈ S →
    (ks.map (docSt (told R M N S))).foldl (stp (told R M N S)) (ixS S (n, wayOf M (trs R pre))) = ixS S (n, wayOf M (trs R (pre ++ ks))) ∧ ((n, wayOf M (trs R (pre ++ ks))) : GSt) ∈ S
  | [], pre, _, hp => by
    rw [List.append_nil]
    exact ⟨rfl, hp⟩
  | d :: ks, pre, h, hp => by
    obtain ⟨h1, h2⟩ := h d List.mem_cons_self
    have hs := step_mem G hp h2
    have e : stepS R M N (n, wayOf M (trs R pre)) (pairOf R M N d) = (n, wayOf M (trs R (pre ++ [d]))) := by
      unfold stepS
      rw [tw_pair pl G.mem, way_app pl.wf, trs_app, trs_one]
    rw [e] at hs
    have ih := fold_pair G pl n hn ks (pre ++ [d]) (fun d' hd => h d' (List.mem_cons_of_mem _ hd)) hs
    rw [List.append_assoc] at ih
    rw [List.map_cons, List.foldl_cons, h1, told_stp (ix_lt hp) (ix_lt h2), gS_ix hp, gS_ix h2, e]
    exact ih
mutual
theorem docSt_told (G : Grown R M N S) (pl : Plain R M) : ∀ d : Doc, docSt (told R M N S) d = ixS S (pairOf R M N d) ∧ pairOf R M N d ∈ S
  | .mk nm ks => by
    have hk := docSts_told G pl ks
    have hn : N.idxOf nm ≤ N.length := List.idxOf_le_length
    have h0 := start_mem G hn
    rw [way_none] at h0
    have ih := fold_pair G pl (N.idxOf nm) hn ks [] hk (by rw [trs]; exact h0)
    rw [docSt_mk, told_st G, way_none]
    rw [trs, List.nil_append] at ih
    exact ih
theorem docSts_told (G : Grown R M N S) (pl : Plain R M) : ∀ ks : List Doc, ∀ d ∈ ks, docSt (told R M N S) d = ixS S (pairOf R M N d) ∧ pairOf R M N d ∈ S
  | [], d, h => nomatch h
  | k :: ks, d, h => by
    have h1 := docSt_told G pl k
    have h2 := docSts_told G pl ks
    rcases List.mem_cons.mp h with e | e
    · rw [e]
      exact h1
    · exact h2 d e
end
theorem mark_told (G : Grown R M N S) (pl : Plain R M) (d : Doc) : (told R M N S).marks.getD (docSt (told R M N S) d) 0 = markOf M (tr R d) := by
  obtain ⟨h1, h2⟩ := docSt_told G pl d
  rw [h1]
  have e : (told R M N S).marks.getD (ixS S (pairOf R M N d)) 0 = markS R M N (pairOf R M N d) := by
    show (S.map (markS R M N)).getD _ 0 = _
    rw [List.getD_eq_getElem?_getD, List.getElem?_map, ix_get h2]
    rfl
  rw [e]
  unfold markS
  rw [tw_pair pl G.mem]
  cases hr : tr R d with
  | nil => rfl
  | cons x r =>
    cases r with
    | nil =>
      have hx : ¬ ((wayOf M [x]).last < 0) := by
        show ¬ ((docSt M x : Nat) : Int) < 0
        omega
      rw [if_neg hx]
      show M.marks.getD (((docSt M x : Nat) : Int).toNat) 0 = M.marks.getD (docSt M x) 0
      rw [Int.toNat_natCast]
    | cons y r =>
      have hx : (wayOf M (x :: y :: r)).last < 0 := by
        show (-2 : Int) < 0
        decide
      rw [if_pos hx]
      rfl
end
end GF
set_option Elab.async false
set_option linter.all false
set_option maxRecDepth 100000
set_option maxHeartbeats 1000000
/-! Gf25: a place is right. -/
namespace GF
open PySem L2 Evl PySem.Spec PyProof.Rows
def flat1 : Dt → Bool
  | .i _ => true
  | .s _ => true
  | _ => false
theorem flat_same : ∀ l : List Dt, (∀ d ∈ l, flat1 d = true) → plainDs l = true ∧ wideDs l = true ∧ dpDs l = 0
  | [], _ => ⟨rfl, rfl, rfl⟩
  | x :: r, h => by
    obtain ⟨h1, h2, h3⟩ := flat_same r fun d hd => h d (List.mem_cons_of_mem _ hd)
    have hx := h x List.mem_cons_self
    rw [plainDs, wideDs, dpDs, h1, h2, h3]
    cases x <;> first | exact ⟨rfl, rfl, rfl⟩ | cases hx
theorem same_flat {l : List Dt} (h : ∀ d ∈ l, flat1 d = true) (hz : l.length ≤ 40000) : plainD (.t l) = true ∧ wideD (.t l) = true ∧ dpD (.t l) = 1 := by
  obtain ⟨h1, h2, h3⟩ := flat_same l h
  rw [plainD, wideD, dpD, h1, h2, h3, decide_eq_true hz]
  exact ⟨rfl, rfl, rfl⟩
theorem same_pair {s : GSt} (h : s.2.m.length ≤ 1000) : plainD (encS s) = true ∧ wideD (encS s) = true ∧ dpD (encS s) < 4 := by
  obtain ⟨h1, h2, h3⟩ := same_flat (l := s.2.m.map eN ++ [.i s.2.last]) (fun d hd => by
    rcases List.mem_append.mp hd with h | h
    · obtain ⟨n, _, rfl⟩ := List.mem_map.mp h
      rfl
    · rw [List.mem_singleton.mp h]
      rfl) (by rw [List.length_append, List.length_map]; show _ + 1 ≤ 40000; omega)
  have e : encS s = .t [eN s.1, .t (s.2.m.map eN ++ [.i s.2.last])] := rfl
  rw [e]
  generalize Dt.t (s.2.m.map eN ++ [.i s.2.last]) = w at h1 h2 h3 ⊢
  refine ⟨?_, ?_, ?_⟩
  · rw [plainD, plainDs, plainDs, plainDs, h1]
    rfl
  · rw [wideD, wideDs, wideDs, wideDs, h2]
    rfl
  · rw [dpD, dpDs, dpDs, dpDs, h3]
    show max 0 (max 1 0) + 1 < 4
    decide
structure PlaceOk (R : Rules) (M : Mach) (N : List Str) (S : List GSt) (d : Doc) : Prop where
  g : Grown R M N S
  p : Plain R M
  n : N.length ≤ 60
  h1 : d.ht ≤ 60
  z1 : d.sz ≤ 5000
  h2 : hts (tr R d) ≤ 60
  z2 : szs (tr R d) ≤ 5000
  h3 : hts (trs R d.ks) ≤ 60
  z3 : szs (trs R d.ks) ≤ 5000
def spPlace : Sp := spF (fun x : Rules × Mach × List Str × List GSt × Doc => [.d (encM (told x.1 x.2.1 x.2.2.1 x.2.2.2.1)), .d (.t (x.2.2.2.1.map encS)), .d (encM x.2.1), .d (encC x.2.2.2.2), .l ((tr x.1 x.2.2.2.2).map encC), .l ((trs x.1 x.2.2.2.2.ks).map encC)])
  (fun x => PlaceOk x.1 x.2.1 x.2.2.1 x.2.2.2.1 x.2.2.2.2) (fun _ => .b true)
section
variable {P : Program} {w : World} {K : PySem.W.Frag} {mg : Str → Option Value} {base : Heap} {f fD fW fM fS : Addr} {fd fdD fdW fdM fdS : FuncData}
abbrev pPlace : List Str := ["_law_told", "_law_pairs", "_law_table", "_law_doc", "_law_row", "_law_below"]
abbrev nPlace : List Str := ["_law_told", "_law_pairs", "_law_table", "_law_doc", "_law_row", "_law_below", "_law_state_here", "_law_number"]
theorem scPlace : FnScope nPlace pPlace (defScope sPlaceRight) := ⟨rfl, rfl, rfl, by decide +kernel, rfl, by decide +kernel, by decide +kernel⟩
theorem ok_place (B : Blt mg) (F : Df K mg "_law_place_right" sPlaceRight f fd) (CD : Cal P w K mg base CX0 61 "_law_doc_state" ["_law_table", "_law_doc"] (spDocState 60) fD fdD) (CW : Cal P w K mg base CX0 62 "_law_way" ["_law_table", "_law_row"] (spWay 60) fW fdW)
    (CM : Cal P w K mg base CX0 62 "_law_mark" ["_law_table", "_law_row"] (spMark 60) fM fdM) (CS : Cal P w K mg base CX0 5 "_law_same" ["_law_found", "_law_due"] (spSame 4) fS fdS) : Cal P w K mg base CX0 63 "_law_place_right" pPlace spPlace f fd := by
  refine F.cal (F.fn.ok scPlace (spF_len fun _ => rfl) (fun cdv A outer s H vs Q E hr h => ?_)) fun _ _ _ _ _ _ us hl => match us, hl with | [_, _, _, _, _, _], _ => rfl
  obtain ⟨⟨R, M, N, S, d⟩, as, ok, q⟩ := h
  have ok : PlaceOk R M N S d := ok
  have q : ∀ v H', Ex H H' → Rp H' v (.b true) → Q v H' := q
  have S0 := sl_start (N := nPlace) as
  have hr61 : Room 61 _ := hr.mono (by decide)
  have hr5 : Room 5 _ := hr.mono (by decide)
  refine ⟨_, pss_cons (ps_set (i := 6) scPlace.nd rfl (Or.inl rfl) (pe_cal CD hr61 (pa_cons (pv 0) (pa_cons (pv 3) pa_nil))))
    (pss_cons (ps_set (i := 7) scPlace.nd rfl (Or.inl rfl) (pe_callB (lenK K) (by rfl) B.len PySem.boot_len (pa_cons (pe_ix (ixT K) (pv 0) pe_int (fun _ _ => rfl)) pa_nil)))
    (pss_cons (ps_if (pt_cmpR op_in_seq (pe_ix (ixT K) (pv 3) pe_int (fun _ _ => rfl)) (pe_ix (ixT K) (pv 0) pe_int (fun _ _ => rfl)) (by rfl))
      (pss_one (ps_set (i := 7) scPlace.nd rfl (Or.inl rfl) (pe_fm PySem.F.plainAttrs_tuple PySem.F.slot_tuple_index PySem.F.type_tuple_index mt_tix (pe_ix (ixT K) (pv 0) pe_int (fun _ _ => rfl)) (pa_cons (pe_ix (ixT K) (pv 3) pe_int (fun _ _ => rfl)) pa_nil)))) pss_nil)
    (pss_cons (ps_if (pt_not (pt_val (pe_cal CS hr5 (pa_cons (pe_ix (ixT K) (pv 1) (pv 6) (fun _ _ => rfl)) (pa_cons (pe_tup (pa_cons (pv 7) (pa_cons (pe_cal CW hr (pa_cons (pv 2) (pa_cons (pv 5) pa_nil))) pa_nil))) pa_nil))))) (pss_one (ps_ret pe_bl)) pss_nil)
    (pss_one (ps_ret (pe_cal CS hr5 (pa_cons (pe_ix (ixT K) (pe_ix (ixT K) (pv 0) pe_int (fun _ _ => rfl)) (pv 6) (fun _ _ => rfl)) (pa_cons (pe_cal CM hr (pa_cons (pv 2) (pa_cons (pv 4) pa_nil))) pa_nil)))))))), ?_⟩
  have G := ok.g
  have pl := ok.p
  have wfT : (told R M N S).Wf := told_wf G pl.wf ok.n
  obtain ⟨d1, d2⟩ := docSt_told G pl d
  have hlt := docSt_lt wfT d
  rw [told_len] at hlt
  obtain ⟨nm, ks⟩ := d
  -- the state
  refine qs_set (d := eN (docSt (told R M N S) (.mk nm ks))) S0 (ed_call (told R M N S, Doc.mk nm ks) (ad_d (ed_var S0 rfl) (ad_d (ed_var S0 rfl) ad_nil)) ⟨wfT, ok.h1, ok.z1⟩) fun σ1 H1 e1 S1 => ?_
  refine qs_set (d := .i (N.length : Int)) S1 (ed_is (ed_lenF (ed_ixT (d := .f (N.map .s)) (ed_var S1 rfl) ed_int rfl)) (by rw [List.length_map])) fun σ2 H2 e2 S2 => ?_
  have nmD : ∀ {σ : L2.St} {H : Hp} {ss : List Sd}, Sl H σ ss → ss[3]? = some (.d (encC (.mk nm ks))) → EvD (tOp (rIxT K) (tVar 3) (tC (.int 0))) σ H (.s nm) := fun S i3 => ed_ixT (ds := [.s nm, .t (ks.map encC)]) (k := ((0 : Nat) : Int)) (ed_is (ed_var S i3) (encC_mk nm ks)) ed_int (atI_nat rfl)
  refine qs_ifset (d := .i ((N.idxOf nm : Nat) : Int)) S2 (et_ed (ed_inF (nmD S2 rfl) (ed_ixT (d := .f (N.map .s)) (ed_var S2 rfl) ed_int rfl))) (fun hb => ?_) (fun hb => ?_) fun σ3 H3 e3 S3 => ?_
  · exact ed_tix (ed_ixT (d := .f (N.map .s)) (ed_var S2 rfl) ed_int rfl) (nmD S2 rfl) (of_decide_eq_true hb)
  · have hno : nm ∉ N := of_decide_eq_false hb
    rw [List.idxOf_eq_length hno]
    rfl
  -- the pair
  have hpair : atI (S.map encS) ((docSt (told R M N S) (.mk nm ks) : Nat) : Int) = some (encS (pairOf R M N (.mk nm ks))) := by
    rw [d1]
    exact atI_nat (by rw [List.getElem?_map, ix_get d2]; rfl)
  have wl : (wayOf M (trs R ks)).m.length ≤ 1000 := by
    have := pl.wf.few
    unfold wayOf
    rw [List.length_map, List.length_range]
    omega
  have sp := same_pair (s := pairOf R M N (.mk nm ks)) wl
  have hw : ∀ {σ : L2.St} {H : Hp} {ss : List Sd}, Sl H σ ss → ss[2]? = some (.d (encM M)) → ss[5]? = some (.l ((trs R ks).map encC)) → EvD (tCall (spWay 60) [] E0 (tCons (tVar 2) (tCons (tVar 5) tNil))) σ H (encW (wayOf M (trs R ks))) := fun S i2 i5 =>
    ed_call (M, trs R ks) (ad_d (ed_var S i2) (ad_l (er_var S i5) ad_nil)) ⟨pl.wf, ok.h3, ok.z3⟩
  refine q_when (et_not (et_edB (ed_call (encS (pairOf R M N (.mk nm ks))) (ad_d (ed_ixT (ed_var S3 rfl) (ed_var S3 rfl) hpair) (ad_d (ed_tup (ds_cons (ed_var S3 rfl) (ds_cons (hw S3 rfl rfl) ds_nil)) (by simp)) ad_nil)) sp))) (fun hb H4 e4 => nomatch hb) (fun _ H4 e4 => ?_)
  have S4 := S3.ex e4
  have hmark : atI ((told R M N S).marks.map eN) ((docSt (told R M N S) (.mk nm ks) : Nat) : Int) = some (eN (markOf M (tr R (.mk nm ks)))) := by
    rw [← mark_told G pl (.mk nm ks)]
    refine at_eN (get_lt 0 ?_)
    have := wfT.ml
    rw [told_len] at this
    omega
  refine sd_ret (ed_call (eN (markOf M (tr R (.mk nm ks)))) (ad_d (ed_ixT (ed_ixT (d := .t ((told R M N S).marks.map eN)) (ed_var S4 rfl) ed_int rfl) (ed_var S4 rfl) hmark) (ad_d (ed_call (M, tr R (.mk nm ks)) (ad_d (ed_var S4 rfl) (ad_l (er_var S4 rfl) ad_nil)) ⟨pl.wf, ok.h2, ok.z2⟩) ad_nil)) ⟨rfl, rfl, by show 0 < 4; decide⟩) fun v H5 e5 r => ?_
  exact q v H5 (((e1.trans e2).trans (e3.trans e4)).trans e5) r
end
end GF
set_option Elab.async false
set_option linter.all false
set_option maxRecDepth 100000
set_option maxHeartbeats 1000000
/-! Gf26: how big the documents are. -/
namespace GF
open PySem L2 Evl PySem.Spec PyProof.Rows
theorem szs_erase (E : Nat → Doc) (m : Nat) : ∀ l : List Nat, m ∈ l → szs (l.map E) = (E m).sz + szs ((l.erase m).map E)
  | [], h => nomatch h
  | x :: r, h => by
    by_cases e : x = m
    · subst e
      rw [List.erase_cons_head, List.map_cons, szs]
    · have hm : m ∈ r := by
        rcases List.mem_cons.mp h with z | z
        · exact absurd z.symm e
        · exact z
      have he : (x :: r).erase m = x :: r.erase m := by
        rw [List.erase_cons_tail]
        simpa using e
      rw [he, List.map_cons, List.map_cons, szs, szs, szs_erase E m r hm]
      omega
theorem szs_pow (E : Nat → Doc) : ∀ (m : Nat) (l : List Nat), l.Nodup → (∀ x ∈ l, x < m) → (∀ x, x < m → (E x).sz ≤ 2 ^ x) → szs (l.map E) + 1 ≤ 2 ^ m
  | 0, l, _, h, _ => by
    cases l with
    | nil =>
      rw [List.map_nil, szs]
      exact Nat.le_refl _
    | cons x r => exact absurd (h x List.mem_cons_self) (Nat.not_lt_zero _)
  | m + 1, l, nd, h, hE => by
    have e2 : 2 ^ (m + 1) = 2 ^ m + 2 ^ m := by rw [Nat.pow_succ]; omega
    by_cases hm : m ∈ l
    · have ih := szs_pow E m (l.erase m) (nd.erase m) (fun x hx => by
        have h2 := (List.Nodup.mem_erase_iff nd).mp hx
        have h3 := h x h2.2
        have h4 := h2.1
        omega) fun x hx => hE x (by omega)
      have h5 := hE m (by omega)
      rw [szs_erase E m l hm]
      omega
    · have ih := szs_pow E m l nd (fun x hx => by
        have h3 := h x hx
        have h4 : x ≠ m := fun z => hm (z ▸ hx)
        omega) fun x hx => hE x (by omega)
      omega
theorem hts_le {l : List Doc} {m : Nat} (h : ∀ d ∈ l, d.ht ≤ m) : hts l ≤ m := by
  induction l with
  | nil => rw [hts]; exact Nat.zero_le _
  | cons x r ih =>
    rw [hts]
    have h1 := h x List.mem_cons_self
    have h2 := ih fun d hd => h d (List.mem_cons_of_mem _ hd)
    omega
theorem DocsOk.ex {H H' : Hp} {pd pk : Addr} {n : Nat} {docs : List Doc} {as : List Addr} {kd : Nat → List Nat} (e : Ex H H') (h : DocsOk H pd pk n docs as kd) : DocsOk H' pd pk n docs as kd := ⟨h.len, h.alen, h.L.ex e, h.K.ex e, h.made, h.kb, h.nd⟩
section
variable {H : Hp} {pd pk : Addr} {n : Nat} {docs : List Doc} {as : List Addr} {kd : Nat → List Nat}
theorem docs_size (D : DocsOk H pd pk n docs as kd) : ∀ (i k : Nat), k < n → n - k ≤ i → (docs.getD k noDoc).ht ≤ n - k ∧ (docs.getD k noDoc).sz ≤ 2 ^ (n - 1 - k)
  | 0, k, hk, hi => by omega
  | i + 1, k, hk, hi => by
    obtain ⟨nm, _, hd⟩ := D.made k hk
    have ih : ∀ j, k < j → j < n → (docs.getD j noDoc).ht ≤ n - j ∧ (docs.getD j noDoc).sz ≤ 2 ^ (n - 1 - j) := fun j h1 h2 => docs_size D i j h2 (by omega)
    rw [getD_of hd]
    constructor
    · rw [Doc.ht]
      have : hts ((kd k).map fun j => docs.getD j noDoc) ≤ n - k - 1 := hts_le fun d hd' => by
        obtain ⟨j, hj, rfl⟩ := List.mem_map.mp hd'
        have hb := D.kb k j hj
        have := (ih j hb.1 hb.2).1
        omega
      omega
    · rw [Doc.sz]
      have e1 : (kd k).map (fun j => docs.getD j noDoc) = ((kd k).map fun j => n - 1 - j).map fun x => docs.getD (n - 1 - x) noDoc := by
        rw [List.map_map]
        refine List.map_congr_left fun j hj => ?_
        have hb := D.kb k j hj
        show docs.getD j noDoc = docs.getD (n - 1 - (n - 1 - j)) noDoc
        congr 1
        omega
      have hnd : ((kd k).map fun j => n - 1 - j).Nodup := by
        have h0 := D.nd k
        unfold List.Nodup at h0 ⊢
        rw [List.pairwise_map]
        refine List.Pairwise.imp_of_mem (fun {a b} ha hb hne => ?_) h0
        have h1 := D.kb k a ha
        have h2 := D.kb k b hb
        omega
      have := szs_pow (fun x => docs.getD (n - 1 - x) noDoc) (n - 1 - k) ((kd k).map fun j => n - 1 - j) hnd (fun x hx => by
        obtain ⟨j, hj, rfl⟩ := List.mem_map.mp hx
        have hb := D.kb k j hj
        omega) fun x hx => by
          have hb := (ih (n - 1 - x) (by omega) (by omega)).2
          have e : n - 1 - (n - 1 - x) = x := by omega
          rw [e] at hb
          exact hb
      rw [e1]
      exact this
theorem place_ok {R : Rules} {M : Mach} {N : List Str} {S : List GSt} (D : DocsOk H pd pk n docs as kd) (hn : n ≤ 12) (hR : RulesOk 5 R) (G : Grown R M N S) (pl : Plain R M) (hN : N.length ≤ 60) (h4 : ∀ d ∈ docs, szs (tr R d) ≤ 400) {k : Nat} (hk : k < n) : PlaceOk R M N S (docs.getD k noDoc) := by
  obtain ⟨h1, h2⟩ := docs_size D n k hk (by omega)
  have hp : 2 ^ (n - 1 - k) ≤ 2 ^ 11 := Nat.pow_le_pow_right (by decide) (by omega)
  have hp2 : (2 : Nat) ^ 11 = 2048 := by decide
  have hm : docs.getD k noDoc ∈ docs := getD_mem _ (by rw [D.len]; exact hk)
  obtain ⟨nm, _, hd⟩ := D.made k hk
  have hg := getD_of (d := noDoc) hd
  have t1 := ht_tr (R := R) (m := 5) (by decide) hR.2.2 (docs.getD k noDoc)
  have t2 := ht_trs (R := R) (m := 5) (by decide) hR.2.2 (docs.getD k noDoc).ks
  have hks : hts (docs.getD k noDoc).ks ≤ 12 := by
    rw [hg] at h1 ⊢
    rw [Doc.ht] at h1
    show hts ((kd k).map fun j => docs.getD j noDoc) ≤ 12
    omega
  refine ⟨G, pl, hN, by omega, by omega, by omega, Nat.le_trans (h4 _ hm) (by decide), by omega, ?_⟩
  rw [hg]
  show szs (trs R ((kd k).map fun j => docs.getD j noDoc)) ≤ 5000
  have := szs_trs_le (R := R) (z := 400) (ks := (kd k).map fun j => docs.getD j noDoc) fun d hd' => by
    obtain ⟨j, hj, rfl⟩ := List.mem_map.mp hd'
    exact h4 _ (getD_mem _ (by rw [D.len]; exact (D.kb k j hj).2))
  have hl := nodup_lt n (kd k) (D.nd k) fun j hj => (D.kb k j hj).2
  rw [List.length_map] at this
  omega
end
end GF
set_option Elab.async false
set_option linter.all false
set_option maxRecDepth 100000
set_option maxHeartbeats 8000000
/-! Gf27: the law. -/
namespace GF
open PySem L2 Evl PySem.Spec PyProof.Rows
def spLaw (K : PySem.W.Frag) : Sp := fun vs H Q _ => ∃ (a : Addr) (ns : List Int), vs = [.ref a] ∧ SqL K H a (ns.map V.int) ∧ ns.length ≤ 63 ∧ ∀ H', Q (.bl true) H'
section
variable {X : Cx}
theorem maxK (K : PySem.W.Frag) (hc : X.calm = true) (h : X.K = K := by rfl) : CallR X (.builtin "max") (rMax K) := h ▸ cr_max hc
end
section
variable {K : PySem.W.Frag} {σ : L2.St} {H H' : Hp} {ta tb te : TE} {ss : List Sd}
theorem ev_max {ns : List Int} (ha : EvR ta σ H (ns.map .i)) (hne : 0 < ns.length) (Q : VK) (q : ∀ m H', m ∈ ns → (∀ y ∈ ns, y ≤ m) → Ex H H' → Q (.int m) H') : tCB (rMax K) (tCons ta tNil) σ H Q :=
  ha H (Ex.refl H) _ fun p H1 e L => by
    obtain ⟨xs, g1, g2⟩ := L
    have e3 := g2.ints
    subst e3
    exact ⟨p, ns, rfl, sq_of g1, hne, fun m hm hle => q m H1 hm hle e⟩
theorem ed_lenQ {i : Nat} {a : Addr} {ns : List Int} (S : Sl H σ ss) (h : ss[i]? = some (.v (.ref a))) (hq : SqL K H a (ns.map V.int)) : EvD (tCB (rLenS K) (tCons (tVar i) tNil)) σ H (.i (ns.length : Int)) := fun H1 e Q q =>
  cons_intro ((ev_varV S h) H1 e _ fun H2 e2 => ⟨a, ns.map V.int, rfl, .inl (ex_l (e.trans e2) hq), by rw [List.length_map]; exact q _ H2 e2 (.i _)⟩)
end
theorem tasg_intro {te : TE} {g : TG} {tz : TS} {D : Ends} {σ : L2.St} {H : Hp} (h : te σ H fun v H1 => g v σ H1 fun σ2 H2 => tz D σ2 H2) : tSeq (tAsg te g) tz D σ H := h
theorem asg1_intro {te : TE} {i : Nat} {D : Ends} {σ : L2.St} {H : Hp} (h : te σ H fun v H1 => D.nx (σ.set i (some v)) H1) : tAsg te (gName i) D σ H := h
theorem seq_intro {ta tz : TS} {D : Ends} {σ : L2.St} {H : Hp} (h : ta { D with nx := tz D } σ H) : tSeq ta tz D σ H := h
theorem callS_intro {sp : Sp} {E : L2.St → XK} {ta : TA} {σ : L2.St} {H : Hp} {Q : VK} (h : ta σ H fun vs H1 => sp vs H1 Q (E σ)) : tCallS sp E ta σ H Q := h
theorem Sl.nos {H H' : Hp} : ∀ {σ : L2.St} {ss : List Sd}, Sl H σ ss → Sl H' σ (List.replicate ss.length .no)
  | _, _, .nil => .nil
  | _, _, .cons p s => .cons trivial s.nos
section
variable {P : Program} {w : World} {K : PySem.W.Frag} {mg : Str → Option Value} {base : Heap} {CB CG CT : Addr}
  {f fNames fCell fMach fTurn fDeep fDocs fSizes fRows fSame fPlace fDrawn fStates : Addr} {fd dNames dCell dMach dTurn dDeep dDocs dSizes dRows dSame dPlace dDrawn dStates : FuncData}
abbrev nLaw : List Str := ["_law_script", "_law_pool", "_law_table", "_law_rules", "_law_cells", "_law_docs", "_law_kids", "_law_counts", "_law_refused", "_law_told", "_law_pairs", "_law_rows", "_law_k", "_law_below", "_law_j"]
theorem scLaw : FnScope nLaw ["_law_script"] (defScope sLaw) := ⟨rfl, rfl, rfl, by decide +kernel, rfl, by decide +kernel, by decide +kernel⟩
theorem ok_law (B : Blt mg) (F : Df K mg "law" sLaw f fd) (T : Txt K mg CB CG CT) (CNa : Cal P w K mg base CX0 1 "_law_names" ["_law_cell"] spNames fNames dNames) (CC : Cal P w K mg base CX0 1 "_law_cell_at" ["_law_script", "_law_k"] (spCellAt K) fCell dCell)
    (CM : Cal P w K mg base CX0 3 "_law_machine" ["_law_script", "_law_start", "_law_pool", "_law_most"] (spMachine K) fMach dMach) (CT' : Cal P w K mg base CX0 4 "_law_turner" ["_law_script", "_law_start", "_law_most", "_law_pool", "_law_deep"] (spTurner K) fTurn dTurn)
    (CD : Cal P w K mg base CX0 3 "_law_deepened" ["_law_rules", "_law_cell", "_law_pool", "_law_most"] spDeepened fDeep dDeep) (CF : Cal P w K mg base CX0 1 "_law_free_docs" ["_law_cells", "_law_pool"] spFreeDocs fDocs dDocs)
    (CS : Cal P w K mg base CX0 8 "_law_sizes" ["_law_rules", "_law_docs", "_law_kids"] spSizes fSizes dSizes) (CR : Cal P w K mg base CX0 8 "_law_turned_rows" ["_law_rules", "_law_docs", "_law_kids", "_law_counts", "_law_most"] spRows fRows dRows)
    (CSa : Cal P w K mg base CX0 5 "_law_same" ["_law_found", "_law_due"] (spSame 4) fSame dSame) (CP : Cal P w K mg base CX0 63 "_law_place_right" pPlace spPlace fPlace dPlace)
    (CDr : Cal P w K mg base (L2.CX P w) 18 "drawn_back" ["turner", "machine"] (spBack CT outD) fDrawn dDrawn) (CSt : Cal P w K mg base (L2.CX P w) 18 "back_states" ["turner", "machine"] (spBack CT outS) fStates dStates) :
    FnOk P w K mg base CX0 64 f fd ["_law_script"] (spLaw K) := by
  refine F.fn.ok scLaw (fun vs H Q E h => ?_) (fun cdv A outer s H vs Q E hr h => ?_)
  · obtain ⟨a, ns, rfl, _⟩ := h
    rfl
  have hr1 : Room 1 _ := hr.mono (by decide)
  have hr3 : Room 3 _ := hr.mono (by decide)
  have hr4 : Room 4 _ := hr.mono (by decide)
  have hr5 : Room 5 _ := hr.mono (by decide)
  have hr8 : Room 8 _ := hr.mono (by decide)
  have hr18 : Room 18 _ := hr.mono (by decide)
  refine ⟨_, pss_cons (ps_set (i := 1) scLaw.nd rfl (Or.inl rfl) (pe_cal CNa hr1 (pa_cons (pe_cal CC hr1 (pa_cons (pv 0) (pa_cons pe_int pa_nil))) pa_nil)))
    (pss_cons (ps_set (i := 2) scLaw.nd rfl (Or.inl rfl) (pe_cal CM hr3 (pa_cons (pv 0) (pa_cons pe_int (pa_cons (pv 1) (pa_cons pe_int pa_nil))))))
    (pss_cons (ps_set (i := 3) scLaw.nd rfl (Or.inl rfl) (pe_cal CT' hr4 (pa_cons (pv 0) (pa_cons pe_int (pa_cons pe_int (pa_cons (pv 1) (pa_cons pe_int pa_nil)))))))
    (pss_cons (ps_set (i := 3) scLaw.nd rfl (Or.inl rfl) (pe_cal CD hr3 (pa_cons (pv 3) (pa_cons (pe_cal CC hr1 (pa_cons (pv 0) (pa_cons pe_int pa_nil))) (pa_cons (pv 1) (pa_cons pe_int pa_nil))))))
    (pss_cons (ps_setLc (i := 4) (own := [("_law_k", 12)]) (g := gName 12) (tt := tYes) rfl scLaw.nd rfl rfl (sw_true rfl rfl rfl (by decide +kernel)) (pi_range1 (by rfl) B.range (pa_cons (pe_callB (call_max2 rfl) (by rfl) B.max (by decide +kernel) (pa_cons pe_int (pa_cons (pe_callB (call_min2 rfl) (by rfl) B.min (by decide +kernel) (pa_cons pe_int (pa_cons (pe_op op_sub (pe_callB (lenK K) (by rfl) B.len PySem.boot_len (pa_cons (pv 0) pa_nil)) pe_int) pa_nil))) pa_nil))) pa_nil)) (blkOk_by (N := nLaw) (sc := defScope sLaw) (by decide +kernel))
      (fun _ _ _ _ _ => pg_name (i := 12) scLaw.nd rfl (Or.inl rfl)) (fun _ _ _ _ _ => pts_nil) (fun _ _ _ _ _ => pe_cal CC hr1 (pa_cons (pv 0) (pa_cons (pe_op op_add pe_int (pv 12)) pa_nil))))
    (pss_cons (ps_asg (pe_cal CF hr1 (pa_cons (pv 4) (pa_cons (pv 1) pa_nil))) (pgTup K (n := 2) rfl (pgs_cons (pg_name (i := 5) scLaw.nd rfl (Or.inl rfl)) (pgs_cons (pg_name (i := 6) scLaw.nd rfl (Or.inl rfl)) pgs_nil))))
    (pss_cons (ps_set (i := 7) scLaw.nd rfl (Or.inl rfl) (pe_cal CS hr8 (pa_cons (pv 3) (pa_cons (pv 5) (pa_cons (pv 6) pa_nil)))))
    (pss_cons (ps_set (i := 8) scLaw.nd rfl (Or.inl rfl) pe_bl)
    (pss_cons (ps_set (i := 9) scLaw.nd rfl (Or.inl rfl) pe_non)
    (pss_cons (ps_set (i := 10) scLaw.nd rfl (Or.inl rfl) pe_non)
    (pss_cons (ps_try_only (tb := fun W => tSeq (tAsg (tCallS (spBack CT outD) (WE W) (tCons (tVar 3) (tCons (tVar 2) tNil))) (gName 9)) (tAsg (tCallS (spBack CT outS) (WE W) (tCons (tVar 3) (tCons (tVar 2) tNil))) (gName 10))) (ts := fun _ _ _ => tAsg (tC (.bl true)) (gName 8)) (Wout := fun _ _ _ _ => False) rfl rfl ⟨rfl, by decide, Or.inl T.gT⟩ takes0
      (fun W pn xe tk _ => pss_cons (ps_set (i := 9) scLaw.nd rfl (Or.inl rfl) (pe_callS CDr.ok hr18 (by rfl) CDr.mg CDr.kp CDr.bd (fun σ => passAt tk σ) (pa_cons (pv 3) (pa_cons (pv 2) pa_nil))))
        (pss_one (ps_set (i := 10) scLaw.nd rfl (Or.inl rfl) (pe_callS CSt.ok hr18 (by rfl) CSt.mg CSt.kp CSt.bd (fun σ => passAt tk σ) (pa_cons (pv 3) (pa_cons (pv 2) pa_nil))))))
      (fun _ _ _ _ _ _ _ => pss_one (ps_set (i := 8) scLaw.nd rfl (Or.inl rfl) pe_bl)))
    (pss_cons (ps_if (PW.pt (pw_or (pt_val (pv 8)) (pw_or1 (pt_cmpR op_gt (pe_callB (maxK K rfl) (by rfl) B.max (by decide +kernel) (pa_cons (pv 7) pa_nil)) pe_int (nomark _))))) (pss_one (ps_ret pe_bl)) pss_nil)
    (pss_cons (ps_set (i := 11) scLaw.nd rfl (Or.inl rfl) (pe_cal CR hr8 (pa_cons (pv 3) (pa_cons (pv 5) (pa_cons (pv 6) (pa_cons (pv 7) (pa_cons pe_int pa_nil)))))))
    (pss_cons (ps_if (PW.pt (pw_or (pt_not (pt_val (pe_cal CSa hr5 (pa_cons (pe_ix (ixT K) (pv 9) pe_int (fun _ _ => rfl)) (pa_cons (pe_ix (ixT K) (pv 2) pe_int (fun _ _ => rfl)) pa_nil)))))
        (pw_or1 (pt_cmpR op_ne (pe_callB (lenK K) (by rfl) B.len PySem.boot_len (pa_cons (pv 10) pa_nil)) (pe_callB (lenK K) (by rfl) B.len PySem.boot_len (pa_cons (pe_ix (ixT K) (pv 9) pe_int (fun _ _ => rfl)) pa_nil)) (nomark _))))) (pss_one (ps_ret pe_bl)) pss_nil)
    (pss_cons (ps_for PassesOwn.never rfl (pi_range1 (by rfl) B.range (pa_cons (pe_callB (lenK K) (by rfl) B.len PySem.boot_len (pa_cons (pv 5) pa_nil)) pa_nil)) (pg_name (i := 12) scLaw.nd rfl (Or.inl rfl))
      (pss_cons (ps_set (i := 13) scLaw.nd rfl (Or.inl rfl) (pe_lst pa_nil))
      (pss_cons (ps_for PassesOwn.never rfl (pi_list (pe_ix (ixL K) (pv 6) (pv 12) (fun _ _ => rfl))) (pg_name (i := 14) scLaw.nd rfl (Or.inl rfl))
        (pss_one (ps_expr (pe_bm PySem.F.plainAttrs_list PySem.F.slot_list_extend PySem.F.type_list_extend mt_extend (pv 13) (pa_cons (pe_ix (ixL K) (pv 11) (pv 14) (fun _ _ => rfl)) pa_nil)))))
      (pss_one (ps_if (pt_not (pt_val (pe_cal CP hr (pa_cons (pv 9) (pa_cons (pv 10) (pa_cons (pv 2) (pa_cons (pe_ix (ixL K) (pv 5) (pv 12) (fun _ _ => rfl)) (pa_cons (pe_ix (ixL K) (pv 11) (pv 12) (fun _ _ => rfl)) (pa_cons (pv 13) pa_nil))))))))) (pss_one (ps_ret pe_bl)) pss_nil)))))
    (pss_one (ps_ret pe_bl)))))))))))))))), ?_⟩
  obtain ⟨a, ns, rfl, hS, h63, q⟩ := h
  have S0 : Sl H (L2.start nLaw [.ref a]) [.v (.ref a), .no, .no, .no, .no, .no, .no, .no, .no, .no, .no, .no, .no, .no, .no] := .cons rfl (Sl.rep 14)
  -- pool
  refine asg_intro (call_intro (cons_intro ((ed_cell S0 rfl hS ed_int (by decide)) H (Ex.refl H) _ fun v0 H1 e1 r0 => ?_)))
  refine ⟨cellV ns 0, by rw [r0.int]; rfl, fun xs pl H2 h9 hL hpl e2 LP => ?_⟩
  have E2 := e1.trans e2
  have S2 := (S0.ex E2).setV 1 (.ref pl)
  -- table
  refine asg_intro (call_intro ((ea_cons (ev_varV S2 (i := 0) rfl) (ea_cons ev_c (ea_cons (ev_varV S2 (i := 1) rfl) (ea_cons ev_c ea_nil)))) H2 (Ex.refl H2) _ fun H3 e3 => ?_))
  refine ⟨a, ns, 1, pl, xs, rfl, ex_l (E2.trans e3) hS, by decide, LP.ex e3, hL, h9, fun M vM H4 e4 wf nl nL sl fl rM => ?_⟩
  have E4 := (E2.trans e3).trans e4
  have P4 := (LP.ex e3).ex e4
  have S4 := ((S2.ex e3).ex e4).setD 2 rM
  -- rules
  refine asg_intro (call_intro ((ea_cons (ev_varV S4 (i := 0) rfl) (ea_cons ev_c (ea_cons ev_c (ea_cons (ev_varV S4 (i := 1) rfl) (ea_cons ev_c ea_nil))))) H4 (Ex.refl H4) _ fun H5 e5 => ?_))
  refine ⟨a, ns, 5, pl, xs, rfl, ex_l (E4.trans e5) hS, P4.ex e5, hL, h9, fun R0 vR H6 e6 hR0 rR => ?_⟩
  have E6 := (E4.trans e5).trans e6
  have P6 := (P4.ex e5).ex e6
  have S6 := ((S4.ex e5).ex e6).setD 3 rR
  refine asg_intro (call_intro (cons_intro ((ed_var S6 (i := 3) rfl) H6 (Ex.refl H6) _ fun v7 H7 e7 r7 => cons_intro ((ed_cell (k := 10) (S6.ex e7) (i := 0) rfl (ex_l (E6.trans e7) hS) ed_int (by decide)) H7 (Ex.refl H7) _ fun v8 H8 e8 r8 =>
    cons_intro ((ev_varV ((S6.ex e7).ex e8) (i := 1) rfl) H8 (Ex.refl H8) _ fun H9 e9 => cons_intro (ev_c H9 (Ex.refl H9) _ fun HA eA => ?_))))))
  have e6A := ((e7.trans e8).trans e9).trans eA
  refine ⟨v7, R0, cellV ns 10, pl, xs, by rw [r8.int]; rfl, r7.ex ((e8.trans e9).trans eA), hR0, P6.ex e6A, hL, h9, fun R vR2 HB eB hR rR2 => ?_⟩
  have EB := (E6.trans e6A).trans eB
  have PB := (P6.ex e6A).ex eB
  have SB := ((S6.ex e6A).ex eB).setD 3 rR2
  -- cells
  obtain ⟨n, hn, hn1, hn12⟩ : ∃ n : Nat, (if (if (ns.length : Int) - 11 < 12 then (ns.length : Int) - 11 else 12) > 1 then (if (ns.length : Int) - 11 < 12 then (ns.length : Int) - 11 else 12) else 1) = (n : Int) ∧ 1 ≤ n ∧ n ≤ 12 := by
    have h1 : ∃ z : Int, (if (ns.length : Int) - 11 < 12 then (ns.length : Int) - 11 else 12) = z ∧ z ≤ 12 := by
      split
      · exact ⟨_, rfl, by omega⟩
      · exact ⟨_, rfl, by omega⟩
    obtain ⟨z, hz, hz2⟩ := h1
    rw [hz]
    split
    · exact ⟨z.toNat, by omega, by omega, by omega⟩
    · exact ⟨1, rfl, by omega, by omega⟩
  refine qs_setN SB (en_lcR (n := n) (fun k => Dt.i (cellV ns (11 + (k : Int)))) (ds_cons (ed_is (ed_max ed_int (ed_min ed_int (ed_i0 (ed_lenQ SB rfl (ex_l EB hS)) ed_int))) (by rw [hn])) ds_nil) (by omega) (fun k Ha hk ea => ?_)) fun pcl σC HC hpcl eC LC SC => ?_
  · have S12 := (SB.ex ea).setD 12 (.i (k : Int))
    exact ed_cell S12 rfl (ex_l (EB.trans ea) hS) (ed_i0 ed_int (ed_var S12 rfl)) (by omega)
  have EC := EB.trans eC
  have LC' : Ls HC pcl (((List.range n).map fun k : Nat => cellV ns (11 + (k : Int))).map .i) := by
    rw [List.map_map]
    exact LC
  have hcl : ((List.range n).map fun k : Nat => cellV ns (11 + (k : Int))).length = n := by rw [List.length_map, List.length_range]
  -- documents
  refine tasg_intro (call_intro ((ea_cons (ev_varV SC (i := 4) rfl) (ea_cons (ev_varV SC (i := 1) rfl) ea_nil)) HC (Ex.refl HC) _ fun HD eD => ?_))
  refine ⟨pcl, _, pl, xs, rfl, LC'.ex eD, by rw [hcl]; exact hn1, by rw [hcl]; exact hn12, (PB.ex eC).ex eD, hL, h9, fun at' pd pk docs as kd HE eE hat hDoc => ?_⟩
  rw [hcl] at hDoc
  have EE := (EC.trans eD).trans eE
  refine ⟨at', _, rfl, st_of hat, rfl, _, _, rfl, _, _, rfl, rfl, ?_⟩
  have SE := (((SC.ex eD).ex eE).setV 5 (.ref pd)).setV 6 (.ref pk)
  -- sizes
  refine asg_intro (call_intro (cons_intro ((ed_var SE (i := 3) rfl) HE (Ex.refl HE) _ fun v1 HF eF r1 => (ea_cons (ev_varV (SE.ex eF) (i := 5) rfl) (ea_cons (ev_varV (SE.ex eF) (i := 6) rfl) ea_nil)) HF (Ex.refl HF) _ fun HG eG => ?_)))
  have eEG := eF.trans eG
  refine ⟨v1, R, pd, pk, n, docs, as, kd, rfl, r1.ex eG, hR, hn12, hDoc.ex eEG, fun pc HI hpc eI LI => ?_⟩
  have eEI := eEG.trans eI
  have SI := (SE.ex eEI).setV 7 (.ref pc)
  have DI' := hDoc.ex eEI
  refine qs_set (d := .b false) SI ed_bl fun σJ HJ eJ SJ => qs_set (d := .n) SJ ed_non fun σL HL eL SL => qs_set (d := .n) SL ed_non fun σM HM eM SM => ?_
  have eIM := (eJ.trans eL).trans eM
  have DM := DI'.ex eIM
  have LM := LI.ex eIM
  -- where it is refused
  have hexc : ∀ {tu tz : TS} {u : TT} {σ : L2.St} {H1 : Hp} {ss : List Sd}, Sl H1 σ ss → ss.length = 15 → ∀ H', tSeq (tIfS (tOr (tB (tVar 8)) u) (tRet (tC (.bl true))) tNext) tz { nx := fun _ H' => Q .non H', rt := Q } (σ.set 8 (some (.bl true))) H' := fun {tu tz u σ H1 ss} S1 hl H' => by
    have S8 : Sl H' (σ.set 8 (some (.bl true))) ((List.replicate ss.length Sd.no).set 8 (.d (.b true))) := (S1.nos (H' := H')).setD 8 (.b true)
    have i8 : ((List.replicate ss.length Sd.no).set 8 (.d (.b true)))[8]? = some (.d (.b true)) := by rw [hl]; rfl
    exact q_when (b := true) (et_or (a := true) (b := false) (et_edB (ed_var S8 i8)) (fun z => nomatch z)) (fun _ H2 e2 => sd_ret ed_bl fun v H3 e3 r => by rw [r.bl]; exact q H3) (fun z => nomatch z)
  refine seq_intro ?_
  refine asg_intro (callS_intro (cons_intro ((ed_var SM (i := 3) rfl) HM (Ex.refl HM) _ fun v2 HN eNn r2 => cons_intro ((ed_var (SM.ex eNn) (i := 2) rfl) HN (Ex.refl HN) _ fun v3 HO eO r3 => ?_))))
  refine ⟨v2, v3, R, M, rfl, r2.ex eO, r3, wf, nl, hR, fun H' => ⟨true, T.eT, fun _ a0 _ => hexc (tu := tNext) SM rfl H', fun z => nomatch z⟩, fun N S vT HP eP gr rT => ?_⟩
  have eMP := (eNn.trans eO).trans eP
  have SP' := (SM.ex eMP).setD 9 rT
  refine asg1_intro (callS_intro (cons_intro ((ed_var SP' (i := 3) rfl) HP (Ex.refl HP) _ fun v4 HQ eQ r4 => cons_intro ((ed_var (SP'.ex eQ) (i := 2) rfl) HQ (Ex.refl HQ) _ fun v5 HR eR r5 => ?_))))
  refine ⟨v4, v5, R, M, rfl, r4.ex eR, r5, wf, nl, hR, fun H' => ⟨true, T.eT, fun _ a0 _ => hexc (tu := tNext) SP' rfl H', fun z => nomatch z⟩, fun N' S' vS HT eT gr' rS => ?_⟩
  obtain ⟨hNN, hSS⟩ := gr.one gr'
  subst hNN hSS
  have ePT := (eQ.trans eR).trans eT
  have ST := (SP'.ex ePT).setD 10 rS
  have eMT := eMP.trans ePT
  have DT := DM.ex eMT
  have LT := LM.ex eMT
  have hpl : Plain R M := ⟨wf, nL, hR.2.1⟩
  have hN := lenN nl hR gr.ns gr.mem
  have hlen : docs.length = n := DT.len
  -- the counts
  have hcnt : EvT (tOr (tB (tVar 8)) (tTest (tOp (rI0 fun i j => .bl (decide (j < i))) (tCB (rMax K) (tCons (tVar 7) tNil)) (tC (.int 400))))) ((σM.set 9 (some vT)).set 10 (some vS)) HT (false || decide (∃ d ∈ docs, 400 < szs (tr R d))) := by
    refine et_or (et_edB (ed_var ST rfl)) fun _ => ?_
    intro Ha ea Qa qa
    refine op_intro (ev_max (ns := docs.map fun d => ((szs (tr R d) : Nat) : Int)) (er_varA (ST.ex ea) rfl (by rw [List.map_map]; exact LT.ex ea)) (by rw [List.length_map]; omega) _ fun m Hb hm hle eb => ?_)
    refine ⟨m, 400, rfl, rfl, _, rfl, ?_⟩
    have e : decide (400 < m) = decide (∃ d ∈ docs, 400 < szs (tr R d)) := by
      by_cases h : ∃ d ∈ docs, 400 < szs (tr R d)
      · rw [decide_eq_true h]
        obtain ⟨d, hd, hgt⟩ := h
        have := hle _ (List.mem_map_of_mem (f := fun d => ((szs (tr R d) : Nat) : Int)) hd)
        exact decide_eq_true (by omega)
      · rw [decide_eq_false h]
        obtain ⟨d, hd, rfl⟩ := List.mem_map.mp hm
        have : ¬ 400 < szs (tr R d) := fun z => h ⟨d, hd, z⟩
        exact decide_eq_false (by omega)
    rw [e]
    exact qa Hb eb
  refine q_when hcnt (fun _ H1 _ => ?_) (fun hb HU eU => ?_)
  · exact sd_ret ed_bl fun v H2 e2 r => by rw [r.bl]; exact q H2
  have h400 : ∀ d ∈ docs, szs (tr R d) ≤ 400 := fun d hd => by
    have h : ¬ ∃ d ∈ docs, 400 < szs (tr R d) := by
      rw [Bool.false_or] at hb
      exact of_decide_eq_false hb
    exact Nat.le_of_not_lt fun z => h ⟨d, hd, z⟩
  have SU := ST.ex eU
  -- rows
  refine asg_intro (call_intro (cons_intro ((ed_var SU (i := 3) rfl) HU (Ex.refl HU) _ fun v6 HV eV r6 => (ea_cons (ev_varV (SU.ex eV) (i := 5) rfl) (ea_cons (ev_varV (SU.ex eV) (i := 6) rfl) (ea_cons (ev_varV (SU.ex eV) (i := 7) rfl) (ea_cons ev_c ea_nil)))) HV (Ex.refl HV) _ fun HW eW => ?_)))
  have eTW := (eU.trans eV).trans eW
  refine ⟨v6, R, pd, pk, pc, n, docs, as, kd, rfl, r6.ex eW, hR, hn12, DT.ex eTW, LT.ex eTW, h400, fun pr HX eX rows => ?_⟩
  have eTX := eTW.trans eX
  have SX := ((SU.ex (eV.trans eW)).ex eX).setV 11 (.ref pr)
  have DX := DT.ex eTX
  have wfT := told_wf gr wf (by omega)
  -- the forms
  refine q_when (et_or (a := false) (b := false) (et_not (a := true) (et_edB (ed_call (Dt.t (M.forms.map .s)) (ad_d (ed_ixT (d := .t (M.forms.map .s)) (ed_var SX (i := 9) rfl) ed_int rfl) (ad_d (ed_ixT (d := .t (M.forms.map .s)) (ed_var SX (i := 2) rfl) ed_int rfl) ad_nil)) ?_))) fun _ => ?_) (fun hb' => nomatch hb') (fun _ HY eY => ?_)
  · obtain ⟨h1, h2, h3⟩ := same_flat (l := M.forms.map Dt.s) (fun d hd => by
      obtain ⟨x, _, rfl⟩ := List.mem_map.mp hd
      rfl) (by rw [List.length_map]; omega)
    exact ⟨h1, h2, by rw [h3]; decide⟩
  · have h := et_ed (ed_ne (ed_lenT (K := K) (ds := S.map encS) (ed_var SX (i := 10) rfl)) (ed_lenT (K := K) (ds := (told R M N S).marks.map eN) (ed_ixT (K := K) (ds := [.t (M.forms.map .s), .f (N.map .s), .t ((told R M N S).starts.map eN), .t ((told R M N S).steps.map fun r => .t (r.map eN)), .t ((told R M N S).marks.map eN)]) (k := ((4 : Nat) : Int)) (ed_var SX (i := 9) rfl) ed_int (atI_nat rfl))) rfl rfl rfl)
    have e : (!decide (V.int (((S.map encS).length : Nat) : Int) = V.int ((((told R M N S).marks.map eN).length : Nat) : Int))) = false := by
      have : (told R M N S).marks.length = S.length := by
        show (S.map (markS R M N)).length = _
        rw [List.length_map]
      rw [List.length_map, List.length_map, this, decide_eq_true rfl]
      rfl
    rw [e] at h
    exact h
  have SY := SX.ex eY
  have DY := DX.ex eY
  have RY := rows.ex eY
  -- every place
  refine qd_forR (n := n) (ds_cons (ed_is (ed_lenL (er_varA SY (i := 5) rfl DY.L)) (by rw [List.length_map, hlen])) ds_nil) (by omega)
    (fun i σ' H' => Ex HY H' ∧ Sl H' σ' [.v (.ref a), .v (.ref pl), .d (encM M), .d (encRs R), .v (.ref pcl), .v (.ref pd), .v (.ref pk), .v (.ref pc), .d (.b false), .d (encM (told R M N S)), .d (.t (S.map encS)), .v (.ref pr), .no, .no, .no])
    (fun Ha e => ⟨e, SY.ex e⟩) (fun k σ' H' hk pv => ?_) (fun σ' H' pv => ?_)
  · obtain ⟨q1, q2⟩ := pv
    have T1 := q2.setD 12 (.i (k : Int))
    have D1 := DY.ex q1
    refine qs_setN T1 (en_lst ds_nil (by simp)) fun pb σ3 H3 hpb e3 L3 S3 => ?_
    have E3 := q1.trans e3
    have hpb0 : HY pb = none := fresh_back q1 hpb
    have D3 := DY.ex E3
    have R3 := RY.ex E3
    obtain ⟨aK, haK⟩ : ∃ aK, as[k]? = some aK := ⟨_, List.getElem?_eq_getElem (by rw [DY.alen]; exact hk)⟩
    have nK : aK ≠ pb := (DY.K.ls k aK haK).ne hpb0
    obtain ⟨rv, g1, g2⟩ := RY
    refine qd_forA (xs := kd k) (p := aK) eN (ev_ixR (ev_varV S3 rfl) D3.K.top (ed_var S3 rfl) haK) (D3.K.ls k aK haK)
      (fun pre σ' H' => Exb pb H3 H' ∧ Tk H3 H' ∧ Sl H' σ' [.v (.ref a), .v (.ref pl), .d (encM M), .d (encRs R), .v (.ref pcl), .v (.ref pd), .v (.ref pk), .v (.ref pc), .d (.b false), .d (encM (told R M N S)), .d (.t (S.map encS)), .v (.ref pr), .d (.i (k : Int)), .v (.ref pb), .no] ∧ Ls H' pb ((trs R (pre.map fun j => docs.getD j noDoc)).map encC))
      (fun Ha e => ⟨Exb.of e, Tk.ex e, S3.ex e, L3.ex e⟩) (fun pre σ' H' p => ⟨p.2.1, fun o h => p.1 _ _ nK h⟩) (fun pre j post x σ4 H4 es p r => ?_) (fun σ4 H4 p => ?_)
    · obtain ⟨p1, p2, p3, p4⟩ := p
      have hjm : j ∈ kd k := by rw [es]; simp
      have hjb := DY.kb k j hjm
      have Sj := p3.setD 14 r
      have X4 : Ex HY H4 := Exb.ex p1 E3 hpb0
      obtain ⟨aj, g5, g6⟩ := g2 j (docs.getD j noDoc) (get_lt noDoc (by rw [hlen]; exact hjb.2))
      have hpre : ∀ jj ∈ pre, jj < n := fun jj hjj => (DY.kb k jj (by rw [es]; simp [hjj])).2
      have hlp : pre.length ≤ n := by
        have h1 := nodup_lt n (kd k) (DY.nd k) fun j hj => (DY.kb k j hj).2
        have := congrArg List.length es
        rw [List.length_append] at this
        omega
      refine sd_ext (ev_varV Sj rfl) p4 (er_ev (ev_ixV (ev_varV Sj rfl) (X4 _ _ g1) (ed_var Sj rfl) g5) (g6.ex X4)) ?_ fun Hb Hc eb b L => ?_
      · rw [List.length_map, List.length_map]
        have h1 := szs_trs_le (R := R) (z := 400) (ks := pre.map fun j => docs.getD j noDoc) fun d hd' => by
          obtain ⟨j, hj, rfl⟩ := List.mem_map.mp hd'
          exact h400 _ (getD_mem _ (by rw [hlen]; exact hpre j hj))
        rw [List.length_map] at h1
        have h2 := szs_len (trs R (pre.map fun j => docs.getD j noDoc))
        have h3 := szs_len (tr R (docs.getD j noDoc))
        have h4 : szs (tr R (docs.getD j noDoc)) ≤ 400 := h400 _ (getD_mem _ (by rw [hlen]; exact hjb.2))
        omega
      · refine ⟨p1.trans ((Exb.of eb).trans (Exb.bt b)), (p2.trans (Tk.ex eb)).trans b.tk, ((Sj.ex eb).tk b.tk rfl).drop 14, ?_⟩
        rw [List.map_append, trs_app, List.map_append]
        show Ls Hc pb (_ ++ (trs R [docs.getD j noDoc]).map encC)
        rw [trs_one]
        exact L
    · obtain ⟨p1, p2, p3, p4⟩ := p
      have X4 : Ex HY H4 := Exb.ex p1 E3 hpb0
      have D4 := DY.ex X4
      obtain ⟨nm, _, hdoc⟩ := DY.made k hk
      have hg := getD_of (d := noDoc) hdoc
      have hks : (docs.getD k noDoc).ks = (kd k).map fun j => docs.getD j noDoc := by rw [hg]; rfl
      rw [← hks] at p4
      obtain ⟨ak, g5, g6⟩ := g2 k (docs.getD k noDoc) (get_lt noDoc (by rw [hlen]; exact hk))
      have hpo := place_ok DY hn12 hR gr hpl (by omega) h400 hk
      refine s_when (et_not (a := true) (et_edB (ed_call (R, M, N, S, docs.getD k noDoc) (ad_d (ed_var p3 rfl) (ad_d (ed_var p3 rfl) (ad_d (ed_var p3 rfl) (ad_d (ed_ixL (er_varA p3 rfl D4.L) (ed_var p3 rfl) (atI_nat (by rw [List.getElem?_map, get_lt noDoc (by rw [hlen]; exact hk)]; rfl)))
        (ad_l (er_ev (ev_ixV (ev_varV p3 rfl) (X4 _ _ g1) (ed_var p3 rfl) g5) (g6.ex X4)) (ad_l (er_varA p3 rfl p4) ad_nil)))))) hpo))) (fun hb' => nomatch hb') (fun _ H5 e5 => ?_)
      exact ⟨X4.trans e5, ((p3.ex e5).drop 12).drop 13⟩
  · exact sd_ret ed_bl fun v H2 e2 r => by rw [r.bl]; exact q H2
end
end GF
set_option Elab.async false
set_option linter.all false
set_option maxRecDepth 100000
set_option maxHeartbeats 8000000
/-! Gf28: what the top has written. -/
namespace GF
open PySem L2 Evl PySem.Spec PyProof.Rows
/-- a class of errors is caught by its own name -/
theorem exm_own {K : PySem.W.Frag} {C : Addr} (h1 : PySem.W.subIn K (.ref C) (.type "BaseException") = some true) (h2 : PySem.W.isClsIn K C = true) (h3 : PySem.W.typeIn K (.ref C) = some (.type "type")) (h4 : PySem.W.subIn K (.ref C) (.ref C) = some true) : PySem.W.exmOne K (.ref C) (.ref C) = some true := by
  have a : (PySem.W.subIn K (.ref C) (.type "BaseException") == some true) = true := by
    rw [h1]
    rfl
  have b : ((PySem.W.clsIn K C).isSome && PySem.W.typeIn K (.ref C) == some (.type "type")) = true := by
    have c : (PySem.W.clsIn K C).isSome = true := h2
    rw [c, h3]
    rfl
  unfold PySem.W.exmOne
  rw [if_pos a]
  show (if ((PySem.W.clsIn K C).isSome && PySem.W.typeIn K (.ref C) == some (.type "type")) = true then PySem.W.subIn K (.ref C) (.ref C) else none) = some true
  rw [if_pos b]
  exact h4
theorem all_mk {P : Program} {w : World} {K : PySem.W.Frag} {h : Heap} {mg : Str → Option Value} {fa : Addr} (X : K.In h) (G : h.Ns mainGlobals mg) (hfa : mg "law" = some (.ref fa))
    {CB CG CT : Addr} {tH tS : Tok}
    {f0 : Addr} {od0 an0 : Option Addr} {sl0 : Array (Option Value)} {oc0 kV0 dc0 pm0 cd0 ct0 : Value}
    {f1 : Addr} {od1 an1 : Option Addr} {sl1 : Array (Option Value)} {oc1 kV1 dc1 pm1 cd1 ct1 : Value}
    {f2 : Addr} {od2 an2 : Option Addr} {sl2 : Array (Option Value)} {oc2 kV2 dc2 pm2 cd2 ct2 : Value}
    {f3 : Addr} {od3 an3 : Option Addr} {sl3 : Array (Option Value)} {oc3 kV3 dc3 pm3 cd3 ct3 : Value}
    {f4 : Addr} {od4 an4 : Option Addr} {sl4 : Array (Option Value)} {oc4 kV4 dc4 pm4 cd4 ct4 : Value}
    {f5 : Addr} {od5 an5 : Option Addr} {sl5 : Array (Option Value)} {oc5 kV5 dc5 pm5 cd5 ct5 : Value}
    {f6 : Addr} {od6 an6 : Option Addr} {sl6 : Array (Option Value)} {oc6 kV6 dc6 pm6 cd6 ct6 : Value}
    {f7 : Addr} {od7 an7 : Option Addr} {sl7 : Array (Option Value)} {oc7 kV7 dc7 pm7 cd7 ct7 : Value}
    {f8 : Addr} {od8 an8 : Option Addr} {sl8 : Array (Option Value)} {oc8 kV8 dc8 pm8 cd8 ct8 : Value}
    {f9 : Addr} {od9 an9 : Option Addr} {sl9 : Array (Option Value)} {oc9 kV9 dc9 pm9 cd9 ct9 : Value}
    {f10 : Addr} {od10 an10 : Option Addr} {sl10 : Array (Option Value)} {oc10 kV10 dc10 pm10 cd10 ct10 : Value}
    {f11 : Addr} {od11 an11 : Option Addr} {sl11 : Array (Option Value)} {oc11 kV11 dc11 pm11 cd11 ct11 : Value}
    {f12 : Addr} {od12 an12 : Option Addr} {sl12 : Array (Option Value)} {oc12 kV12 dc12 pm12 cd12 ct12 : Value}
    {f13 : Addr} {od13 an13 : Option Addr} {sl13 : Array (Option Value)} {oc13 kV13 dc13 pm13 cd13 ct13 : Value}
    {f14 : Addr} {od14 an14 : Option Addr} {sl14 : Array (Option Value)} {oc14 kV14 dc14 pm14 cd14 ct14 : Value}
    {f15 : Addr} {od15 an15 : Option Addr} {sl15 : Array (Option Value)} {oc15 kV15 dc15 pm15 cd15 ct15 : Value}
    {f16 : Addr} {od16 an16 : Option Addr} {sl16 : Array (Option Value)} {oc16 kV16 dc16 pm16 cd16 ct16 : Value}
    {f17 : Addr} {od17 an17 : Option Addr} {sl17 : Array (Option Value)} {oc17 kV17 dc17 pm17 cd17 ct17 : Value}
    {f18 : Addr} {od18 an18 : Option Addr} {sl18 : Array (Option Value)} {oc18 kV18 dc18 pm18 cd18 ct18 : Value}
    {f19 : Addr} {od19 an19 : Option Addr} {sl19 : Array (Option Value)} {oc19 kV19 dc19 pm19 cd19 ct19 : Value}
    {f20 : Addr} {od20 an20 : Option Addr} {sl20 : Array (Option Value)} {oc20 kV20 dc20 pm20 cd20 ct20 : Value}
    {f21 : Addr} {od21 an21 : Option Addr} {sl21 : Array (Option Value)} {oc21 kV21 dc21 pm21 cd21 ct21 : Value}
    {f22 : Addr} {od22 an22 : Option Addr} {sl22 : Array (Option Value)} {oc22 kV22 dc22 pm22 cd22 ct22 : Value}
    {f23 : Addr} {od23 an23 : Option Addr} {sl23 : Array (Option Value)} {oc23 kV23 dc23 pm23 cd23 ct23 : Value}
    {f24 : Addr} {od24 an24 : Option Addr} {sl24 : Array (Option Value)} {oc24 kV24 dc24 pm24 cd24 ct24 : Value}
    {f25 : Addr} {od25 an25 : Option Addr} {sl25 : Array (Option Value)} {oc25 kV25 dc25 pm25 cd25 ct25 : Value}
    {f26 : Addr} {od26 an26 : Option Addr} {sl26 : Array (Option Value)} {oc26 kV26 dc26 pm26 cd26 ct26 : Value}
    {f27 : Addr} {od27 an27 : Option Addr} {sl27 : Array (Option Value)} {oc27 kV27 dc27 pm27 cd27 ct27 : Value}
    {f28 : Addr} {od28 an28 : Option Addr} {sl28 : Array (Option Value)} {oc28 kV28 dc28 pm28 cd28 ct28 : Value}
    {f29 : Addr} {od29 an29 : Option Addr} {sl29 : Array (Option Value)} {oc29 kV29 dc29 pm29 cd29 ct29 : Value}
    {f30 : Addr} {od30 an30 : Option Addr} {sl30 : Array (Option Value)} {oc30 kV30 dc30 pm30 cd30 ct30 : Value}
    {f31 : Addr} {od31 an31 : Option Addr} {sl31 : Array (Option Value)} {oc31 kV31 dc31 pm31 cd31 ct31 : Value}
    {f32 : Addr} {od32 an32 : Option Addr} {sl32 : Array (Option Value)} {oc32 kV32 dc32 pm32 cd32 ct32 : Value}
    {fm0 : Addr} {odm0 anm0 : Option Addr} {slm0 : Array (Option Value)} {ocm0 kVm0 dcm0 pmm0 cdm0 ctm0 : Value}
    {fm1 : Addr} {odm1 anm1 : Option Addr} {slm1 : Array (Option Value)} {ocm1 kVm1 dcm1 pmm1 cdm1 ctm1 : Value}
    {fm2 : Addr} {odm2 anm2 : Option Addr} {slm2 : Array (Option Value)} {ocm2 kVm2 dcm2 pmm2 cdm2 ctm2 : Value}
    {fm3 : Addr} {odm3 anm3 : Option Addr} {slm3 : Array (Option Value)} {ocm3 kVm3 dcm3 pmm3 cdm3 ctm3 : Value}
    {fm4 : Addr} {odm4 anm4 : Option Addr} {slm4 : Array (Option Value)} {ocm4 kVm4 dcm4 pmm4 cdm4 ctm4 : Value}
    {fm5 : Addr} {odm5 anm5 : Option Addr} {slm5 : Array (Option Value)} {ocm5 kVm5 dcm5 pmm5 cdm5 ctm5 : Value}
    {fm6 : Addr} {odm6 anm6 : Option Addr} {slm6 : Array (Option Value)} {ocm6 kVm6 dcm6 pmm6 cdm6 ctm6 : Value}
    (aB : PySem.W.nsIn K mainGlobals "BackGrower" = some (some (.ref CB)))
    (aG : PySem.W.nsIn K mainGlobals "Grower" = some (some (.ref CG)))
    (aT : PySem.W.nsIn K mainGlobals "TooMany" = some (some (.ref CT)))
    (pg : PySem.W.plainGet K CB Str.empty = true)
    (hd : PySem.W.hasDictIn K CB = true)
    (po : PySem.W.plainOver K CB = true)
    (sa : PySem.W.findIn K (.ref CB) "__setattr__" = some (some (.builtin "object.__setattr__")))
    (mk : PySem.W.makesIn K CB = true)
    (kB : PySem.W.keepIn K (.ref CB) = true)
    (nnumbers : PySem.W.findIn K (.ref CB) "numbers" = some none)
    (nstates : PySem.W.findIn K (.ref CB) "states" = some none)
    (ngraft : PySem.W.findIn K (.ref CB) "graft" = some none)
    (nmachine : PySem.W.findIn K (.ref CB) "machine" = some none)
    (nnames : PySem.W.findIn K (.ref CB) "names" = some none)
    (nways : PySem.W.findIn K (.ref CB) "ways" = some none)
    (rd : PySem.W.readsIn K CG (.type "type") = true)
    (ga : PySem.W.specialIn K (.ref CG) "__getattribute__" = some (some (.builtin "type.__getattribute__")))
    (xT : PySem.W.excIn K CT [.type "ValueError", .type "Exception", .type "BaseException", .type "object"] "ValueError.__new__" = true)
    (kT : PySem.W.keepIn K (.ref CT) = true)
    (bT : PySem.W.subIn K (.ref CT) (.type "BaseException") = some true)
    (tT : PySem.W.typeIn K (.ref CT) = some (.type "type"))
    (iT : PySem.W.isClsIn K CT = true)
    (sT : PySem.W.subIn K (.ref CT) (.ref CT) = some true)
    (zlen : PySem.W.nsIn K mainGlobals "len" = some none)
    (ztuple : PySem.W.nsIn K mainGlobals "tuple" = some none)
    (zrange : PySem.W.nsIn K mainGlobals "range" = some none)
    (zlist : PySem.W.nsIn K mainGlobals "list" = some none)
    (zsorted : PySem.W.nsIn K mainGlobals "sorted" = some none)
    (zset : PySem.W.nsIn K mainGlobals "set" = some none)
    (zmax : PySem.W.nsIn K mainGlobals "max" = some none)
    (zmin : PySem.W.nsIn K mainGlobals "min" = some none)
    (zreversed : PySem.W.nsIn K mainGlobals "reversed" = some none)
    (zsum : PySem.W.nsIn K mainGlobals "sum" = some none)
    (zzip : PySem.W.nsIn K mainGlobals "zip" = some none)
    (zall : PySem.W.nsIn K mainGlobals "all" = some none)
    (zisinstance : PySem.W.nsIn K mainGlobals "isinstance" = some none)
    (zstr : PySem.W.nsIn K mainGlobals "str" = some none)
    (zint : PySem.W.nsIn K mainGlobals "int" = some none)
    (zbool : PySem.W.nsIn K mainGlobals "bool" = some none)
    (hHole : PySem.W.nsIn K mainGlobals "HOLE" = some (some (.str "*" tH)))
    (hStates : PySem.W.nsIn K mainGlobals "STATES" = some (some (.int 64 tS)))
    (a0 : PySem.W.nsIn K mainGlobals "start_of" = some (some (.ref f0)))
    (l0 : K.lookup f0 = some ⟨oc0, od0, .func (PySem.W.fnOf "start_of" "start_of" (defArgs sStartOf) (defBody sStartOf) (defScope sStartOf) .none kV0 dc0 pm0 an0 cd0 ct0), sl0⟩)
    (c0 : PySem.W.codeIn K cd0 "start_of" = true)
    (k0 : PySem.W.keepIn K (.ref f0) = true)
    (a1 : PySem.W.nsIn K mainGlobals "all_names" = some (some (.ref f1)))
    (l1 : K.lookup f1 = some ⟨oc1, od1, .func (PySem.W.fnOf "all_names" "all_names" (defArgs sAllNames) (defBody sAllNames) (defScope sAllNames) .none kV1 dc1 pm1 an1 cd1 ct1), sl1⟩)
    (c1 : PySem.W.codeIn K cd1 "all_names" = true)
    (k1 : PySem.W.keepIn K (.ref f1) = true)
    (a2 : PySem.W.nsIn K mainGlobals "items_for" = some (some (.ref f2)))
    (l2 : K.lookup f2 = some ⟨oc2, od2, .func (PySem.W.fnOf "items_for" "items_for" (defArgs sItemsFor) (defBody sItemsFor) (defScope sItemsFor) .none kV2 dc2 pm2 an2 cd2 ct2), sl2⟩)
    (c2 : PySem.W.codeIn K cd2 "items_for" = true)
    (k2 : PySem.W.keepIn K (.ref f2) = true)
    (a3 : PySem.W.nsIn K mainGlobals "way_of_none" = some (some (.ref f3)))
    (l3 : K.lookup f3 = some ⟨oc3, od3, .func (PySem.W.fnOf "way_of_none" "way_of_none" (defArgs sWayNone) (defBody sWayNone) (defScope sWayNone) .none kV3 dc3 pm3 an3 cd3 ct3), sl3⟩)
    (c3 : PySem.W.codeIn K cd3 "way_of_none" = true)
    (k3 : PySem.W.keepIn K (.ref f3) = true)
    (a4 : PySem.W.nsIn K mainGlobals "way_of_one" = some (some (.ref f4)))
    (l4 : K.lookup f4 = some ⟨oc4, od4, .func (PySem.W.fnOf "way_of_one" "way_of_one" (defArgs sWayOne) (defBody sWayOne) (defScope sWayOne) .none kV4 dc4 pm4 an4 cd4 ct4), sl4⟩)
    (c4 : PySem.W.codeIn K cd4 "way_of_one" = true)
    (k4 : PySem.W.keepIn K (.ref f4) = true)
    (a5 : PySem.W.nsIn K mainGlobals "way_behind" = some (some (.ref f5)))
    (l5 : K.lookup f5 = some ⟨oc5, od5, .func (PySem.W.fnOf "way_behind" "way_behind" (defArgs sWayBehind) (defBody sWayBehind) (defScope sWayBehind) .none kV5 dc5 pm5 an5 cd5 ct5), sl5⟩)
    (c5 : PySem.W.codeIn K cd5 "way_behind" = true)
    (k5 : PySem.W.keepIn K (.ref f5) = true)
    (a6 : PySem.W.nsIn K mainGlobals "item_state" = some (some (.ref f6)))
    (l6 : K.lookup f6 = some ⟨oc6, od6, .func (PySem.W.fnOf "item_state" "item_state" (defArgs sItemState) (defBody sItemState) (defScope sItemState) .none kV6 dc6 pm6 an6 cd6 ct6), sl6⟩)
    (c6 : PySem.W.codeIn K cd6 "item_state" = true)
    (k6 : PySem.W.keepIn K (.ref f6) = true)
    (a7 : PySem.W.nsIn K mainGlobals "way_filled" = some (some (.ref f7)))
    (l7 : K.lookup f7 = some ⟨oc7, od7, .func (PySem.W.fnOf "way_filled" "way_filled" (defArgs sWayFilled) (defBody sWayFilled) (defScope sWayFilled) .none kV7 dc7 pm7 an7 cd7 ct7), sl7⟩)
    (c7 : PySem.W.codeIn K cd7 "way_filled" = true)
    (k7 : PySem.W.keepIn K (.ref f7) = true)
    (a8 : PySem.W.nsIn K mainGlobals "back_tables" = some (some (.ref f8)))
    (l8 : K.lookup f8 = some ⟨oc8, od8, .func (PySem.W.fnOf "back_tables" "back_tables" (defArgs sBackTables) (defBody sBackTables) (defScope sBackTables) .none kV8 dc8 pm8 an8 cd8 ct8), sl8⟩)
    (c8 : PySem.W.codeIn K cd8 "back_tables" = true)
    (k8 : PySem.W.keepIn K (.ref f8) = true)
    (a9 : PySem.W.nsIn K mainGlobals "drawn_back" = some (some (.ref f9)))
    (l9 : K.lookup f9 = some ⟨oc9, od9, .func (PySem.W.fnOf "drawn_back" "drawn_back" (defArgs sDrawnBack) (defBody sDrawnBack) (defScope sDrawnBack) .none kV9 dc9 pm9 an9 cd9 ct9), sl9⟩)
    (c9 : PySem.W.codeIn K cd9 "drawn_back" = true)
    (k9 : PySem.W.keepIn K (.ref f9) = true)
    (a10 : PySem.W.nsIn K mainGlobals "back_states" = some (some (.ref f10)))
    (l10 : K.lookup f10 = some ⟨oc10, od10, .func (PySem.W.fnOf "back_states" "back_states" (defArgs sBackStates) (defBody sBackStates) (defScope sBackStates) .none kV10 dc10 pm10 an10 cd10 ct10), sl10⟩)
    (c10 : PySem.W.codeIn K cd10 "back_states" = true)
    (k10 : PySem.W.keepIn K (.ref f10) = true)
    (a11 : PySem.W.nsIn K mainGlobals "_law_cell_at" = some (some (.ref f11)))
    (l11 : K.lookup f11 = some ⟨oc11, od11, .func (PySem.W.fnOf "_law_cell_at" "_law_cell_at" (defArgs sCellAt) (defBody sCellAt) (defScope sCellAt) .none kV11 dc11 pm11 an11 cd11 ct11), sl11⟩)
    (c11 : PySem.W.codeIn K cd11 "_law_cell_at" = true)
    (k11 : PySem.W.keepIn K (.ref f11) = true)
    (a12 : PySem.W.nsIn K mainGlobals "_law_mix" = some (some (.ref f12)))
    (l12 : K.lookup f12 = some ⟨oc12, od12, .func (PySem.W.fnOf "_law_mix" "_law_mix" (defArgs sMix) (defBody sMix) (defScope sMix) .none kV12 dc12 pm12 an12 cd12 ct12), sl12⟩)
    (c12 : PySem.W.codeIn K cd12 "_law_mix" = true)
    (k12 : PySem.W.keepIn K (.ref f12) = true)
    (a13 : PySem.W.nsIn K mainGlobals "_law_tape" = some (some (.ref f13)))
    (l13 : K.lookup f13 = some ⟨oc13, od13, .func (PySem.W.fnOf "_law_tape" "_law_tape" (defArgs sTape) (defBody sTape) (defScope sTape) .none kV13 dc13 pm13 an13 cd13 ct13), sl13⟩)
    (c13 : PySem.W.codeIn K cd13 "_law_tape" = true)
    (k13 : PySem.W.keepIn K (.ref f13) = true)
    (a14 : PySem.W.nsIn K mainGlobals "_law_next" = some (some (.ref f14)))
    (l14 : K.lookup f14 = some ⟨oc14, od14, .func (PySem.W.fnOf "_law_next" "_law_next" (defArgs sNext) (defBody sNext) (defScope sNext) .none kV14 dc14 pm14 an14 cd14 ct14), sl14⟩)
    (c14 : PySem.W.codeIn K cd14 "_law_next" = true)
    (k14 : PySem.W.keepIn K (.ref f14) = true)
    (a15 : PySem.W.nsIn K mainGlobals "_law_names" = some (some (.ref f15)))
    (l15 : K.lookup f15 = some ⟨oc15, od15, .func (PySem.W.fnOf "_law_names" "_law_names" (defArgs sNames) (defBody sNames) (defScope sNames) .none kV15 dc15 pm15 an15 cd15 ct15), sl15⟩)
    (c15 : PySem.W.codeIn K cd15 "_law_names" = true)
    (k15 : PySem.W.keepIn K (.ref f15) = true)
    (a16 : PySem.W.nsIn K mainGlobals "_law_machine" = some (some (.ref f16)))
    (l16 : K.lookup f16 = some ⟨oc16, od16, .func (PySem.W.fnOf "_law_machine" "_law_machine" (defArgs sMachine) (defBody sMachine) (defScope sMachine) .none kV16 dc16 pm16 an16 cd16 ct16), sl16⟩)
    (c16 : PySem.W.codeIn K cd16 "_law_machine" = true)
    (k16 : PySem.W.keepIn K (.ref f16) = true)
    (a17 : PySem.W.nsIn K mainGlobals "_law_state" = some (some (.ref f17)))
    (l17 : K.lookup f17 = some ⟨oc17, od17, .func (PySem.W.fnOf "_law_state" "_law_state" (defArgs sState) (defBody sState) (defScope sState) .none kV17 dc17 pm17 an17 cd17 ct17), sl17⟩)
    (c17 : PySem.W.codeIn K cd17 "_law_state" = true)
    (k17 : PySem.W.keepIn K (.ref f17) = true)
    (a18 : PySem.W.nsIn K mainGlobals "_law_items" = some (some (.ref f18)))
    (l18 : K.lookup f18 = some ⟨oc18, od18, .func (PySem.W.fnOf "_law_items" "_law_items" (defArgs sItems) (defBody sItems) (defScope sItems) .none kV18 dc18 pm18 an18 cd18 ct18), sl18⟩)
    (c18 : PySem.W.codeIn K cd18 "_law_items" = true)
    (k18 : PySem.W.keepIn K (.ref f18) = true)
    (a19 : PySem.W.nsIn K mainGlobals "_law_turner" = some (some (.ref f19)))
    (l19 : K.lookup f19 = some ⟨oc19, od19, .func (PySem.W.fnOf "_law_turner" "_law_turner" (defArgs sTurner) (defBody sTurner) (defScope sTurner) .none kV19 dc19 pm19 an19 cd19 ct19), sl19⟩)
    (c19 : PySem.W.codeIn K cd19 "_law_turner" = true)
    (k19 : PySem.W.keepIn K (.ref f19) = true)
    (a20 : PySem.W.nsIn K mainGlobals "_law_deepened" = some (some (.ref f20)))
    (l20 : K.lookup f20 = some ⟨oc20, od20, .func (PySem.W.fnOf "_law_deepened" "_law_deepened" (defArgs sDeepened) (defBody sDeepened) (defScope sDeepened) .none kV20 dc20 pm20 an20 cd20 ct20), sl20⟩)
    (c20 : PySem.W.codeIn K cd20 "_law_deepened" = true)
    (k20 : PySem.W.keepIn K (.ref f20) = true)
    (a21 : PySem.W.nsIn K mainGlobals "_law_free_docs" = some (some (.ref f21)))
    (l21 : K.lookup f21 = some ⟨oc21, od21, .func (PySem.W.fnOf "_law_free_docs" "_law_free_docs" (defArgs sFreeDocs) (defBody sFreeDocs) (defScope sFreeDocs) .none kV21 dc21 pm21 an21 cd21 ct21), sl21⟩)
    (c21 : PySem.W.codeIn K cd21 "_law_free_docs" = true)
    (k21 : PySem.W.keepIn K (.ref f21) = true)
    (a22 : PySem.W.nsIn K mainGlobals "_law_for" = some (some (.ref f22)))
    (l22 : K.lookup f22 = some ⟨oc22, od22, .func (PySem.W.fnOf "_law_for" "_law_for" (defArgs sFor) (defBody sFor) (defScope sFor) .none kV22 dc22 pm22 an22 cd22 ct22), sl22⟩)
    (c22 : PySem.W.codeIn K cd22 "_law_for" = true)
    (k22 : PySem.W.keepIn K (.ref f22) = true)
    (a23 : PySem.W.nsIn K mainGlobals "_law_size" = some (some (.ref f23)))
    (l23 : K.lookup f23 = some ⟨oc23, od23, .func (PySem.W.fnOf "_law_size" "_law_size" (defArgs sSize) (defBody sSize) (defScope sSize) .none kV23 dc23 pm23 an23 cd23 ct23), sl23⟩)
    (c23 : PySem.W.codeIn K cd23 "_law_size" = true)
    (k23 : PySem.W.keepIn K (.ref f23) = true)
    (a24 : PySem.W.nsIn K mainGlobals "_law_full" = some (some (.ref f24)))
    (l24 : K.lookup f24 = some ⟨oc24, od24, .func (PySem.W.fnOf "_law_full" "_law_full" (defArgs sFull) (defBody sFull) (defScope sFull) .none kV24 dc24 pm24 an24 cd24 ct24), sl24⟩)
    (c24 : PySem.W.codeIn K cd24 "_law_full" = true)
    (k24 : PySem.W.keepIn K (.ref f24) = true)
    (a25 : PySem.W.nsIn K mainGlobals "_law_sizes" = some (some (.ref f25)))
    (l25 : K.lookup f25 = some ⟨oc25, od25, .func (PySem.W.fnOf "_law_sizes" "_law_sizes" (defArgs sSizes) (defBody sSizes) (defScope sSizes) .none kV25 dc25 pm25 an25 cd25 ct25), sl25⟩)
    (c25 : PySem.W.codeIn K cd25 "_law_sizes" = true)
    (k25 : PySem.W.keepIn K (.ref f25) = true)
    (a26 : PySem.W.nsIn K mainGlobals "_law_turned_rows" = some (some (.ref f26)))
    (l26 : K.lookup f26 = some ⟨oc26, od26, .func (PySem.W.fnOf "_law_turned_rows" "_law_turned_rows" (defArgs sTurnedRows) (defBody sTurnedRows) (defScope sTurnedRows) .none kV26 dc26 pm26 an26 cd26 ct26), sl26⟩)
    (c26 : PySem.W.codeIn K cd26 "_law_turned_rows" = true)
    (k26 : PySem.W.keepIn K (.ref f26) = true)
    (a27 : PySem.W.nsIn K mainGlobals "_law_doc_state" = some (some (.ref f27)))
    (l27 : K.lookup f27 = some ⟨oc27, od27, .func (PySem.W.fnOf "_law_doc_state" "_law_doc_state" (defArgs sDocState) (defBody sDocState) (defScope sDocState) .none kV27 dc27 pm27 an27 cd27 ct27), sl27⟩)
    (c27 : PySem.W.codeIn K cd27 "_law_doc_state" = true)
    (k27 : PySem.W.keepIn K (.ref f27) = true)
    (a28 : PySem.W.nsIn K mainGlobals "_law_way" = some (some (.ref f28)))
    (l28 : K.lookup f28 = some ⟨oc28, od28, .func (PySem.W.fnOf "_law_way" "_law_way" (defArgs sWay) (defBody sWay) (defScope sWay) .none kV28 dc28 pm28 an28 cd28 ct28), sl28⟩)
    (c28 : PySem.W.codeIn K cd28 "_law_way" = true)
    (k28 : PySem.W.keepIn K (.ref f28) = true)
    (a29 : PySem.W.nsIn K mainGlobals "_law_same" = some (some (.ref f29)))
    (l29 : K.lookup f29 = some ⟨oc29, od29, .func (PySem.W.fnOf "_law_same" "_law_same" (defArgs sSame) (defBody sSame) (defScope sSame) .none kV29 dc29 pm29 an29 cd29 ct29), sl29⟩)
    (c29 : PySem.W.codeIn K cd29 "_law_same" = true)
    (k29 : PySem.W.keepIn K (.ref f29) = true)
    (a30 : PySem.W.nsIn K mainGlobals "_law_mark" = some (some (.ref f30)))
    (l30 : K.lookup f30 = some ⟨oc30, od30, .func (PySem.W.fnOf "_law_mark" "_law_mark" (defArgs sMarkL) (defBody sMarkL) (defScope sMarkL) .none kV30 dc30 pm30 an30 cd30 ct30), sl30⟩)
    (c30 : PySem.W.codeIn K cd30 "_law_mark" = true)
    (k30 : PySem.W.keepIn K (.ref f30) = true)
    (a31 : PySem.W.nsIn K mainGlobals "_law_place_right" = some (some (.ref f31)))
    (l31 : K.lookup f31 = some ⟨oc31, od31, .func (PySem.W.fnOf "_law_place_right" "_law_place_right" (defArgs sPlaceRight) (defBody sPlaceRight) (defScope sPlaceRight) .none kV31 dc31 pm31 an31 cd31 ct31), sl31⟩)
    (c31 : PySem.W.codeIn K cd31 "_law_place_right" = true)
    (k31 : PySem.W.keepIn K (.ref f31) = true)
    (a32 : PySem.W.nsIn K mainGlobals "law" = some (some (.ref f32)))
    (l32 : K.lookup f32 = some ⟨oc32, od32, .func (PySem.W.fnOf "law" "law" (defArgs sLaw) (defBody sLaw) (defScope sLaw) .none kV32 dc32 pm32 an32 cd32 ct32), sl32⟩)
    (c32 : PySem.W.codeIn K cd32 "law" = true)
    (k32 : PySem.W.keepIn K (.ref f32) = true)
    (am0 : PySem.W.findCls K (.ref CG) (.type "type") "__init__" = some (.val (.ref fm0)))
    (lm0 : K.lookup fm0 = some ⟨ocm0, odm0, .func (PySem.W.fnOf "__init__" "Grower.__init__" (defArgs sGInit) (defBody sGInit) (defScope sGInit) .none kVm0 dcm0 pmm0 anm0 cdm0 ctm0), slm0⟩)
    (cm0 : PySem.W.codeIn K cdm0 "Grower.__init__" = true)
    (km0 : PySem.W.keepIn K (.ref fm0) = true)
    (am1 : PySem.W.findIn K (.ref CB) "number" = some (some (.ref fm1)))
    (im1 : PySem.W.isFn K (.ref fm1) = true)
    (lm1 : K.lookup fm1 = some ⟨ocm1, odm1, .func (PySem.W.fnOf "number" "Grower.number" (defArgs sNumber) (defBody sNumber) (defScope sNumber) .none kVm1 dcm1 pmm1 anm1 cdm1 ctm1), slm1⟩)
    (cm1 : PySem.W.codeIn K cdm1 "Grower.number" = true)
    (km1 : PySem.W.keepIn K (.ref fm1) = true)
    (am2 : PySem.W.findIn K (.ref CB) "tables" = some (some (.ref fm2)))
    (im2 : PySem.W.isFn K (.ref fm2) = true)
    (lm2 : K.lookup fm2 = some ⟨ocm2, odm2, .func (PySem.W.fnOf "tables" "Grower.tables" (defArgs sTables) (defBody sTables) (defScope sTables) .none kVm2 dcm2 pmm2 anm2 cdm2 ctm2), slm2⟩)
    (cm2 : PySem.W.codeIn K cdm2 "Grower.tables" = true)
    (km2 : PySem.W.keepIn K (.ref fm2) = true)
    (am3 : PySem.W.findIn K (.ref CB) "__init__" = some (some (.ref fm3)))
    (im3 : PySem.W.isFn K (.ref fm3) = true)
    (lm3 : K.lookup fm3 = some ⟨ocm3, odm3, .func (PySem.W.fnOf "__init__" "BackGrower.__init__" (defArgs sBInit) (defBody sBInit) (defScope sBInit) .none kVm3 dcm3 pmm3 anm3 cdm3 ctm3), slm3⟩)
    (cm3 : PySem.W.codeIn K cdm3 "BackGrower.__init__" = true)
    (km3 : PySem.W.keepIn K (.ref fm3) = true)
    (am4 : PySem.W.findIn K (.ref CB) "turned_way" = some (some (.ref fm4)))
    (im4 : PySem.W.isFn K (.ref fm4) = true)
    (lm4 : K.lookup fm4 = some ⟨ocm4, odm4, .func (PySem.W.fnOf "turned_way" "BackGrower.turned_way" (defArgs sTurnedWay) (defBody sTurnedWay) (defScope sTurnedWay) .none kVm4 dcm4 pmm4 anm4 cdm4 ctm4), slm4⟩)
    (cm4 : PySem.W.codeIn K cdm4 "BackGrower.turned_way" = true)
    (km4 : PySem.W.keepIn K (.ref fm4) = true)
    (am5 : PySem.W.findIn K (.ref CB) "step" = some (some (.ref fm5)))
    (im5 : PySem.W.isFn K (.ref fm5) = true)
    (lm5 : K.lookup fm5 = some ⟨ocm5, odm5, .func (PySem.W.fnOf "step" "BackGrower.step" (defArgs sStep) (defBody sStep) (defScope sStep) .none kVm5 dcm5 pmm5 anm5 cdm5 ctm5), slm5⟩)
    (cm5 : PySem.W.codeIn K cdm5 "BackGrower.step" = true)
    (km5 : PySem.W.keepIn K (.ref fm5) = true)
    (am6 : PySem.W.findIn K (.ref CB) "mark" = some (some (.ref fm6)))
    (im6 : PySem.W.isFn K (.ref fm6) = true)
    (lm6 : K.lookup fm6 = some ⟨ocm6, odm6, .func (PySem.W.fnOf "mark" "BackGrower.mark" (defArgs sMark) (defBody sMark) (defScope sMark) .none kVm6 dcm6 pmm6 anm6 cdm6 ctm6), slm6⟩)
    (cm6 : PySem.W.codeIn K cdm6 "BackGrower.mark" = true)
    (km6 : PySem.W.keepIn K (.ref fm6) = true) :
    ∃ fd : FuncData, (∀ (s : Shared) (u : Value), BindsTo s fd ⟨[u], []⟩ [("_law_script", u)]) ∧ ∀ base : Heap, K.In base → base.Ns mainGlobals mg → FnOk P w K mg base CX0 64 fa fd ["_law_script"] (spLaw K) := by
  have e := hfa.symm.trans (PySem.W.mg_of X G a32)
  cases e
  have D0 : Df K mg "start_of" sStartOf f0 _ := ⟨fun_mk (st := sStartOf) l0 c0 k0, PySem.W.mg_of X G a0⟩
  have D1 : Df K mg "all_names" sAllNames f1 _ := ⟨fun_mk (st := sAllNames) l1 c1 k1, PySem.W.mg_of X G a1⟩
  have D2 : Df K mg "items_for" sItemsFor f2 _ := ⟨fun_mk (st := sItemsFor) l2 c2 k2, PySem.W.mg_of X G a2⟩
  have D3 : Df K mg "way_of_none" sWayNone f3 _ := ⟨fun_mk (st := sWayNone) l3 c3 k3, PySem.W.mg_of X G a3⟩
  have D4 : Df K mg "way_of_one" sWayOne f4 _ := ⟨fun_mk (st := sWayOne) l4 c4 k4, PySem.W.mg_of X G a4⟩
  have D5 : Df K mg "way_behind" sWayBehind f5 _ := ⟨fun_mk (st := sWayBehind) l5 c5 k5, PySem.W.mg_of X G a5⟩
  have D6 : Df K mg "item_state" sItemState f6 _ := ⟨fun_mk (st := sItemState) l6 c6 k6, PySem.W.mg_of X G a6⟩
  have D7 : Df K mg "way_filled" sWayFilled f7 _ := ⟨fun_mk (st := sWayFilled) l7 c7 k7, PySem.W.mg_of X G a7⟩
  have D8 : Df K mg "back_tables" sBackTables f8 _ := ⟨fun_mk (st := sBackTables) l8 c8 k8, PySem.W.mg_of X G a8⟩
  have D9 : Df K mg "drawn_back" sDrawnBack f9 _ := ⟨fun_mk (st := sDrawnBack) l9 c9 k9, PySem.W.mg_of X G a9⟩
  have D10 : Df K mg "back_states" sBackStates f10 _ := ⟨fun_mk (st := sBackStates) l10 c10 k10, PySem.W.mg_of X G a10⟩
  have D11 : Df K mg "_law_cell_at" sCellAt f11 _ := ⟨fun_mk (st := sCellAt) l11 c11 k11, PySem.W.mg_of X G a11⟩
  have D12 : Df K mg "_law_mix" sMix f12 _ := ⟨fun_mk (st := sMix) l12 c12 k12, PySem.W.mg_of X G a12⟩
  have D13 : Df K mg "_law_tape" sTape f13 _ := ⟨fun_mk (st := sTape) l13 c13 k13, PySem.W.mg_of X G a13⟩
  have D14 : Df K mg "_law_next" sNext f14 _ := ⟨fun_mk (st := sNext) l14 c14 k14, PySem.W.mg_of X G a14⟩
  have D15 : Df K mg "_law_names" sNames f15 _ := ⟨fun_mk (st := sNames) l15 c15 k15, PySem.W.mg_of X G a15⟩
  have D16 : Df K mg "_law_machine" sMachine f16 _ := ⟨fun_mk (st := sMachine) l16 c16 k16, PySem.W.mg_of X G a16⟩
  have D17 : Df K mg "_law_state" sState f17 _ := ⟨fun_mk (st := sState) l17 c17 k17, PySem.W.mg_of X G a17⟩
  have D18 : Df K mg "_law_items" sItems f18 _ := ⟨fun_mk (st := sItems) l18 c18 k18, PySem.W.mg_of X G a18⟩
  have D19 : Df K mg "_law_turner" sTurner f19 _ := ⟨fun_mk (st := sTurner) l19 c19 k19, PySem.W.mg_of X G a19⟩
  have D20 : Df K mg "_law_deepened" sDeepened f20 _ := ⟨fun_mk (st := sDeepened) l20 c20 k20, PySem.W.mg_of X G a20⟩
  have D21 : Df K mg "_law_free_docs" sFreeDocs f21 _ := ⟨fun_mk (st := sFreeDocs) l21 c21 k21, PySem.W.mg_of X G a21⟩
  have D22 : Df K mg "_law_for" sFor f22 _ := ⟨fun_mk (st := sFor) l22 c22 k22, PySem.W.mg_of X G a22⟩
  have D23 : Df K mg "_law_size" sSize f23 _ := ⟨fun_mk (st := sSize) l23 c23 k23, PySem.W.mg_of X G a23⟩
  have D24 : Df K mg "_law_full" sFull f24 _ := ⟨fun_mk (st := sFull) l24 c24 k24, PySem.W.mg_of X G a24⟩
  have D25 : Df K mg "_law_sizes" sSizes f25 _ := ⟨fun_mk (st := sSizes) l25 c25 k25, PySem.W.mg_of X G a25⟩
  have D26 : Df K mg "_law_turned_rows" sTurnedRows f26 _ := ⟨fun_mk (st := sTurnedRows) l26 c26 k26, PySem.W.mg_of X G a26⟩
  have D27 : Df K mg "_law_doc_state" sDocState f27 _ := ⟨fun_mk (st := sDocState) l27 c27 k27, PySem.W.mg_of X G a27⟩
  have D28 : Df K mg "_law_way" sWay f28 _ := ⟨fun_mk (st := sWay) l28 c28 k28, PySem.W.mg_of X G a28⟩
  have D29 : Df K mg "_law_same" sSame f29 _ := ⟨fun_mk (st := sSame) l29 c29 k29, PySem.W.mg_of X G a29⟩
  have D30 : Df K mg "_law_mark" sMarkL f30 _ := ⟨fun_mk (st := sMarkL) l30 c30 k30, PySem.W.mg_of X G a30⟩
  have D31 : Df K mg "_law_place_right" sPlaceRight f31 _ := ⟨fun_mk (st := sPlaceRight) l31 c31 k31, PySem.W.mg_of X G a31⟩
  have D32 : Df K mg "law" sLaw fa _ := ⟨fun_mk (st := sLaw) l32 c32 k32, PySem.W.mg_of X G a32⟩
  have F0 := fun_mk (st := sGInit) lm0 cm0 km0
  have b0 := F0.binds (ps := ["self"]) fun _ _ _ _ _ _ us hl => match us, hl with | [_], _ => rfl
  have F1 := fun_mk (st := sNumber) lm1 cm1 km1
  have b1 := F1.binds (ps := ["self", "state"]) fun _ _ _ _ _ _ us hl => match us, hl with | [_, _], _ => rfl
  have F2 := fun_mk (st := sTables) lm2 cm2 km2
  have b2 := F2.binds (ps := ["self", "starts"]) fun _ _ _ _ _ _ us hl => match us, hl with | [_, _], _ => rfl
  have F3 := fun_mk (st := sBInit) lm3 cm3 km3
  have b3 := F3.binds (ps := ["self", "graft", "machine"]) fun _ _ _ _ _ _ us hl => match us, hl with | [_, _, _], _ => rfl
  have F4 := fun_mk (st := sTurnedWay) lm4 cm4 km4
  have b4 := F4.binds (ps := ["self", "state"]) fun _ _ _ _ _ _ us hl => match us, hl with | [_, _], _ => rfl
  have F5 := fun_mk (st := sStep) lm5 cm5 km5
  have b5 := F5.binds (ps := ["self", "one", "other"]) fun _ _ _ _ _ _ us hl => match us, hl with | [_, _, _], _ => rfl
  have F6 := fun_mk (st := sMark) lm6 cm6 km6
  have b6 := F6.binds (ps := ["self", "state"]) fun _ _ _ _ _ _ us hl => match us, hl with | [_, _], _ => rfl
  have B : Blt mg := ⟨PySem.W.mg_none_of X G zlen, PySem.W.mg_none_of X G ztuple, PySem.W.mg_none_of X G zrange, PySem.W.mg_none_of X G zlist, PySem.W.mg_none_of X G zsorted, PySem.W.mg_none_of X G zset, PySem.W.mg_none_of X G zmax, PySem.W.mg_none_of X G zmin, PySem.W.mg_none_of X G zreversed, PySem.W.mg_none_of X G zsum, PySem.W.mg_none_of X G zzip, PySem.W.mg_none_of X G zall, PySem.W.mg_none_of X G zisinstance, PySem.W.mg_none_of X G zstr, PySem.W.mg_none_of X G zint, PySem.W.mg_none_of X G zbool, ⟨_, PySem.W.mg_of X G hHole⟩, ⟨_, PySem.W.mg_of X G hStates⟩⟩
  have T : Txt K mg CB CG CT := ⟨⟨pg, hd, po, sa⟩, nnumbers, nstates, ngraft, nmachine, nnames, nways, PySem.W.mg_of X G aB, PySem.W.mg_of X G aG, PySem.W.mg_of X G aT, ⟨rd, ga⟩, xT, kT, bT, tT, exm_own bT iT tT sT⟩
  refine ⟨PySem.W.fnOf "law" "law" (defArgs sLaw) (defBody sLaw) (defScope sLaw) .none kV32 dc32 pm32 an32 cd32 ct32, fun s u => .of_eq rfl, fun base _ _ => ?_⟩
  have Cst := ok_start_of (P := P) (w := w) (base := base) D0
  have Cno := ok_way_none (P := P) (w := w) (base := base) B D3
  have Con := ok_way_one (P := P) (w := w) (base := base) B D4
  have Cbe := ok_way_behind (P := P) (w := w) (base := base) B D5
  have Cif := ok_items_for (P := P) (w := w) (base := base) D2
  have Cfi := ok_fill (P := P) (w := w) (base := base) B D7 D6 Cno Cbe Con Cst 6
  have Cfo := ok_for (P := P) (w := w) (base := base) D22
  have Csa := ok_state (P := P) (w := w) (base := base) D17
  have Cds := ok_doc_state (P := P) (w := w) (base := base) D27 Csa 60
  have Cwa := ok_way B D28 Cds
  have Cma := ok_mark B D30 Cds
  have Csi := ok_size (P := P) (w := w) (base := base) D23 6
  have Cfu := ok_full (P := P) (w := w) (base := base) B D24 6
  have Csm := ok_same (P := P) (w := w) (base := base) B D29 4
  have Cmx := ok_mix (P := P) (w := w) (base := base) D12
  have Cta := ok_tape B D13 Cmx
  have Cne := ok_next (P := P) (w := w) (base := base) D14
  have Cce := ok_cell_at (P := P) (w := w) (base := base) B D11
  have Cnm := ok_names (P := P) (w := w) (base := base) B D15
  have Cmc := ok_machine B D16 Cce Cta Cne
  have Cit := ok_items B D18 Cne 2
  have Ctu := ok_turner B D19 Cce Cta Cne Cit
  have Cde := ok_deepened B D20 Cta Cne
  have Cfd := ok_free_docs (P := P) (w := w) (base := base) B D21
  have Csz := ok_sizes B D25 Cfo Csi
  have Cro := ok_rows B D26 Cfo Cfu
  have Cpl := ok_place B D31 Cds Cwa Cma Csm
  have Can := ok_all_names (P := P) (w := w) (base := base) B D1
  have Ggi := ok_ginit (P := P) (w := w) (base := base) F0 T
  have Gbi := ok_binit F3 T Ggi b0 km0 ⟨am0, rfl⟩ Can
  have Mtw : MCal P w K mg base CX0 14 CB "turned_way" ["self", "state"] (spTW P w CB) fm4 _ := ⟨ok_tw B F4 T Cif Cst Con Cfi, ⟨am4, im4, km4⟩, b4⟩
  have Mst : MCal P w K mg base CX0 15 CB "step" ["self", "one", "other"] (spStep P w CB) fm5 _ := ⟨ok_step F5 T Cbe Mtw, ⟨am5, im5, km5⟩, b5⟩
  have Mmk : MCal P w K mg base CX0 15 CB "mark" ["self", "state"] (spMarkG P w CB) fm6 _ := ⟨ok_markG F6 T Mtw, ⟨am6, im6, km6⟩, b6⟩
  have Mn0 : MCal P w K mg base CX0 1 CB "number" ["self", "state"] (spNum0 P w CB) fm1 _ := ⟨ok_number0 B F1 T, ⟨am1, im1, km1⟩, b1⟩
  have Mn1 : MCal P w K mg base (L2.CX P w) 1 CB "number" ["self", "state"] (spNum P w CB CT) fm1 _ := ⟨ok_number B F1 T, ⟨am1, im1, km1⟩, b1⟩
  have Mta : MCal P w K mg base (L2.CX P w) 16 CB "tables" ["self", "starts"] (spTables P w CB CT) fm2 _ := ⟨ok_tables B F2 T Mn0 Mn1 Mst, ⟨am2, im2, km2⟩, b2⟩
  have Cba := ok_back B D8 T ⟨mk, am3, im3, kB⟩ Gbi b3 Cno Mta Mmk
  have Cdr := ok_drawn D9 Cba
  have Cbs := ok_states D10 Cba
  exact ok_law B D32 T Cnm Cce Cmc Ctu Cde Cfd Csz Cro Csm Cpl Cdr Cbs
end GF
set_option Elab.async false
set_option maxRecDepth 100000
open PySem PySem.W PyProof.Rows
set_option maxRecDepth 100000 in
set_option maxHeartbeats 0 in
theorem PySem.Challenge.cw_graftform_k77_whole_drawn_back_holds : PySem.Challenge.rw_graftform_k77_whole_drawn_back.Holds := by
  w_on; o_law; k_head; (case hw => w_witness2)
  k_fill
  refine L2.walk_of (l := PySem.Challenge.rw_graftform_k77_whole_drawn_back) (n := 63) (k := 64) (x := "_law_script") (CX := fun _ => L2.CX0) (sp := fun w => GF.spLaw _) rfl (by decide) rfl ⟨rfl, by decide, by decide⟩ (fun w h Y => PySem.W.kIn_of Y) ?F (fun _ _ a ns hl _ hS => ⟨a, ns, rfl, hS, hl, fun _ => rfl⟩) (fun _ _ _ _ _ h => h)
  case F =>
    intro w mg fa h KX G hmg
    refine' GF.all_mk KX G hmg ?aB ?aG ?aT ?pg ?hd ?po ?sa ?mk ?kB ?nnumbers ?nstates ?ngraft ?nmachine ?nnames ?nways ?rd ?ga ?xT ?kT ?bT ?tT ?iT ?sT ?zlen ?ztuple ?zrange ?zlist ?zsorted ?zset ?zmax ?zmin ?zreversed ?zsum ?zzip ?zall ?zisinstance ?zstr ?zint ?zbool ?hHole ?hStates ?a0 ?l0 ?c0 ?k0 ?a1 ?l1 ?c1 ?k1 ?a2 ?l2 ?c2 ?k2 ?a3 ?l3 ?c3 ?k3 ?a4 ?l4 ?c4 ?k4 ?a5 ?l5 ?c5 ?k5 ?a6 ?l6 ?c6 ?k6 ?a7 ?l7 ?c7 ?k7 ?a8 ?l8 ?c8 ?k8 ?a9 ?l9 ?c9 ?k9 ?a10 ?l10 ?c10 ?k10 ?a11 ?l11 ?c11 ?k11 ?a12 ?l12 ?c12 ?k12 ?a13 ?l13 ?c13 ?k13 ?a14 ?l14 ?c14 ?k14 ?a15 ?l15 ?c15 ?k15 ?a16 ?l16 ?c16 ?k16 ?a17 ?l17 ?c17 ?k17 ?a18 ?l18 ?c18 ?k18 ?a19 ?l19 ?c19 ?k19 ?a20 ?l20 ?c20 ?k20 ?a21 ?l21 ?c21 ?k21 ?a22 ?l22 ?c22 ?k22 ?a23 ?l23 ?c23 ?k23 ?a24 ?l24 ?c24 ?k24 ?a25 ?l25 ?c25 ?k25 ?a26 ?l26 ?c26 ?k26 ?a27 ?l27 ?c27 ?k27 ?a28 ?l28 ?c28 ?k28 ?a29 ?l29 ?c29 ?k29 ?a30 ?l30 ?c30 ?k30 ?a31 ?l31 ?c31 ?k31 ?a32 ?l32 ?c32 ?k32 ?am0 ?lm0 ?cm0 ?km0 ?am1 ?im1 ?lm1 ?cm1 ?km1 ?am2 ?im2 ?lm2 ?cm2 ?km2 ?am3 ?im3 ?lm3 ?cm3 ?km3 ?am4 ?im4 ?lm4 ?cm4 ?km4 ?am5 ?im5 ?lm5 ?cm5 ?km5 ?am6 ?im6 ?lm6 ?cm6 ?km6
    (case aB => k_is); (case aG => k_is); (case aT => k_is); (case pg => k_is); (case hd => k_is); (case po => k_is)
    (case sa => k_is); (case mk => k_is); (case kB => k_is); (case nnumbers => k_is); (case nstates => k_is); (case ngraft => k_is)
    (case nmachine => k_is); (case nnames => k_is); (case nways => k_is); (case rd => k_is); (case ga => k_is); (case xT => k_exc)
    (case kT => k_is); (case bT => k_is); (case tT => k_is); (case iT => k_is); (case sT => first | rfl | k_is); (case zlen => k_is)
    (case ztuple => k_is); (case zrange => k_is); (case zlist => k_is); (case zsorted => k_is); (case zset => k_is); (case zmax => k_is)
    (case zmin => k_is); (case zreversed => k_is); (case zsum => k_is); (case zzip => k_is); (case zall => k_is); (case zisinstance => k_is)
    (case zstr => k_is); (case zint => k_is); (case zbool => k_is); (case hHole => k_is); (case hStates => k_is); (case a0 => k_is)
    (case l0 => k_is); (case c0 => k_is); (case k0 => k_is); (case a1 => k_is); (case l1 => k_is); (case c1 => k_is)
    (case k1 => k_is); (case a2 => k_is); (case l2 => k_is); (case c2 => k_is); (case k2 => k_is); (case a3 => k_is)
    (case l3 => k_is); (case c3 => k_is); (case k3 => k_is); (case a4 => k_is); (case l4 => k_is); (case c4 => k_is)
    (case k4 => k_is); (case a5 => k_is); (case l5 => k_is); (case c5 => k_is); (case k5 => k_is); (case a6 => k_is)
    (case l6 => k_is); (case c6 => k_is); (case k6 => k_is); (case a7 => k_is); (case l7 => k_is); (case c7 => k_is)
    (case k7 => k_is); (case a8 => k_is); (case l8 => k_is); (case c8 => k_is); (case k8 => k_is); (case a9 => k_is)
    (case l9 => k_is); (case c9 => k_is); (case k9 => k_is); (case a10 => k_is); (case l10 => k_is); (case c10 => k_is)
    (case k10 => k_is); (case a11 => k_is); (case l11 => k_is); (case c11 => k_is); (case k11 => k_is); (case a12 => k_is)
    (case l12 => k_is); (case c12 => k_is); (case k12 => k_is); (case a13 => k_is); (case l13 => k_is); (case c13 => k_is)
    (case k13 => k_is); (case a14 => k_is); (case l14 => k_is); (case c14 => k_is); (case k14 => k_is); (case a15 => k_is)
    (case l15 => k_is); (case c15 => k_is); (case k15 => k_is); (case a16 => k_is); (case l16 => k_is); (case c16 => k_is)
    (case k16 => k_is); (case a17 => k_is); (case l17 => k_is); (case c17 => k_is); (case k17 => k_is); (case a18 => k_is)
    (case l18 => k_is); (case c18 => k_is); (case k18 => k_is); (case a19 => k_is); (case l19 => k_is); (case c19 => k_is)
    (case k19 => k_is); (case a20 => k_is); (case l20 => k_is); (case c20 => k_is); (case k20 => k_is); (case a21 => k_is)
    (case l21 => k_is); (case c21 => k_is); (case k21 => k_is); (case a22 => k_is); (case l22 => k_is); (case c22 => k_is)
    (case k22 => k_is); (case a23 => k_is); (case l23 => k_is); (case c23 => k_is); (case k23 => k_is); (case a24 => k_is)
    (case l24 => k_is); (case c24 => k_is); (case k24 => k_is); (case a25 => k_is); (case l25 => k_is); (case c25 => k_is)
    (case k25 => k_is); (case a26 => k_is); (case l26 => k_is); (case c26 => k_is); (case k26 => k_is); (case a27 => k_is)
    (case l27 => k_is); (case c27 => k_is); (case k27 => k_is); (case a28 => k_is); (case l28 => k_is); (case c28 => k_is)
    (case k28 => k_is); (case a29 => k_is); (case l29 => k_is); (case c29 => k_is); (case k29 => k_is); (case a30 => k_is)
    (case l30 => k_is); (case c30 => k_is); (case k30 => k_is); (case a31 => k_is); (case l31 => k_is); (case c31 => k_is)
    (case k31 => k_is); (case a32 => k_is); (case l32 => k_is); (case c32 => k_is); (case k32 => k_is); (case am0 => k_is)
    (case lm0 => k_is); (case cm0 => k_is); (case km0 => k_is); (case am1 => k_is); (case im1 => k_is); (case lm1 => k_is)
    (case cm1 => k_is); (case km1 => k_is); (case am2 => k_is); (case im2 => k_is); (case lm2 => k_is); (case cm2 => k_is)
    (case km2 => k_is); (case am3 => k_is); (case im3 => k_is); (case lm3 => k_is); (case cm3 => k_is); (case km3 => k_is)
    (case am4 => k_is); (case im4 => k_is); (case lm4 => k_is); (case cm4 => k_is); (case km4 => k_is); (case am5 => k_is)
    (case im5 => k_is); (case lm5 => k_is); (case cm5 => k_is); (case km5 => k_is); (case am6 => k_is); (case im6 => k_is)
    (case lm6 => k_is); (case cm6 => k_is); (case km6 => k_is)
