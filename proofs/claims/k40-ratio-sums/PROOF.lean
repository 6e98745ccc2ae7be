import PyProof.Rows.All
import Wide.All
import OpenK.AllK
import Wide.FinOn
import HandS.ForMost
import HandS.Gcd
import HandS.Wide
import HandS.IsInst
import HandS.TupLe
import HandS.Codes
import HandS.Evl
import PySem.Challenge.RW_roomsfit_k40_ratio_sums
set_option Elab.async false
set_option linter.all false
set_option maxRecDepth 100000
set_option maxHeartbeats 4000000
/-! Arena: values as data in a part G of the heap that never changes; what a def may change. Own work. -/
namespace Ar
open PySem L2
/-- how a value stands for data -/
abbrev Rp (α : Type) := Hp → V → α → Prop
def Mono {α : Type} (R : Rp α) : Prop := ∀ (G G' : Hp) (v : V) (x : α), Same G G' → R G v x → R G' v x
theorem same_t {K : PySem.W.Frag} {H H' : Hp} {a : Addr} {xs : List V} (e : Same H H') (h : SqT K H a xs) : SqT K H' a xs := by
  rcases h with (h | ⟨o, h⟩) | h
  · exact .inl (.inl (e _ _ h))
  · exact .inl (.inr ⟨o, e _ _ h⟩)
  · exact .inr h
theorem same_new {H : Hp} {p : Addr} {o : HO} (h : H p = none) : Same H (upd H p o) := fun b x e => by
  rw [upd_ne (ne_of_none e h)]
  exact e
def RI : Rp Int := fun _ v x => v = .int x
def RL {α : Type} (R : Rp α) : Rp (List α) := fun G v xs => ∃ a vs, v = .ref a ∧ G a = some (.lst vs) ∧ Paired (R G) vs xs
def RT2 {α β : Type} (R : Rp α) (S : Rp β) : Rp (α × β) := fun G v x => ∃ a u w, v = .ref a ∧ G a = some (.tup [u, w]) ∧ R G u x.1 ∧ S G w x.2
def RP2 {α β : Type} (R : Rp α) (S : Rp β) : Rp (α × β) := fun G v x => ∃ a u w, v = .ref a ∧ G a = some (.lst [u, w]) ∧ R G u x.1 ∧ S G w x.2
def RT3 {α β γ : Type} (R : Rp α) (S : Rp β) (T : Rp γ) : Rp (α × β × γ) := fun G v x => ∃ a u w z, v = .ref a ∧ G a = some (.tup [u, w, z]) ∧ R G u x.1 ∧ S G w x.2.1 ∧ T G z x.2.2
def RP3 {α β γ : Type} (R : Rp α) (S : Rp β) (T : Rp γ) : Rp (α × β × γ) := fun G v x => ∃ a u w z, v = .ref a ∧ G a = some (.lst [u, w, z]) ∧ R G u x.1 ∧ S G w x.2.1 ∧ T G z x.2.2
section
variable {α β γ : Type} {R : Rp α} {S : Rp β} {T : Rp γ}
theorem mI : Mono RI := fun _ _ _ _ _ h => h
theorem mL (m : Mono R) : Mono (RL R) := fun G G' v xs e ⟨a, vs, h1, h2, h3⟩ => ⟨a, vs, h1, e _ _ h2, Paired.mapP h3 fun u x h => m G G' u x e h⟩
theorem mT2 (m : Mono R) (n : Mono S) : Mono (RT2 R S) := fun G G' v x e ⟨a, u, w, h1, h2, h3, h4⟩ => ⟨a, u, w, h1, e _ _ h2, m _ _ _ _ e h3, n _ _ _ _ e h4⟩
theorem mP2 (m : Mono R) (n : Mono S) : Mono (RP2 R S) := fun G G' v x e ⟨a, u, w, h1, h2, h3, h4⟩ => ⟨a, u, w, h1, e _ _ h2, m _ _ _ _ e h3, n _ _ _ _ e h4⟩
theorem mT3 (m : Mono R) (n : Mono S) (o : Mono T) : Mono (RT3 R S T) := fun G G' v x e ⟨a, u, w, z, h1, h2, h3, h4, h5⟩ => ⟨a, u, w, z, h1, e _ _ h2, m _ _ _ _ e h3, n _ _ _ _ e h4, o _ _ _ _ e h5⟩
theorem mP3 (m : Mono R) (n : Mono S) (o : Mono T) : Mono (RP3 R S T) := fun G G' v x e ⟨a, u, w, z, h1, h2, h3, h4, h5⟩ => ⟨a, u, w, z, h1, e _ _ h2, m _ _ _ _ e h3, n _ _ _ _ e h4, o _ _ _ _ e h5⟩
theorem pMono {G G' : Hp} {vs : List V} {xs : List α} (m : Mono R) (e : Same G G') (h : Paired (R G) vs xs) : Paired (R G') vs xs := Paired.mapP h fun u x h => m G G' u x e h
end
section
variable {α β : Type} {F : α → β → Prop}
theorem pGet : ∀ {xs : List α} {ys : List β} {i : Nat} {x : α}, Paired F xs ys → xs[i]? = some x → ∃ y, ys[i]? = some y ∧ F x y
  | _, _, _, _, .nil, h => by simp at h
  | _, _, 0, _, .cons f _, h => by simp at h; subst h; exact ⟨_, rfl, f⟩
  | _, _, i + 1, x, .cons _ t, h => by
    obtain ⟨y, h1, h2⟩ := pGet (i := i) (x := x) t (by simpa using h)
    exact ⟨y, by simpa using h1, h2⟩
theorem pGet' : ∀ {xs : List α} {ys : List β} {i : Nat} {y : β}, Paired F xs ys → ys[i]? = some y → ∃ x, xs[i]? = some x ∧ F x y
  | _, _, _, _, .nil, h => by simp at h
  | _, _, 0, _, .cons f _, h => by simp at h; subst h; exact ⟨_, rfl, f⟩
  | _, _, i + 1, x, .cons _ t, h => by
    obtain ⟨y, h1, h2⟩ := pGet' (i := i) (y := x) t (by simpa using h)
    exact ⟨y, by simpa using h1, h2⟩
theorem pApp : ∀ {xs xs' : List α} {ys ys' : List β}, Paired F xs ys → Paired F xs' ys' → Paired F (xs ++ xs') (ys ++ ys')
  | _, _, _, _, .nil, s => s
  | _, _, _, _, .cons r t, s => .cons r (pApp t s)
theorem pTake : ∀ {xs : List α} {ys : List β} (n : Nat), Paired F xs ys → Paired F (xs.take n) (ys.take n)
  | _, _, 0, _ => by simp; exact .nil
  | _, _, _ + 1, .nil => by simp; exact .nil
  | _, _, n + 1, .cons r t => .cons r (pTake n t)
theorem pDrop : ∀ {xs : List α} {ys : List β} (n : Nat), Paired F xs ys → Paired F (xs.drop n) (ys.drop n)
  | _, _, 0, r => r
  | _, _, _ + 1, .nil => by simp; exact .nil
  | _, _, n + 1, .cons _ t => pDrop n t
end
/-- from the entry (G, H) of a def to here (G', H'): G' is data, M says what may change -/
structure Ext (M : Addr → Prop) (G H G' H' : Hp) : Prop where
  g : Same G H
  gg : Same G G'
  gh : Same G' H'
  kp : ∀ b o, ¬ M b → H b = some o → H' b = some o
  lv : ∀ b, H' b = none → H b = none
  fr : ∀ b o, G' b = some o → G b = some o ∨ H b = none
abbrev M0 : Addr → Prop := fun _ => False
abbrev M1 (s : Addr) : Addr → Prop := fun b => b = s
section
variable {M M2 : Addr → Prop} {G H G1 H1 G2 H2 : Hp} {p f : Addr} {o : HO}
theorem Ext.refl (h : Same G H) : Ext M G H G H := ⟨h, Same.refl G, h, fun _ _ _ e => e, fun _ e => e, fun _ _ e => .inl e⟩
theorem Ext.new (e : Ext M G H G1 H1) (hp : H1 p = none) : Ext M G H G1 (upd H1 p o) := by
  refine ⟨e.g, e.gg, fun b x h => ?_, fun b x m h => ?_, fun b h => ?_, e.fr⟩
  · rw [upd_ne (ne_of_none (e.gh b x h) hp)]; exact e.gh b x h
  · have hb : b ≠ p := fun q => by subst q; have := e.lv b hp; rw [this] at h; cases h
    rw [upd_ne hb]; exact e.kp b x m h
  · by_cases q : b = p
    · subst q; exact e.lv b hp
    · rw [upd_ne q] at h; exact e.lv b h
theorem Ext.pub (e : Ext M G H G1 H1) (hp : H p = none) (h1 : H1 p = some o) (g : G1 p = none) : Ext M G H (upd G1 p o) H1 := by
  refine ⟨e.g, fun b x h => ?_, fun b x h => ?_, e.kp, e.lv, fun b x h => ?_⟩
  · have hb : b ≠ p := fun q => by subst q; have := e.gg b x h; rw [g] at this; cases this
    rw [upd_ne hb]; exact e.gg b x h
  · by_cases q : b = p
    · subst q; rw [upd_same] at h; rw [h1, ← h]
    · rw [upd_ne q] at h; exact e.gh b x h
  · by_cases q : b = p
    · subst q; exact .inr hp
    · rw [upd_ne q] at h; exact e.fr b x h
theorem Ext.none1 (e : Ext M G H G1 H1) (h : H1 p = none) : G1 p = none := by
  cases q : G1 p with
  | none => rfl
  | some x => rw [e.gh p x q] at h; cases h
theorem Ext.newpub (e : Ext M G H G1 H1) (hp : H1 p = none) : Ext M G H (upd G1 p o) (upd H1 p o) := (e.new hp).pub (e.lv p hp) upd_same (e.none1 hp)
theorem Ext.wr (e : Ext M G H G1 H1) (hf : H f = none ∨ M f) (g : G1 f = none) (h1 : H1 f ≠ none) : Ext M G H G1 (upd H1 f o) := by
  refine ⟨e.g, e.gg, fun b x h => ?_, fun b x m h => ?_, fun b h => ?_, e.fr⟩
  · have hb : b ≠ f := fun q => by subst q; rw [g] at h; cases h
    rw [upd_ne hb]; exact e.gh b x h
  · have hb : b ≠ f := fun q => by
      subst q
      rcases hf with z | z
      · rw [z] at h; cases h
      · exact m z
    rw [upd_ne hb]; exact e.kp b x m h
  · by_cases q : b = f
    · subst q; rw [upd_same] at h; cases h
    · rw [upd_ne q] at h; exact e.lv b h
theorem Ext.call (e : Ext M G H G1 H1) (e2 : Ext M2 G1 H1 G2 H2) (hM : ∀ b, M2 b → M b ∨ H b = none) : Ext M G H G2 H2 := by
  refine ⟨e.g, e.gg.trans e2.gg, e2.gh, fun b x m h => ?_, fun b h => e.lv b (e2.lv b h), fun b x h => ?_⟩
  · refine e2.kp b x (fun z => ?_) (e.kp b x m h)
    rcases hM b z with q | q
    · exact m q
    · rw [q] at h; cases h
  · rcases e2.fr b x h with q | q
    · exact e.fr b x q
    · exact .inr (e.lv b q)
theorem Ext.call0 (e : Ext M G H G1 H1) (e2 : Ext M0 G1 H1 G2 H2) : Ext M G H G2 H2 := e.call e2 fun _ z => z.elim
theorem Ext.call1 {s : Addr} (e : Ext (M1 s) G H G1 H1) (e2 : Ext (M1 s) G1 H1 G2 H2) : Ext (M1 s) G H G2 H2 := e.call e2 fun _ z => .inl z
/-- a private object stays out of the data -/
theorem Ext.priv (e : Ext M G H G1 H1) (g : G p = none) (h : H p ≠ none) : G1 p = none := by
  cases q : G1 p with
  | none => rfl
  | some x =>
    rcases e.fr p x q with z | z
    · rw [g] at z; cases z
    · exact absurd z h
theorem Ext.keep0 (e : Ext M0 G H G1 H1) (h : H p = some o) : H1 p = some o := e.kp p o (fun z => z) h
theorem Ext.keep1 {s : Addr} (e : Ext (M1 s) G H G1 H1) (h : H p = some o) (n : p ≠ s) : H1 p = some o := e.kp p o n h
theorem Ext.weak (e : Ext M0 G H G1 H1) : Ext M G H G1 H1 := ⟨e.g, e.gg, e.gh, fun b x _ h => e.kp b x (fun z => z) h, e.lv, e.fr⟩
end
theorem upd_none {H : Hp} {s p : Addr} {o : HO} (h : upd H s o p = none) : H p = none ∧ p ≠ s := by
  have n : p ≠ s := fun q => by subst q; rw [upd_same] at h; cases h
  rw [upd_ne n] at h
  exact ⟨h, n⟩
/-- a new object is put at the end of a private list -/
theorem Ext.push {M : Addr → Prop} {G H G1 H1 : Hp} {α : Type} {R : Rp α} {f p : Addr} {vs : List V} {xs : List α} {x : α} {o : HO} (e : Ext M G H G1 H1) (m : Mono R) (hf0 : H f = none) (hf : H1 f = some (.lst vs)) (gf : G1 f = none) (hp : H1 p = none)
    (ha : Paired (R G1) vs xs) (hx : R (upd G1 p o) (.ref p) x) :
    Ext M G H (upd G1 p o) (upd (upd H1 p o) f (.lst (vs ++ [.ref p]))) ∧ upd (upd H1 p o) f (.lst (vs ++ [.ref p])) f = some (.lst (vs ++ [.ref p])) ∧ upd G1 p o f = none ∧ Paired (R (upd G1 p o)) (vs ++ [.ref p]) (xs ++ [x]) := by
  have nf : f ≠ p := ne_of_none hf hp
  have g2 : upd G1 p o f = none := by rw [upd_ne nf]; exact gf
  refine ⟨((e.newpub hp).wr (.inl hf0) g2 ?_), upd_same, g2, ?_⟩
  · rw [upd_ne nf, hf]; exact fun z => nomatch z
  · exact Paired.snoc (pMono m (same_new (e.none1 hp)) ha) hx
/-- the same, the object already data -/
theorem Ext.push0 {M : Addr → Prop} {G H G1 H1 : Hp} {α : Type} {R : Rp α} {f : Addr} {v : V} {vs : List V} {xs : List α} {x : α} (e : Ext M G H G1 H1) (hf0 : H f = none) (hf : H1 f = some (.lst vs)) (gf : G1 f = none)
    (ha : Paired (R G1) vs xs) (hx : R G1 v x) :
    Ext M G H G1 (upd H1 f (.lst (vs ++ [v]))) ∧ upd H1 f (.lst (vs ++ [v])) f = some (.lst (vs ++ [v])) ∧ Paired (R G1) (vs ++ [v]) (xs ++ [x]) :=
  ⟨e.wr (.inl hf0) gf (by rw [hf]; exact fun z => nomatch z), upd_same, Paired.snoc ha hx⟩
theorem Ext.st {G H G1 H1 : Hp} {s : Addr} {o : HO} (e : Ext (M1 s) G H G1 H1) (g : G s = none) (h : H s ≠ none) (h1 : H1 s ≠ none) : Ext (M1 s) G H G1 (upd H1 s o) := e.wr (.inr rfl) (e.priv g h) h1
/-- a new object, published: the new data by name -/
theorem Ext.np {M : Addr → Prop} {G H G1 H1 : Hp} {p : Addr} (o : HO) (e : Ext M G H G1 H1) (hp : H1 p = none) : ∃ G2, Ext M G H G2 (upd H1 p o) ∧ Same G1 G2 ∧ G2 p = some o :=
  ⟨upd G1 p o, e.newpub hp, same_new (e.none1 hp), upd_same⟩
/-- a new private object -/
theorem Ext.nw {M : Addr → Prop} {G H G1 H1 : Hp} {p : Addr} (o : HO) (e : Ext M G H G1 H1) (hp : H1 p = none) : Ext M G H G1 (upd H1 p o) ∧ Same H1 (upd H1 p o) ∧ upd H1 p o p = some o := ⟨e.new hp, same_new hp, upd_same⟩
theorem Ext.grow {M : Addr → Prop} {G H G1 H1 H2 : Hp} (e : Ext M G H G1 H1) (s : Same H1 H2) : Ext M G H G1 H2 :=
  ⟨e.g, e.gg, fun b x h => s _ _ (e.gh b x h), fun b x m h => s _ _ (e.kp b x m h), fun b h => e.lv b (s.free h), e.fr⟩
theorem same_mut {G H : Hp} {s : Addr} {o : HO} (e : Same G H) (g : G s = none) : Same G (upd H s o) := fun b x h => by
  have hb : b ≠ s := fun q => by subst q; rw [g] at h; cases h
  rw [upd_ne hb]; exact e b x h
/-- a new object joins the data -/
theorem np1 {G H : Hp} {p : Addr} (o : HO) (hG : Same G H) (hp : H p = none) : ∃ G', Same G G' ∧ Same G' (upd H p o) ∧ G' p = some o ∧ ∀ b, b ≠ p → G' b = G b := by
  obtain ⟨G', e, s, g⟩ := (Ext.refl (M := M0) hG).np o hp
  have gp : G p = none := hG.free hp
  refine ⟨upd G p o, same_new gp, fun b x h => ?_, upd_same, fun b hb => upd_ne hb⟩
  by_cases q : b = p
  · subst q; rw [upd_same] at h ⊢; exact h
  · rw [upd_ne q] at h ⊢; exact hG b x h
theorem Ext.np2 {M : Addr → Prop} {G H G1 H1 : Hp} {p : Addr} (o : HO) (e : Ext M G H G1 H1) (hp : H1 p = none) : ∃ G2, Ext M G H G2 (upd H1 p o) ∧ Same G1 G2 ∧ G2 p = some o ∧ ∀ b, H1 b ≠ none → G2 b = G1 b :=
  ⟨upd G1 p o, e.newpub hp, same_new (e.none1 hp), upd_same, fun b hb => upd_ne fun q => hb (by rw [q]; exact hp)⟩
theorem some_ne {H : Hp} {a : Addr} {o : HO} (h : H a = some o) : H a ≠ none := by rw [h]; exact fun z => nomatch z
/-- a def of the text, where it stands -/
structure DF (K : PySem.W.Frag) (mg : Str → Option Value) (nm : Str) (st : Stmt) (ps : List Str) where
  f : Addr
  fd : FuncData
  F : Fun K nm nm st f fd
  b : Binds K fd ps []
  g : mg nm = some (.ref f)
theorem pcall {X : Cx} {k j : Nat} {ps : List Str} {sp : Sp} {x : Str} {st : Stmt} {p pos : Pos} {e : Expr} {es : List Expr} {t : TA} (D : DF X.K X.mg x st ps) (G : FnOk X.prog X.w X.K X.mg X.base CX0 j D.f D.fd ps sp) (hr : Room k X.A) (ha : PA X (e :: es) t)
    (hg : Gl X x := by rfl) (hj : j ≤ k := by decide) (hdb : (x == ("__debug__" : Str)) = false := by decide) (he : starEach (e :: es) X.env = (false, eval e X.env) :: starEach es X.env := by rfl) (hpl : (backTo pos (starEach es X.env)).any (·.1) = false := by rfl)
    (hx : Passes CX0 X E0 := by exact pass0) : PE X (.Call (.Name x p) (e :: es) [] pos) (tCall sp [] E0 t) :=
  pe_call G (hr.mono hj) hg D.g D.F.kp D.b .nil hx ha hdb he hpl
/-! ### reading a term from the left -/
section
variable {K : PySem.W.Frag} {σ : L2.St} {H G : Hp} {Q : VK} {QB : Bool → Hp → Prop} {QA : List V → Hp → Prop} {ta tb te : TE} {t u : TT} {tl th : TO} {tA tA' : TA} {D : Ends} {ts us : TS} {x y v : V} {r : R2} {i : Nat} {sp : Sp} {dvs : List V} {E : XK} {g : TG}
theorem rd_var (h : σ[i]? = some (some v)) (q : Q v H) : tVar i σ H Q := ⟨v, h, q⟩
theorem rd_c (q : Q v H) : tC v σ H Q := q
theorem rd_op (q : ta σ H fun x H1 => tb σ H1 fun y H2 => r x y H2 Q) : tOp r ta tb σ H Q := q
theorem rd_un {r : V → Hp → VK → Prop} (q : ta σ H fun x H1 => r x H1 Q) : tUn r ta σ H Q := q
theorem rd_nil (q : QA [] H) : tNil σ H QA := q
theorem rd_cons (q : ta σ H fun x H1 => tA σ H1 fun xs H2 => QA (x :: xs) H2) : tCons ta tA σ H QA := q
theorem rd_call (q : tA σ H fun vs H1 => sp (vs ++ dvs) H1 Q E) : tCall sp dvs E tA σ H Q := q
theorem rd_cb {r : List V → Hp → VK → Prop} (q : tA σ H fun vs H1 => r vs H1 Q) : tCB r tA σ H Q := q
theorem rd_ret (q : te σ H D.rt) : tRet te D σ H := q
theorem rd_retN (q : D.rt .non H) : tRetN D σ H := q
theorem rd_drop (q : te σ H fun _ H1 => D.nx σ H1) : tDrop te D σ H := q
theorem rd_set (q : te σ H fun x H1 => D.nx (σ.set i (some x)) H1) : tAsg te (gName i) D σ H := q
theorem rd_asg (q : te σ H fun x H1 => g x σ H1 D.nx) : tAsg te g D σ H := q
theorem rd_sub {to ti : TE} {tset : TSet} {QQ : L2.St → Hp → Prop} (q : to σ H fun o H1 => ti σ H1 fun j H2 => tset o j v H2 fun H3 => QQ σ H3) : gSub to ti tset v σ H QQ := q
theorem rd_name {QQ : L2.St → Hp → Prop} (q : QQ (σ.set i (some v)) H) : gName i v σ H QQ := q
theorem rd_seq (q : ts { D with nx := us D } σ H) : tSeq ts us D σ H := q
theorem rd_next (q : D.nx σ H) : tNext D σ H := q
theorem rd_ifs {c : TT} (q : c σ H fun b H1 => if b = true then ts D σ H1 else us D σ H1) : tIfS c ts us D σ H := q
theorem rd_test (q : te σ H fun x H' => ∃ k, x = .bl k ∧ QB k H') : tTest te σ H QB := q
theorem rd_B (q : te σ H fun x H' => ∃ k, x = .bl k ∧ QB k H') : tB te σ H QB := q
theorem rd_and (q : t σ H fun c H1 => if c = true then u σ H1 QB else QB false H1) : tAnd t u σ H QB := q
theorem rd_or (q : t σ H fun c H1 => if c = true then QB true H1 else u σ H1 QB) : tOr t u σ H QB := q
theorem rd_not (q : t σ H fun c H1 => QB (!c) H1) : tNot t σ H QB := q
theorem rd_andV (q : ta σ H fun x H1 => ∃ c, x = .bl c ∧ if c = true then tb σ H1 Q else Q (.bl false) H1) : tAndV ta tb σ H Q := q
theorem rd_orV (q : ta σ H fun x H1 => ∃ c, x = .bl c ∧ if c = true then Q (.bl true) H1 else tb σ H1 Q) : tOrV ta tb σ H Q := q
theorem rd_notV (q : ta σ H fun x H1 => ∃ c, x = .bl c ∧ Q (.bl (!c)) H1) : tNotV ta σ H Q := q
theorem rd_if (q : t σ H fun c H1 => if c = true then ta σ H1 Q else tb σ H1 Q) : tIf t ta tb σ H Q := q
theorem rd_tup (q : tA σ H fun xs H1 => xs.length ≤ sizeLine ∧ ∀ p, H1 p = none → Q (.ref p) (upd H1 p (.tup xs))) : tTup tA σ H Q := q
theorem rd_lst (q : tA σ H fun xs H1 => xs.length ≤ sizeLine ∧ ∀ p, H1 p = none → Q (.ref p) (upd H1 p (.lst xs))) : tLst tA σ H Q := q
theorem rd_part {QO : Option Int → Hp → Prop} (q : te σ H fun x H1 => ∃ i, x = .int i ∧ QO (some i) H1) : tPart te σ H QO := q
theorem rd_noPart {QO : Option Int → Hp → Prop} (q : QO none H) : tNoPart σ H QO := q
theorem rd_sl {r : V → Option Int → Option Int → Hp → VK → Prop} (q : te σ H fun x H1 => tl σ H1 fun l H2 => th σ H2 fun u H3 => r x l u H3 Q) : tSl r te tl th σ H Q := q
theorem rd_I0 {g : Int → Int → V} {i j : Int} (q : Q (g i j) H) : rI0 g (.int i) (.int j) H Q := ⟨i, j, rfl, rfl, q⟩
theorem rd_I {C : Int → Int → Prop} {g : Int → Int → V} {i j : Int} (q : Q (g i j) H) (hc : C i j) : rI C g (.int i) (.int j) H Q := ⟨i, j, rfl, rfl, hc, q⟩
theorem rd_U {g : Int → V} {i : Int} (q : Q (g i) H) : rU g (.int i) H Q := ⟨i, rfl, q⟩
theorem rd_bl {b : Bool} {P : Bool → Prop} (q : P b) : ∃ k, V.bl b = .bl k ∧ P k := ⟨b, rfl, q⟩
theorem rd_eqI {i j : Int} (q : Q (.bl (decide (i = j))) H) : rEq (.int i) (.int j) H Q := ⟨rfl, by
  have e : decide (V.int i = V.int j) = decide (i = j) := by simp
  rw [e]; exact q⟩
theorem rd_neI {i j : Int} (q : Q (.bl (!decide (i = j))) H) : rNe (.int i) (.int j) H Q := ⟨rfl, by
  have e : decide (V.int i = V.int j) = decide (i = j) := by simp
  rw [e]; exact q⟩
theorem rd_int {i : Int} {P : Int → Prop} {A : Prop} (q : P i) : (∃ j, [V.int i] = [V.int j] ∧ P j) ∨ A := .inl ⟨i, rfl, q⟩
theorem rd_intb {b : Bool} {P : Int → Prop} {R : Bool → Prop} (q : R b) : (∃ j, [V.bl b] = [V.int j] ∧ P j) ∨ ∃ k, [V.bl b] = [V.bl k] ∧ R k := .inr ⟨b, rfl, q⟩
theorem rd_ex1 {i : Int} {P : Int → Prop} (q : P i) : ∃ j, [V.int i] = [V.int j] ∧ P j := ⟨i, rfl, q⟩
theorem rd_ex2 {i j : Int} {P : Int → Int → Prop} (q : P i j) : ∃ a b, [V.int i, V.int j] = [V.int a, V.int b] ∧ P a b := ⟨i, j, rfl, q⟩
theorem rd_exI {i : Int} {P : Int → Prop} (q : P i) : ∃ j, V.int i = V.int j ∧ P j := ⟨i, rfl, q⟩
theorem rd_and2 {a : V} {A : Prop} (q : A) : a = a ∧ A := ⟨rfl, q⟩
theorem rd_sv {v : V} {vs : List V} {P : V → List V → Prop} (q : P v vs) : ∃ u r, v :: vs = u :: r ∧ P u r := ⟨v, vs, rfl, q⟩
theorem abs_if {i : Int} : (if i < 0 then -i else i) = (i.natAbs : Int) := by split <;> omega
theorem max_if {i j : Int} : (if j > i then j else i) = max i j := by rw [Int.max_def]; split <;> split <;> omega
theorem min_if {i j : Int} : (if j < i then j else i) = min i j := by rw [Int.min_def]; split <;> split <;> omega
theorem rd_ixL {p : Addr} {xs : List V} {i : Int} (h : SqL K H p xs) (ha : atI xs i = some v) (q : Q v H) : rIxL K (.ref p) (.int i) H Q := ⟨p, xs, i, v, rfl, rfl, h, ha, q⟩
theorem rd_ixT {p : Addr} {xs : List V} {i : Int} (h : SqT K H p xs) (ha : atI xs i = some v) (q : Q v H) : rIxT K (.ref p) (.int i) H Q := ⟨p, xs, i, v, rfl, rfl, h, ha, q⟩
theorem rd_isi {x : V} {a b : String} {c : Bool} (ty : TyX K H x (.type a)) (hk : kitB a b = some c) (q : Q (.bl c) H) : rIsi K [x, .ty b] H Q := ⟨x, .ty b, _, _, c, rfl, .ty b, ty, kit_ty hk, q⟩
theorem rd_forR {g : TG} {tb : TS} {D : Ends} (q : tA σ H fun vs H1 => ∃ j : Int, vs = [.int j] ∧ -(2 ^ 62) ≤ j ∧ j < 2 ^ 62 ∧ ∃ W : Nat → Nat → L2.St → Hp → Prop, (∃ m, W 0 m σ H1) ∧ ∀ i m σ H, W i m σ H →
  ((Itr 0 j.toNat).stop i H ∧ D.nx σ H) ∨ ((Itr 0 j.toNat).go i H ∧ ∃ N : L2.St → Hp → Prop, (∀ σ' H', N σ' H' → ∃ m', m' < m ∧ W (i + 1) m' σ' H') ∧ ∀ x H', (Itr 0 j.toNat).yld i H x H' → g x σ H' fun σ2 H2 => tb { D with nx := N, ct := N, bk := D.nx } σ2 H2)) : tFor (iRng1 tA) g tb D σ H := q
theorem rd_forL {g : TG} {tb : TS} {D : Ends} (q : te σ H fun x H1 => ∃ a, x = .ref a ∧ (∃ xs, SqL K H1 a xs) ∧ ∃ W : Nat → Nat → L2.St → Hp → Prop, (∃ m, W 0 m σ H1) ∧ ∀ i m σ H, W i m σ H →
  ((Itl K a).stop i H ∧ D.nx σ H) ∨ ((Itl K a).go i H ∧ ∃ N : L2.St → Hp → Prop, (∀ σ' H', N σ' H' → ∃ m', m' < m ∧ W (i + 1) m' σ' H') ∧ ∀ x H', (Itl K a).yld i H x H' → g x σ H' fun σ2 H2 => tb { D with nx := N, ct := N, bk := D.nx } σ2 H2)) : tFor (iList K te) g tb D σ H := q
theorem rd_exR {a : Addr} {P : Addr → Prop} (q : P a) : ∃ b, V.ref a = V.ref b ∧ P b := ⟨a, rfl, q⟩
theorem rd_cut {ts us : TS} (M : L2.St → Hp → Prop) (h : ts { D with nx := M } σ H) (k : ∀ σ' H', M σ' H' → us D σ' H') : C8.tCut ts us D σ H := ⟨M, h, k⟩
theorem iteNT {A B : Prop} (h : B) : if (!true) = true then A else B := h
theorem iteNF {A B : Prop} (h : A) : if (!false) = true then A else B := h
theorem ifRef {a : Addr} {A B : Prop} (h : B) : if decide (V.ref a = V.non) = true then A else B := by rw [if_neg (by simp)]; exact h
theorem ifNRef {a : Addr} {A B : Prop} (h : A) : if (!decide (V.ref a = V.non)) = true then A else B := by rw [if_pos (by simp)]; exact h
theorem rd_gtup {a : Addr} {xs : List V} {n : Nat} {tt : TGs} {QQ : L2.St → Hp → Prop} (h : SqT K H a xs) (hl : xs.length = n) (q : tt xs σ H QQ) : gTup K n tt (.ref a) σ H QQ := ⟨a, xs, rfl, h, hl, q⟩
theorem rd_gcons {v : V} {r : List V} {g : TG} {tt : TGs} {QQ : L2.St → Hp → Prop} (q : g v σ H fun σ' H' => tt r σ' H' QQ) : gCons g tt (v :: r) σ H QQ := ⟨v, r, rfl, q⟩
theorem rd_gnil {QQ : L2.St → Hp → Prop} (q : QQ σ H) : gNil [] σ H QQ := ⟨rfl, q⟩
theorem rd_cat {l b : Addr} {xs zs : List V} (h1 : H l = some (.lst xs)) (h2 : H b = some (.lst zs)) (hz : xs.length + zs.length ≤ sizeLine) (q : ∀ p, H p = none → Q (.ref p) (upd H p (.lst (xs ++ zs)))) : rCat (.ref l) (.ref b) H Q := ⟨l, b, xs, zs, rfl, rfl, h1, h2, hz, q⟩
theorem rd_listL {a : Addr} {xs : List V} {HH : Hp} {P : List V → Prop} (h : SqL K HH a xs) (q : P xs) : ∃ p ys, [V.ref a] = [V.ref p] ∧ (SqL K HH p ys ∨ SqT K HH p ys) ∧ P ys := ⟨a, xs, rfl, .inl h, q⟩
theorem rd_lcR {g : TG} {tt : TT} {te : TE} {vs : List Nat} (q : tA σ H fun us H1 => ∃ j : Int, us = [.int j] ∧ -(2 ^ 62) ≤ j ∧ j < 2 ^ 62 ∧ ∀ D, H1 D = none → ∃ W : Nat → Nat → Hp → Prop, (∃ m, W 0 m (upd H1 D (.lst []))) ∧ ∀ i m H, W i m H →
  ((Itr 0 j.toNat).stop i H ∧ Q (.ref D) H) ∨ ((Itr 0 j.toNat).go i H ∧ ∃ Nx : Hp → Prop, (∀ H', Nx H' → ∃ m', m' < m ∧ W (i + 1) m' H') ∧ ∀ x H', (Itr 0 j.toNat).yld i H x H' → g x (wipe σ vs) H' fun σ2 H2 => wipe σ2 vs = wipe σ vs ∧ tt σ2 H2 fun b H3 =>
    if b = true then te σ2 H3 fun y H4 => ∃ acc, H4 D = some (.lst acc) ∧ acc.length < sizeLine ∧ Nx (upd H4 D (.lst (acc ++ [y]))) else Nx H3)) : tLc (iRng1 tA) g tt te vs σ H Q := q
theorem rd_yes {QQ : Bool → Hp → Prop} (q : QQ true H) : tYes σ H QQ := q
theorem rd_forE {g : TG} {tb : TS} {D : Ends} (q : tA σ H fun vs H1 => ∃ a xs, vs = [.ref a] ∧ SqL K H1 a xs ∧ ∃ W : Nat → Nat → L2.St → Hp → Prop, (∃ m, W 0 m σ H1) ∧ ∀ i m σ H, W i m σ H →
  ((Ite K a).stop i H ∧ D.nx σ H) ∨ ((Ite K a).go i H ∧ ∃ N : L2.St → Hp → Prop, (∀ σ' H', N σ' H' → ∃ m', m' < m ∧ W (i + 1) m' σ' H') ∧ ∀ x H', (Ite K a).yld i H x H' → g x σ H' fun σ2 H2 => tb { D with nx := N, ct := N, bk := D.nx } σ2 H2)) : tFor (iEnum K tA) g tb D σ H := q
theorem for_enum {a : Addr} {xs : List V} {g : TG} {tb : TS} {D : Ends} (Pv : Nat → L2.St → Hp → Prop) (h0 : Pv 0 σ H) (hq : ∀ i σ H, Pv i σ H → SqL K H a xs)
    (hs : ∀ (i : Nat) (x : V) (T : Addr) (σ : L2.St) (H : Hp), xs[i]? = some x → Pv i σ H → H T = none → g (.ref T) σ (upd H T (.tup [.int (i : Nat), x])) fun σ2 H2 => tb { D with nx := Pv (i + 1), ct := Pv (i + 1), bk := D.nx } σ2 H2) (hd : ∀ σ H, Pv xs.length σ H → D.nx σ H) :
    ∃ W : Nat → Nat → L2.St → Hp → Prop, (∃ m, W 0 m σ H) ∧ ∀ i m σ H, W i m σ H →
      ((Ite K a).stop i H ∧ D.nx σ H) ∨ ((Ite K a).go i H ∧ ∃ N : L2.St → Hp → Prop, (∀ σ' H', N σ' H' → ∃ m', m' < m ∧ W (i + 1) m' σ' H') ∧ ∀ v H', (Ite K a).yld i H v H' → g v σ H' fun σ2 H2 => tb { D with nx := N, ct := N, bk := D.nx } σ2 H2) := by
  refine ⟨fun i m σ H => m = xs.length - i ∧ i ≤ xs.length ∧ Pv i σ H, ⟨xs.length, rfl, Nat.zero_le _, h0⟩, ?_⟩
  rintro i m σ H ⟨rfl, hi, p⟩
  have qx := hq i σ H p
  by_cases hlt : i < xs.length
  · have hx : xs[i]? = some xs[i] := List.getElem?_eq_getElem hlt
    refine .inr ⟨⟨xs, _, qx, hx⟩, Pv (i + 1), fun σ' H' p' => ⟨xs.length - (i + 1), by omega, rfl, hlt, p'⟩, fun v H' y => ?_⟩
    obtain ⟨T, x', rfl, hT, rfl, f1⟩ := y
    exact hs i x' T σ H (f1 xs qx) p hT
  · have e : i = xs.length := by omega
    subst e
    exact .inl ⟨⟨xs, qx, Nat.le_refl _⟩, hd σ H p⟩
theorem rd_exLE {b : Addr} {xs : List V} {HH : Hp} {P : Addr → Prop} (h : SqL K HH b xs) (q : P b) : ∃ a ys, [V.ref b] = [V.ref a] ∧ SqL K HH a ys ∧ P a := ⟨b, xs, rfl, h, q⟩
theorem rd_slL {a : Addr} {xs : List V} {lo hi : Option Int} (h : SqL K H a xs) (q : ∀ p, H p = none → Q (.ref p) (upd H p (.lst (cutV xs lo hi)))) : rSlL K (.ref a) lo hi H Q := ⟨a, xs, rfl, h, q⟩
theorem rd_lenL {a : Addr} {xs : List V} {P : List V → Prop} {HH : Hp} (h : SqL K HH a xs) (q : P xs) : ∃ p ys, [V.ref a] = [V.ref p] ∧ (SqL K HH p ys ∨ SqT K HH p ys) ∧ P ys := ⟨a, xs, rfl, .inl h, q⟩
theorem rd_lenT {a : Addr} {xs : List V} {P : List V → Prop} {HH : Hp} (h : SqT K HH a xs) (q : P xs) : ∃ p ys, [V.ref a] = [V.ref p] ∧ (SqL K HH p ys ∨ SqT K HH p ys) ∧ P ys := ⟨a, xs, rfl, .inr h, q⟩
theorem rd_setL {p : Addr} {xs : List V} {k : Int} {j : Nat} {QH : Hp → Prop} (h : H p = some (.lst xs)) (hj : ixN xs.length k = some j) (q : QH (upd H p (.lst (xs.set j v)))) : rSetL (.ref p) (.int k) v H QH := ⟨p, xs, k, j, rfl, rfl, h, hj, q⟩
theorem rd_app {l : Addr} {xs : List V} (h : H l = some (.lst xs)) (hz : xs.length < sizeLine) (q : Q .non (upd H l (.lst (xs ++ [v])))) : rAppend (.ref l) [v] H Q := ⟨l, xs, v, rfl, rfl, h, hz, q⟩
theorem rd_appT {l : Addr} {xs : List V} (h : H l = some (.lst xs)) (q : te σ H fun y H1 => rAppend (.ref l) [y] H1 Q) (e : ta σ H = fun Q => Q (.ref l) H) : tBM K "list" rAppend ta (tCons te tNil) σ H Q := by
  show ta σ H fun x H1 => tyV K "list" x H1 ∧ tCons te tNil σ H1 fun xs H2 => rAppend x xs H2 Q
  rw [e]
  exact ⟨.inl ⟨rfl, xs, SqL.of h⟩, q⟩
theorem rd_bm {r : V → List V → Hp → VK → Prop} {T : String} (q : ta σ H fun x H1 => tyV K T x H1 ∧ tA σ H1 fun xs H2 => r x xs H2 Q) : tBM K T r ta tA σ H Q := q
theorem rd_tyL {l : Addr} {xs : List V} {A : Prop} (h : H l = some (.lst xs)) (q : A) : tyV K "list" (.ref l) H ∧ A := ⟨.inl ⟨rfl, xs, SqL.of h⟩, q⟩
theorem ifd {c A B : Prop} [Decidable c] (h1 : c → A) (h2 : ¬ c → B) : if decide c = true then A else B := by
  by_cases h : c
  · rw [if_pos (decide_eq_true h)]; exact h1 h
  · rw [if_neg (by simpa using h)]; exact h2 h
theorem ifnd {c A B : Prop} [Decidable c] (h1 : ¬ c → A) (h2 : c → B) : if (!decide c) = true then A else B := by
  by_cases h : c
  · rw [if_neg (by simpa using h)]; exact h2 h
  · rw [if_pos (by simpa using h)]; exact h1 h
theorem rd_len {xs : List V} {A : Prop} (h : Nat.ble xs.length sizeLine = true) (q : A) : xs.length ≤ sizeLine ∧ A := ⟨Nat.le_of_ble_eq_true h, q⟩
end
section
variable {X : Cx}
/-- // by any divisor but 0 below 2 ^ 9000 -/
def CDivWN (_ j : Int) : Prop := j ≠ 0 ∧ j.natAbs.log2 < 9000
theorem op_fdivWN : OpR X (binaryOp .FloorDiv) (rI CDivWN fun i j => .int (i.fdiv j)) := opI fun _ _ _ _ _ _ _ hc q => PyProof.Rows.floordiv_int hc.1 q (.inl (PyProof.noPylong_of_log2 hc.2))
end
end Ar
set_option maxHeartbeats 4000000
/-! K40: the plain mathematics: fractions in lowest terms, Euclid's turns. -/
namespace M40
/-- Fibonacci -/
def fib : Nat → Nat
  | 0 => 0
  | 1 => 1
  | n + 2 => fib (n + 1) + fib n
theorem fib_mono1 : ∀ n, fib n ≤ fib (n + 1)
  | 0 => by decide
  | n + 1 => by show fib (n + 1) ≤ fib (n + 1) + fib n; omega
theorem fib4 (n : Nat) : 4 * fib (n + 2) ≤ fib (n + 5) := by
  have h1 : fib (n + 5) = fib (n + 4) + fib (n + 3) := rfl
  have h2 : fib (n + 4) = fib (n + 3) + fib (n + 2) := rfl
  have h3 : fib (n + 3) = fib (n + 2) + fib (n + 1) := rfl
  have h4 : fib (n + 2) = fib (n + 1) + fib n := rfl
  have h5 := fib_mono1 n
  omega
theorem fib_big : ∀ k, 4 ^ k ≤ fib (3 * k + 2)
  | 0 => by decide
  | k + 1 => by
    have h := fib4 (3 * k)
    have ih := fib_big k
    rw [Nat.pow_succ]
    show 4 ^ k * 4 ≤ fib (3 * k + 5)
    omega
/-- not through after n turns -/
def Runs : Nat → Nat → Nat → Prop
  | 0, _, b => b ≠ 0
  | n + 1, a, b => b ≠ 0 ∧ Runs n b (a % b)
theorem runs_fib : ∀ n a b, Runs n a b → fib (n + 1) ≤ b ∧ (b ≤ a → fib (n + 2) ≤ a)
  | 0, a, b, h => by
    have : b ≠ 0 := h
    have e1 : fib 1 = 1 := rfl
    have e2 : fib 2 = 1 := rfl
    exact ⟨by show fib 1 ≤ b; omega, fun q => by show fib 2 ≤ a; omega⟩
  | n + 1, a, b, ⟨h0, h⟩ => by
    obtain ⟨i1, i2⟩ := runs_fib n b (a % b) h
    have hl := Nat.mod_lt a (Nat.pos_of_ne_zero h0)
    have i3 := i2 (Nat.le_of_lt hl)
    refine ⟨i3, fun q => ?_⟩
    have e : fib (n + 1 + 2) = fib (n + 2) + fib (n + 1) := rfl
    have hd := Nat.div_add_mod a b
    have h1 : 1 ≤ a / b := (Nat.one_le_div_iff (Nat.pos_of_ne_zero h0)).mpr q
    have h2 : b * 1 ≤ b * (a / b) := Nat.mul_le_mul_left b h1
    omega
theorem not_runs {a b : Nat} (h : b < 4 ^ 1333) : ¬ Runs 4000 a b := fun r => by
  have h1 := (runs_fib 4000 a b r).1
  have h2 : 4 ^ 1333 ≤ fib (3 * 1333 + 2) := fib_big 1333
  exact absurd (Nat.lt_of_lt_of_le h h2) (Nat.not_lt.mpr h1)
/-- the pair behind i turns -/
def euc : Nat → Nat × Nat → Nat × Nat
  | 0, p => p
  | n + 1, p => (fun q : Nat × Nat => (q.2, q.1 % q.2)) (euc n p)
theorem euc_front : ∀ n (p : Nat × Nat), euc (n + 1) p = euc n (p.2, p.1 % p.2)
  | 0, _ => rfl
  | n + 1, p => by
    show (fun q : Nat × Nat => (q.2, q.1 % q.2)) (euc (n + 1) p) = (fun q : Nat × Nat => (q.2, q.1 % q.2)) (euc n (p.2, p.1 % p.2))
    rw [euc_front n p]
theorem runs_of : ∀ n a b, (∀ i, i ≤ n → (euc i (a, b)).2 ≠ 0) → Runs n a b
  | 0, _, _, h => h 0 (Nat.le_refl _)
  | n + 1, a, b, h => ⟨h 0 (Nat.zero_le _), runs_of n b (a % b) fun i hi => by
    have := h (i + 1) (by omega)
    rw [euc_front] at this
    exact this⟩
theorem euc_gcd : ∀ i a b, (∀ j, j < i → (euc j (a, b)).2 ≠ 0) → Nat.gcd (euc i (a, b)).1 (euc i (a, b)).2 = Nat.gcd a b
  | 0, _, _, _ => rfl
  | i + 1, a, b, h => by
    have ih := euc_gcd i a b fun j hj => h j (by omega)
    show Nat.gcd (euc i (a, b)).2 ((euc i (a, b)).1 % (euc i (a, b)).2) = _
    rw [← ih, Nat.gcd_comm (euc i (a, b)).2, ← Nat.gcd_rec, Nat.gcd_comm]
/-! ### fractions -/
/-- the common divisor with the sign of the bottom -/
def com (p q : Int) : Int := if q < 0 then -((Nat.gcd p.natAbs q.natAbs : Nat) : Int) else ((Nat.gcd p.natAbs q.natAbs : Nat) : Int)
def low (x : Int × Int) : Int × Int := (x.1.fdiv (com x.1 x.2), x.2.fdiv (com x.1 x.2))
theorem com_ne {p q : Int} (h : q ≠ 0) : com p q ≠ 0 := by
  unfold com
  have : 0 < Nat.gcd p.natAbs q.natAbs := Nat.gcd_pos_of_pos_right _ (by omega)
  split <;> omega
theorem com_dvd1 (p q : Int) : com p q ∣ p := by
  have h : ((Nat.gcd p.natAbs q.natAbs : Nat) : Int) ∣ p := Int.ofNat_dvd_left.mpr (Nat.gcd_dvd_left _ _)
  unfold com
  split
  · exact Int.neg_dvd.mpr h
  · exact h
theorem com_dvd2 (p q : Int) : com p q ∣ q := by
  have h : ((Nat.gcd p.natAbs q.natAbs : Nat) : Int) ∣ q := Int.ofNat_dvd_left.mpr (Nat.gcd_dvd_right _ _)
  unfold com
  split
  · exact Int.neg_dvd.mpr h
  · exact h
theorem com_abs (p q : Int) (h : q ≠ 0) : (com p q).natAbs ≤ q.natAbs := by
  have h1 : Nat.gcd p.natAbs q.natAbs ≤ q.natAbs := Nat.gcd_le_right _ (by omega)
  unfold com
  split <;> omega
/-- low's parts, times the common divisor, are the parts -/
theorem low_mul (x : Int × Int) (h : x.2 ≠ 0) : x.1 = com x.1 x.2 * (low x).1 ∧ x.2 = com x.1 x.2 * (low x).2 := by
  have hn := com_ne (p := x.1) h
  constructor
  · exact (Int.mul_fdiv_cancel' (com_dvd1 x.1 x.2)).symm
  · exact (Int.mul_fdiv_cancel' (com_dvd2 x.1 x.2)).symm
theorem low_pos (x : Int × Int) (h : x.2 ≠ 0) : 0 < (low x).2 := by
  obtain ⟨_, e⟩ := low_mul x h
  have hn := com_ne (p := x.1) h
  have hs : (x.2 < 0 → com x.1 x.2 < 0) ∧ (0 < x.2 → 0 < com x.1 x.2) := by
    unfold com
    have : 0 < Nat.gcd x.1.natAbs x.2.natAbs := Nat.gcd_pos_of_pos_right _ (by omega)
    constructor
    · intro q; rw [if_pos q]; omega
    · intro q; rw [if_neg (by omega)]; omega
  by_cases q : x.2 < 0
  · have c := hs.1 q
    refine Int.lt_of_not_ge fun l => ?_
    have : 0 ≤ com x.1 x.2 * (low x).2 := Int.mul_nonneg_of_nonpos_of_nonpos (by omega) l
    omega
  · have c := hs.2 (by omega)
    refine Int.lt_of_not_ge fun l => ?_
    have : com x.1 x.2 * (low x).2 ≤ 0 := Int.mul_nonpos_of_nonneg_of_nonpos (by omega) l
    omega
/-- scaling does not change the lowest terms -/
theorem low_scale {k p q : Int} (hk : k ≠ 0) (hq : q ≠ 0) : low (k * p, k * q) = low (p, q) := by
  have hc : com (k * p) (k * q) = k * com p q := by
    unfold com
    rw [Int.natAbs_mul, Int.natAbs_mul, Nat.gcd_mul_left]
    by_cases h1 : k < 0 <;> by_cases h2 : q < 0
    · have h3 : ¬ k * q < 0 := by have := Int.mul_pos_of_neg_of_neg h1 h2; omega
      rw [if_neg h3, if_pos h2, Int.natCast_mul]
      have : ((k.natAbs : Nat) : Int) = -k := by omega
      rw [this, Int.neg_mul, Int.mul_neg]
    · have h3 : k * q < 0 := Int.mul_neg_of_neg_of_pos h1 (by omega)
      rw [if_pos h3, if_neg h2, Int.natCast_mul]
      have : ((k.natAbs : Nat) : Int) = -k := by omega
      rw [this, Int.neg_mul, Int.neg_neg]
    · have h3 : k * q < 0 := Int.mul_neg_of_pos_of_neg (by omega) h2
      rw [if_pos h3, if_pos h2, Int.natCast_mul]
      have : ((k.natAbs : Nat) : Int) = k := by omega
      rw [this, Int.mul_neg]
    · have h3 : ¬ k * q < 0 := by have := Int.mul_pos (show 0 < k by omega) (show 0 < q by omega); omega
      rw [if_neg h3, if_neg h2, Int.natCast_mul]
      have : ((k.natAbs : Nat) : Int) = k := by omega
      rw [this]
  have hn := com_ne (p := p) hq
  obtain ⟨p', e1⟩ := com_dvd1 p q
  obtain ⟨q', e2⟩ := com_dvd2 p q
  unfold low
  show ((k * p).fdiv (com (k * p) (k * q)), (k * q).fdiv (com (k * p) (k * q))) = (p.fdiv (com p q), q.fdiv (com p q))
  rw [hc]
  have a1 : p.fdiv (com p q) = p' := by
    conv => lhs; arg 1; rw [e1]
    exact Int.mul_fdiv_cancel_left _ hn
  have a2 : q.fdiv (com p q) = q' := by
    conv => lhs; arg 1; rw [e2]
    exact Int.mul_fdiv_cancel_left _ hn
  have hkn : k * com p q ≠ 0 := Int.mul_ne_zero hk hn
  have a3 : (k * p).fdiv (k * com p q) = p' := by
    conv => lhs; arg 1; rw [e1, ← Int.mul_assoc]
    exact Int.mul_fdiv_cancel_left _ hkn
  have a4 : (k * q).fdiv (k * com p q) = q' := by
    conv => lhs; arg 1; rw [e2, ← Int.mul_assoc]
    exact Int.mul_fdiv_cancel_left _ hkn
  rw [a1, a2, a3, a4]
/-- low of two pairs that are proportional -/
theorem low_cross {k p q p' q' : Int} (hk : k ≠ 0) (hq : q ≠ 0) (e1 : p' = k * p) (e2 : q' = k * q) : low (p', q') = low (p, q) := by
  subst e1 e2
  exact low_scale hk hq
/-! ### the deeds -/
def opv (d : Int) (x y : Int × Int) : Int × Int :=
  if d = 0 then (x.1 * y.2 + y.1 * x.2, x.2 * y.2) else if d = 1 then (x.1 * y.2 - y.1 * x.2, x.2 * y.2) else if d = 2 then (x.1 * y.1, x.2 * y.2) else (x.1 * y.2, x.2 * y.1)
def step (d : Int) (x y : Int × Int) : Int × Int := opv (if d = 3 ∧ y.1 = 0 then 2 else d) x y
theorem opv_ne {d : Int} {x y : Int × Int} (hx : x.2 ≠ 0) (hy : y.2 ≠ 0) (hd : d = 0 ∨ d = 1 ∨ d = 2 ∨ (d = 3 ∧ y.1 ≠ 0)) : (opv d x y).2 ≠ 0 := by
  unfold opv
  have h1 := Int.mul_ne_zero hx hy
  rcases hd with rfl | rfl | rfl | ⟨rfl, h⟩
  · simpa using h1
  · simpa using h1
  · simpa using h1
  · simpa using ⟨hx, h⟩
/-- a deed of lowest terms is the lowest terms of the deed -/
theorem low_opv {d : Int} {x y : Int × Int} (hx : x.2 ≠ 0) (hy : y.2 ≠ 0) (hd : d = 0 ∨ d = 1 ∨ d = 2 ∨ (d = 3 ∧ y.1 ≠ 0)) : low (opv d (low x) (low y)) = low (opv d x y) := by
  obtain ⟨a1, a2⟩ := low_mul x hx
  obtain ⟨b1, b2⟩ := low_mul y hy
  have cx := com_ne (p := x.1) hx
  have cy := com_ne (p := y.1) hy
  have lx := low_pos x hx
  have ly := low_pos y hy
  have hk := Int.mul_ne_zero cx cy
  have hn : (opv d (low x) (low y)).2 ≠ 0 := opv_ne (by omega) (by omega) (by
    rcases hd with h | h | h | ⟨h, h'⟩
    · exact .inl h
    · exact .inr (.inl h)
    · exact .inr (.inr (.inl h))
    · refine .inr (.inr (.inr ⟨h, fun z => h' ?_⟩))
      rw [b1, z]; simp)
  generalize com x.1 x.2 = k at *
  generalize com y.1 y.2 = l at *
  generalize low x = u at *
  generalize low y = w at *
  obtain ⟨x1, x2⟩ := x
  obtain ⟨y1, y2⟩ := y
  obtain ⟨u1, u2⟩ := u
  obtain ⟨w1, w2⟩ := w
  simp only at *
  subst a1 a2 b1 b2
  symm
  rcases hd with rfl | rfl | rfl | ⟨rfl, h⟩
  · refine low_cross hk hn ?_ ?_ <;> simp [opv] <;> grind
  · refine low_cross hk hn ?_ ?_ <;> simp [opv] <;> grind
  · refine low_cross hk hn ?_ ?_ <;> simp [opv] <;> grind
  · refine low_cross hk hn ?_ ?_ <;> simp [opv] <;> grind
/-- the difference of the cross products -/
def cr (x y : Int × Int) : Int := x.1 * y.2 - y.1 * x.2
theorem low_zero {q : Int} (h : q ≠ 0) : low (0, q) = (0, 1) := by
  have e : low (q * 0, q * 1) = low (0, 1) := low_scale h (by decide)
  rw [Int.mul_zero, Int.mul_one] at e
  rw [e]
  decide
theorem neg_scale {m z : Int} (hm : 0 < m) : m * z < 0 ↔ z < 0 := by
  constructor
  · intro h
    refine Int.lt_of_not_ge fun l => ?_
    have := Int.mul_nonneg (Int.le_of_lt hm) l
    omega
  · intro h
    exact Int.mul_neg_of_pos_of_neg hm h
theorem sq_pos {k : Int} (h : k ≠ 0) : 0 < k * k := by
  rcases Int.lt_or_gt_of_ne h with q | q
  · exact Int.mul_pos_of_neg_of_neg q q
  · exact Int.mul_pos q q
theorem cr_low {x y : Int × Int} (hx : x.2 ≠ 0) (hy : y.2 ≠ 0) : ∃ m, 0 < m ∧ cr x y * (x.2 * y.2) = m * cr (low x) (low y) := by
  obtain ⟨a1, a2⟩ := low_mul x hx
  obtain ⟨b1, b2⟩ := low_mul y hy
  have cx := sq_pos (com_ne (p := x.1) hx)
  have cy := sq_pos (com_ne (p := y.1) hy)
  have lx := low_pos x hx
  have ly := low_pos y hy
  refine ⟨(com x.1 x.2 * com x.1 x.2) * (com y.1 y.2 * com y.1 y.2) * ((low x).2 * (low y).2), Int.mul_pos (Int.mul_pos cx cy) (Int.mul_pos lx ly), ?_⟩
  unfold cr
  generalize com x.1 x.2 = k at *
  generalize com y.1 y.2 = l at *
  generalize low x = u at *
  generalize low y = w at *
  rw [a1, a2, b1, b2]
  grind
theorem cr_swap (x y : Int × Int) : cr y x = -cr x y := by unfold cr; grind
theorem cr_sign {a b f s : Int × Int} {m : Int} (ha : a.2 ≠ 0) (hb : b.2 ≠ 0) (hf : f.2 ≠ 0) (hs : s.2 ≠ 0) (hm : 0 < m) (e : cr f s * (f.2 * s.2) = m * (cr a b * (a.2 * b.2))) :
    (cr (low f) (low s) < 0 ↔ cr (low a) (low b) < 0) ∧ (cr (low s) (low f) < 0 ↔ cr (low b) (low a) < 0) := by
  obtain ⟨m1, p1, e1⟩ := cr_low hf hs
  obtain ⟨m2, p2, e2⟩ := cr_low ha hb
  rw [e1, e2, ← Int.mul_assoc] at e
  have pm := Int.mul_pos hm p2
  have h : ∀ u v : Int, m1 * u = m * m2 * v → (u < 0 ↔ v < 0) := fun u v q => by rw [← neg_scale p1, q, neg_scale pm]
  refine ⟨h _ _ e, ?_⟩
  rw [cr_swap (low f), cr_swap (low a)]
  refine h _ _ ?_
  rw [Int.mul_neg, Int.mul_neg, e]
theorem carried_add {a b c : Int × Int} (ha : a.2 ≠ 0) (hb : b.2 ≠ 0) (hc : c.2 ≠ 0) :
    (cr (low (opv 0 a c)) (low (opv 0 c b)) < 0 ↔ cr (low a) (low b) < 0) ∧ (cr (low (opv 0 c b)) (low (opv 0 a c)) < 0 ↔ cr (low b) (low a) < 0) := by
  refine cr_sign (m := (c.2 * c.2) * (c.2 * c.2)) ha hb (opv_ne ha hc (.inl rfl)) (opv_ne hc hb (.inl rfl)) (Int.mul_pos (sq_pos hc) (sq_pos hc)) ?_
  simp [cr, opv]
  grind
theorem carried_mul {a b n : Int × Int} (ha : a.2 ≠ 0) (hb : b.2 ≠ 0) (hn : n.1 < 0) (hn2 : 0 < n.2) :
    (cr (low (opv 2 n b)) (low (opv 2 a n)) < 0 ↔ cr (low a) (low b) < 0) ∧ (cr (low (opv 2 a n)) (low (opv 2 n b)) < 0 ↔ cr (low b) (low a) < 0) := by
  have hn0 : n.2 ≠ 0 := by omega
  refine cr_sign (m := (-n.1 * n.2) * (n.2 * n.2)) ha hb (opv_ne hn0 hb (.inr (.inr (.inl rfl)))) (opv_ne ha hn0 (.inr (.inr (.inl rfl)))) (Int.mul_pos (Int.mul_pos (by omega) hn2) (sq_pos hn0)) ?_
  simp [cr, opv]
  grind
/-! ### sizes -/
def Sz (n : Nat) (x : Int) : Prop := x.natAbs < 2 ^ n
theorem sz_mul {a b : Int} {n m : Nat} (ha : Sz n a) (hb : Sz m b) : Sz (n + m) (a * b) := by
  unfold Sz at *
  rw [Int.natAbs_mul, Nat.pow_add]
  exact Nat.mul_lt_mul'' ha hb
theorem sz_add {a b : Int} {n : Nat} (ha : Sz n a) (hb : Sz n b) : Sz (n + 1) (a + b) := by
  unfold Sz at *
  rw [Nat.pow_succ]
  omega
theorem sz_sub {a b : Int} {n : Nat} (ha : Sz n a) (hb : Sz n b) : Sz (n + 1) (a - b) := by
  unfold Sz at *
  rw [Nat.pow_succ]
  omega
theorem sz_mono {a : Int} {n m : Nat} (ha : Sz n a) (h : n ≤ m) : Sz m a := Nat.lt_of_lt_of_le ha (Nat.pow_le_pow_right (by decide) h)
/-- a fraction of m leaves -/
def Fr (m : Nat) (x : Int × Int) : Prop := 1 ≤ m ∧ Sz (134 * m - 1) x.1 ∧ Sz (134 * m - 1) x.2 ∧ x.2 ≠ 0
theorem fr_mul {m n : Nat} {a b : Int} (hm : 1 ≤ m) (hn : 1 ≤ n) (h1 : Sz (134 * m - 1) a) (h2 : Sz (134 * n - 1) b) : Sz (134 * (m + n) - 1) (a * b) := sz_mono (sz_mul h1 h2) (by omega)
theorem fr_opv {m n : Nat} {d : Int} {x y : Int × Int} (hx : Fr m x) (hy : Fr n y) (hd : d = 0 ∨ d = 1 ∨ d = 2 ∨ (d = 3 ∧ y.1 ≠ 0)) : Fr (m + n) (opv d x y) := by
  obtain ⟨hm, x1, x2, x3⟩ := hx
  obtain ⟨hn, y1, y2, y3⟩ := hy
  refine ⟨by omega, ?_, ?_, opv_ne x3 y3 hd⟩
  · have a := sz_mul x1 y2
    have b : Sz (134 * m - 1 + (134 * n - 1)) (y.1 * x.2) := sz_mono (sz_mul y1 x2) (by omega)
    have c := sz_mono (sz_add a b) (show 134 * m - 1 + (134 * n - 1) + 1 ≤ 134 * (m + n) - 1 by omega)
    have d' := sz_mono (sz_sub a b) (show 134 * m - 1 + (134 * n - 1) + 1 ≤ 134 * (m + n) - 1 by omega)
    rcases hd with rfl | rfl | rfl | ⟨rfl, h⟩
    · simpa [opv] using c
    · simpa [opv] using d'
    · simpa [opv] using fr_mul hm hn x1 y1
    · simpa [opv] using fr_mul hm hn x1 y2
  · rcases hd with rfl | rfl | rfl | ⟨rfl, h⟩
    · simpa [opv] using fr_mul hm hn x2 y2
    · simpa [opv] using fr_mul hm hn x2 y2
    · simpa [opv] using fr_mul hm hn x2 y2
    · simpa [opv] using fr_mul hm hn x2 y1
theorem fr_low {m : Nat} {x : Int × Int} (h : Fr m x) : Fr m (low x) := by
  obtain ⟨h0, h1, h2, h3⟩ := h
  obtain ⟨a1, a2⟩ := low_mul x h3
  have hc := com_ne (p := x.1) h3
  have hp := low_pos x h3
  have hz : ∀ {u v : Int} {n : Nat}, u = com x.1 x.2 * v → Sz n u → Sz n v := fun {u v n} e s => by
    unfold Sz at *
    refine Nat.lt_of_le_of_lt ?_ s
    rw [e, Int.natAbs_mul]
    exact Nat.le_mul_of_pos_left _ (by omega)
  exact ⟨h0, hz a1 h1, hz a2 h2, by omega⟩
end M40
set_option Elab.async false
set_option linter.all false
set_option maxRecDepth 100000
set_option maxHeartbeats 4000000
/-! K40: the text by places. -/
namespace K40
open PySem L2 Ar M40
def topS (i : Nat) : Stmt := PySem.Challenge.pw_roomsfit_k40_ratio_sums.main.body.getD i (.Pass ⟨0, 0, 0, 0⟩)
abbrev s_ratio : Stmt := topS 2
abbrev N_ratio : List Str := ["p", "q", "common"]
theorem sc_ratio : FnScope N_ratio ["p", "q"] (defScope s_ratio) := ⟨rfl, rfl, rfl, by decide +kernel, rfl, by decide +kernel, by decide +kernel⟩
abbrev s_plus : Stmt := topS 3
abbrev N_plus : List Str := ["a", "b"]
theorem sc_plus : FnScope N_plus ["a", "b"] (defScope s_plus) := ⟨rfl, rfl, rfl, by decide +kernel, rfl, by decide +kernel, by decide +kernel⟩
abbrev s_minus : Stmt := topS 4
abbrev N_minus : List Str := ["a", "b"]
theorem sc_minus : FnScope N_minus ["a", "b"] (defScope s_minus) := ⟨rfl, rfl, rfl, by decide +kernel, rfl, by decide +kernel, by decide +kernel⟩
abbrev s_times : Stmt := topS 5
abbrev N_times : List Str := ["a", "b"]
theorem sc_times : FnScope N_times ["a", "b"] (defScope s_times) := ⟨rfl, rfl, rfl, by decide +kernel, rfl, by decide +kernel, by decide +kernel⟩
abbrev s_over : Stmt := topS 6
abbrev N_over : List Str := ["a", "b"]
theorem sc_over : FnScope N_over ["a", "b"] (defScope s_over) := ⟨rfl, rfl, rfl, by decide +kernel, rfl, by decide +kernel, by decide +kernel⟩
abbrev s_below : Stmt := topS 7
abbrev N_below : List Str := ["a", "b"]
theorem sc_below : FnScope N_below ["a", "b"] (defScope s_below) := ⟨rfl, rfl, rfl, by decide +kernel, rfl, by decide +kernel, by decide +kernel⟩
abbrev s_law_int : Stmt := topS 9
abbrev N_law_int : List Str := ["value"]
theorem sc_law_int : FnScope N_law_int ["value"] (defScope s_law_int) := ⟨rfl, rfl, rfl, by decide +kernel, rfl, by decide +kernel, by decide +kernel⟩
abbrev s_law_state : Stmt := topS 10
abbrev N_law_state : List Str := ["script", "k", "cell", "other"]
theorem sc_law_state : FnScope N_law_state ["script", "k"] (defScope s_law_state) := ⟨rfl, rfl, rfl, by decide +kernel, rfl, by decide +kernel, by decide +kernel⟩
abbrev s_law_next : Stmt := topS 11
abbrev N_law_next : List Str := ["state", "size", "value", "mixed"]
theorem sc_law_next : FnScope N_law_next ["state", "size"] (defScope s_law_next) := ⟨rfl, rfl, rfl, by decide +kernel, rfl, by decide +kernel, by decide +kernel⟩
abbrev s_law_big : Stmt := topS 12
abbrev N_law_big : List Str := ["state", "most", "value", "k"]
theorem sc_law_big : FnScope N_law_big ["state", "most"] (defScope s_law_big) := ⟨rfl, rfl, rfl, by decide +kernel, rfl, by decide +kernel, by decide +kernel⟩
abbrev s_law_signed : Stmt := topS 13
abbrev N_law_signed : List Str := ["state", "value"]
theorem sc_law_signed : FnScope N_law_signed ["state", "value"] (defScope s_law_signed) := ⟨rfl, rfl, rfl, by decide +kernel, rfl, by decide +kernel, by decide +kernel⟩
abbrev s_law_fraction : Stmt := topS 14
abbrev N_law_fraction : List Str := ["state", "most", "kind", "factor", "top", "bottom"]
theorem sc_law_fraction : FnScope N_law_fraction ["state", "most"] (defScope s_law_fraction) := ⟨rfl, rfl, rfl, by decide +kernel, rfl, by decide +kernel, by decide +kernel⟩
abbrev s_law_fractions : Stmt := topS 15
abbrev N_law_fractions : List Str := ["state", "many", "most", "found", "k", "kind", "old"]
theorem sc_law_fractions : FnScope N_law_fractions ["state", "many", "most"] (defScope s_law_fractions) := ⟨rfl, rfl, rfl, by decide +kernel, rfl, by decide +kernel, by decide +kernel⟩
abbrev s_law_deeds : Stmt := topS 16
abbrev N_law_deeds : List Str := ["state", "many", "deed", "found", "k", "place", "turned", "drawn"]
theorem sc_law_deeds : FnScope N_law_deeds ["state", "many", "deed"] (defScope s_law_deeds) := ⟨rfl, rfl, rfl, by decide +kernel, rfl, by decide +kernel, by decide +kernel⟩
abbrev s_law_common : Stmt := topS 17
abbrev N_law_common : List Str := ["a", "b", "turn", "rest"]
theorem sc_law_common : FnScope N_law_common ["a", "b"] (defScope s_law_common) := ⟨rfl, rfl, rfl, by decide +kernel, rfl, by decide +kernel, by decide +kernel⟩
abbrev s_law_lowest : Stmt := topS 18
abbrev N_law_lowest : List Str := ["value", "common"]
theorem sc_law_lowest : FnScope N_law_lowest ["value"] (defScope s_law_lowest) := ⟨rfl, rfl, rfl, by decide +kernel, rfl, by decide +kernel, by decide +kernel⟩
abbrev s_law_is : Stmt := topS 19
abbrev N_law_is : List Str := ["told", "due"]
theorem sc_law_is : FnScope N_law_is ["told", "due"] (defScope s_law_is) := ⟨rfl, rfl, rfl, by decide +kernel, rfl, by decide +kernel, by decide +kernel⟩
abbrev s_law_says : Stmt := topS 20
abbrev N_law_says : List Str := ["told", "due"]
theorem sc_law_says : FnScope N_law_says ["told", "due"] (defScope s_law_says) := ⟨rfl, rfl, rfl, by decide +kernel, rfl, by decide +kernel, by decide +kernel⟩
abbrev s_law_value : Stmt := topS 21
abbrev N_law_value : List Str := ["deed", "one", "two"]
theorem sc_law_value : FnScope N_law_value ["deed", "one", "two"] (defScope s_law_value) := ⟨rfl, rfl, rfl, by decide +kernel, rfl, by decide +kernel, by decide +kernel⟩
abbrev s_law_told : Stmt := topS 22
abbrev N_law_told : List Str := ["deed", "a", "b"]
theorem sc_law_told : FnScope N_law_told ["deed", "a", "b"] (defScope s_law_told) := ⟨rfl, rfl, rfl, by decide +kernel, rfl, by decide +kernel, by decide +kernel⟩
abbrev s_law_step : Stmt := topS 23
abbrev N_law_step : List Str := ["deed", "one", "two", "done", "value", "due", "told"]
theorem sc_law_step : FnScope N_law_step ["deed", "one", "two"] (defScope s_law_step) := ⟨rfl, rfl, rfl, by decide +kernel, rfl, by decide +kernel, by decide +kernel⟩
abbrev s_law_row : Stmt := topS 24
abbrev N_law_row : List Str := ["things", "deeds", "found", "deed", "place", "turned", "step"]
theorem sc_law_row : FnScope N_law_row ["things", "deeds"] (defScope s_law_row) := ⟨rfl, rfl, rfl, by decide +kernel, rfl, by decide +kernel, by decide +kernel⟩
abbrev s_law_less : Stmt := topS 25
abbrev N_law_less : List Str := ["one", "two"]
theorem sc_law_less : FnScope N_law_less ["one", "two"] (defScope s_law_less) := ⟨rfl, rfl, rfl, by decide +kernel, rfl, by decide +kernel, by decide +kernel⟩
abbrev s_law_rules : Stmt := topS 26
abbrev N_law_rules : List Str := ["a", "b", "c", "product", "other", "both"]
theorem sc_law_rules : FnScope N_law_rules ["a", "b", "c"] (defScope s_law_rules) := ⟨rfl, rfl, rfl, by decide +kernel, rfl, by decide +kernel, by decide +kernel⟩
abbrev s_law_ordered : Stmt := topS 27
abbrev N_law_ordered : List Str := ["things", "one", "two"]
theorem sc_law_ordered : FnScope N_law_ordered ["things"] (defScope s_law_ordered) := ⟨rfl, rfl, rfl, by decide +kernel, rfl, by decide +kernel, by decide +kernel⟩
abbrev s_law_carried : Stmt := topS 28
abbrev N_law_carried : List Str := ["a", "b", "c", "negative", "first", "second", "third", "fourth", "pair", "due"]
theorem sc_law_carried : FnScope N_law_carried ["a", "b", "c", "negative"] (defScope s_law_carried) := ⟨rfl, rfl, rfl, by decide +kernel, rfl, by decide +kernel, by decide +kernel⟩
abbrev s_law : Stmt := topS 29
abbrev N_law : List Str := ["script", "state", "most", "many", "value", "negative", "k", "births", "values", "rows", "things", "due", "told", "ends", "deeds", "end"]
theorem sc_law : FnScope N_law ["script"] (defScope s_law) := ⟨rfl, rfl, rfl, by decide +kernel, rfl, by decide +kernel, by decide +kernel⟩
-- ratio level 1 calls []
-- plus level 2 calls ['ratio']
-- minus level 2 calls ['ratio']
-- times level 2 calls ['ratio']
-- over level 2 calls ['ratio']
-- below level 1 calls []
-- _law_int level 1 calls []
-- _law_state level 1 calls []
-- _law_next level 1 calls []
-- _law_big level 2 calls ['_law_next']
-- _law_signed level 2 calls ['_law_next']
-- _law_fraction level 3 calls ['_law_next', '_law_signed', '_law_big']
-- _law_fractions level 4 calls ['_law_fraction', '_law_next']
-- _law_deeds level 2 calls ['_law_next']
-- _law_common level 1 calls []
-- _law_lowest level 2 calls ['_law_common']
-- _law_is level 2 calls ['_law_int']
-- _law_says level 1 calls []
-- _law_value level 1 calls []
-- _law_told level 3 calls ['over', 'plus', 'minus', 'times']
-- _law_step level 4 calls ['_law_value', '_law_lowest', '_law_told', '_law_is']
-- _law_row level 5 calls ['_law_step']
-- _law_less level 1 calls []
-- _law_rules level 5 calls ['_law_step', '_law_is', 'minus', 'over']
-- _law_ordered level 2 calls ['_law_says', 'below', '_law_less']
-- _law_carried level 5 calls ['_law_step', '_law_less', '_law_says', 'below']
-- law level 6 calls ['_law_state', '_law_fractions', '_law_is', '_law_next', '_law_lowest', '_law_deeds', 'ratio', '_law_row', '_law_carried', '_law_rules', '_law_ordered']
structure Txt (K : PySem.W.Frag) (mg : Str → Option Value) where
  ratio : DF K mg "ratio" s_ratio ["p", "q"]
  plus : DF K mg "plus" s_plus ["a", "b"]
  minus : DF K mg "minus" s_minus ["a", "b"]
  times : DF K mg "times" s_times ["a", "b"]
  over : DF K mg "over" s_over ["a", "b"]
  below : DF K mg "below" s_below ["a", "b"]
  law_int : DF K mg "_law_int" s_law_int ["value"]
  law_state : DF K mg "_law_state" s_law_state ["script", "k"]
  law_next : DF K mg "_law_next" s_law_next ["state", "size"]
  law_big : DF K mg "_law_big" s_law_big ["state", "most"]
  law_signed : DF K mg "_law_signed" s_law_signed ["state", "value"]
  law_fraction : DF K mg "_law_fraction" s_law_fraction ["state", "most"]
  law_fractions : DF K mg "_law_fractions" s_law_fractions ["state", "many", "most"]
  law_deeds : DF K mg "_law_deeds" s_law_deeds ["state", "many", "deed"]
  law_common : DF K mg "_law_common" s_law_common ["a", "b"]
  law_lowest : DF K mg "_law_lowest" s_law_lowest ["value"]
  law_is : DF K mg "_law_is" s_law_is ["told", "due"]
  law_says : DF K mg "_law_says" s_law_says ["told", "due"]
  law_value : DF K mg "_law_value" s_law_value ["deed", "one", "two"]
  law_told : DF K mg "_law_told" s_law_told ["deed", "a", "b"]
  law_step : DF K mg "_law_step" s_law_step ["deed", "one", "two"]
  law_row : DF K mg "_law_row" s_law_row ["things", "deeds"]
  law_less : DF K mg "_law_less" s_law_less ["one", "two"]
  law_rules : DF K mg "_law_rules" s_law_rules ["a", "b", "c"]
  law_ordered : DF K mg "_law_ordered" s_law_ordered ["things"]
  law_carried : DF K mg "_law_carried" s_law_carried ["a", "b", "c", "negative"]
  law : DF K mg "law" s_law ["script"]
  z_abs : mg "abs" = none
  z_bool : mg "bool" = none
  z_enumerate : mg "enumerate" = none
  z_int : mg "int" = none
  z_isinstance : mg "isinstance" = none
  z_len : mg "len" = none
  z_list : mg "list" = none
  z_max : mg "max" = none
  z_range : mg "range" = none
  z_tuple : mg "tuple" = none
  z_gcd : mg "gcd" = some (.builtin "math.gcd")
end K40
set_option Elab.async false
set_option linter.all false
set_option maxRecDepth 100000
set_option maxHeartbeats 4000000
local macro_rules | `(tactic| walk_at "rdlst") => `(tactic| first | assumption | exact (by assumption : L2.Same _ _) _ _ (by assumption) | exact L2.upd_same | solve_by_elim (maxDepth := 12))
local macro_rules | `(tactic| walk_at "rdseq") => `(tactic| first | assumption | exact L2.Same.seq (by assumption) (by assumption) | exact L2.SqL.of (by walk_at "rdlst"))
local macro_rules | `(tactic| walk_at "rdtup") => `(tactic| first | assumption | exact Ar.same_t (by assumption) (by assumption) | exact L2.SqT.of (by walk_at "rdlst"))
local macro_rules | `(tactic| walk_at "rd1") => `(tactic| first
  | ((with_reducible refine' Ar.rd_var ?hv ?_); (case hv => exact rfl))
  | with_reducible refine' Ar.rd_c ?_
  | with_reducible refine' Ar.rd_op ?_
  | with_reducible refine' Ar.rd_cons ?_
  | with_reducible refine' Ar.rd_nil ?_
  | with_reducible refine' Ar.rd_seq ?_
  | with_reducible refine' Ar.rd_set ?_
  | with_reducible refine' Ar.rd_I0 ?_
  | ((with_reducible refine' Ar.rd_I ?_ ?hc); (try (case hc => first | assumption | exact Or.inl ⟨by omega, by omega⟩ | exact Or.inr ⟨by omega, by omega⟩ | (show (0 : Int) < _; omega) | exact ⟨by omega, by omega⟩)))
  | with_reducible refine' Ar.rd_eqI ?_
  | with_reducible refine' Ar.rd_neI ?_
  | with_reducible refine' Ar.rd_bl ?_
  | with_reducible refine' L2.iteT ?_
  | with_reducible refine' L2.iteF ?_
  | with_reducible refine' Ar.iteNT ?_
  | with_reducible refine' Ar.ifRef ?_
  | with_reducible refine' Ar.ifNRef ?_
  | with_reducible refine' Ar.iteNF ?_
  | with_reducible refine' Ar.rd_ifs ?_
  | with_reducible refine' Ar.rd_test ?_
  | with_reducible refine' Ar.rd_B ?_
  | with_reducible refine' Ar.rd_and ?_
  | with_reducible refine' Ar.rd_or ?_
  | with_reducible refine' Ar.rd_not ?_
  | with_reducible refine' Ar.rd_call ?_
  | with_reducible refine' Ar.rd_cb ?_
  | with_reducible refine' Ar.rd_ret ?_
  | with_reducible refine' Ar.rd_tup ?_
  | with_reducible refine' Ar.rd_lst ?_
  | ((with_reducible refine' Ar.rd_len ?hl ?_); (case hl => exact rfl))
  | ((with_reducible refine' Ar.rd_ixL ?hs ?ha ?_); (case hs => walk_at "rdseq"); (try (case ha => first | exact rfl | assumption)))
  | ((with_reducible refine' Ar.rd_ixT ?hs ?ha ?_); (case hs => walk_at "rdtup"); (try (case ha => first | exact rfl | assumption)))
  | ((with_reducible refine' Ar.rd_lenL ?hs ?_); (case hs => walk_at "rdseq"))
  | ((with_reducible refine' Ar.rd_lenT ?hs ?_); (case hs => walk_at "rdtup"))
  | with_reducible refine' Ar.rd_int ?_
  | with_reducible refine' Ar.rd_intb ?_
  | with_reducible refine' Ar.rd_ex1 ?_
  | with_reducible refine' Ar.rd_ex2 ?_
  | with_reducible refine' Ar.rd_exI ?_
  | with_reducible refine' Ar.rd_un ?_
  | with_reducible refine' Ar.rd_U ?_
  | with_reducible refine' Ar.rd_drop ?_
  | with_reducible refine' Ar.rd_asg ?_
  | with_reducible refine' Ar.rd_sub ?_
  | with_reducible refine' Ar.rd_name ?_
  | ((with_reducible refine' Ar.rd_setL ?hs ?hj ?_); (case hs => walk_at "rdlst"); (case hj => exact rfl))
  | with_reducible refine' Ar.rd_next ?_
  | with_reducible refine' Ar.rd_retN ?_
  | with_reducible refine' Ar.rd_andV ?_
  | with_reducible refine' Ar.rd_orV ?_
  | with_reducible refine' Ar.rd_notV ?_
  | with_reducible refine' Ar.rd_if ?_
  | with_reducible refine' Ar.rd_sl ?_
  | with_reducible refine' Ar.rd_part ?_
  | with_reducible refine' Ar.rd_noPart ?_
  | ((with_reducible refine' Ar.rd_slL ?hs ?_); (case hs => walk_at "rdseq"))
  | with_reducible refine' Ar.rd_and2 ?_
  | ((with_reducible refine' Ar.rd_isi (c := true) ?ty ?hk ?_); (case ty => first | exact .base (.int _) | exact .base (.bl _) | exact .base .non | exact .base (.str _) | exact .base (.lst (by walk_at "rdlst")) | exact .base (.tup (by walk_at "rdlst"))); (case hk => decide +kernel))
  | ((with_reducible refine' Ar.rd_isi (c := false) ?ty ?hk ?_); (case ty => first | exact .base (.int _) | exact .base (.bl _) | exact .base .non | exact .base (.str _) | exact .base (.lst (by walk_at "rdlst")) | exact .base (.tup (by walk_at "rdlst"))); (case hk => decide +kernel))
  | with_reducible refine' Ar.rd_forR ?_
  | with_reducible refine' Ar.rd_forL ?_
  | with_reducible refine' Ar.rd_exR ?_
  | ((with_reducible refine' Ar.rd_gtup ?hs ?hl ?_); (case hs => walk_at "rdtup"); (case hl => exact rfl))
  | with_reducible refine' Ar.rd_gcons ?_
  | with_reducible refine' Ar.rd_gnil ?_
  | ((with_reducible refine' Ar.rd_cat ?h1 ?h2 ?hz ?_); (case h1 => walk_at "rdlst"); (case h2 => walk_at "rdlst"); (case hz => first | assumption | exact Evl.sz_of (by omega)))
  | with_reducible refine' Ar.rd_lcR ?_
  | with_reducible refine' Ar.rd_yes ?_
  | with_reducible refine' Ar.rd_forE ?_
  | ((with_reducible refine' Ar.rd_exLE ?hs ?_); (case hs => walk_at "rdseq"))
  | with_reducible refine' Ar.rd_bm ?_
  | ((with_reducible refine' Ar.rd_tyL ?hs ?_); (case hs => walk_at "rdlst"))
  | ((with_reducible refine' Ar.rd_app ?hs ?hz ?_); (case hs => walk_at "rdlst"); (case hz => first | assumption | exact Evl.sz_lt (by omega))))
local macro_rules | `(tactic| walk_at "rd") => `(tactic| repeat walk_at "rd1")
namespace K40
open PySem L2 Ar M40
section
variable {P : Program} {w : World} {K : PySem.W.Frag} {mg : Str → Option Value} {base : Heap}
abbrev two (z : Int × Int) : List V := [.int z.1, .int z.2]
def spRatio : Sp := fun vs H Q _ => ∃ p q : Int, vs = [.int p, .int q] ∧ q ≠ 0 ∧ Sz 2600 q ∧ ∀ t, H t = none → Q (.ref t) (upd H t (.tup (two (low (p, q)))))
theorem com_div {p q : Int} (hq : q ≠ 0) (hz : Sz 2600 q) : CDivWN p (com p q) ∧ CDivWN q (com p q) := by
  have h1 := com_ne (p := p) hq
  have h2 := com_abs p q hq
  have h3 : (com p q).natAbs.log2 < 9000 := Nat.lt_of_lt_of_le (PySem.Flt.log2_lt_of (by decide : 0 < 2600) (Nat.lt_of_le_of_lt h2 hz)) (by decide : 2600 ≤ 9000)
  exact ⟨⟨h1, h3⟩, ⟨h1, h3⟩⟩
theorem ok_ratio (T : Txt K mg) : FnOk P w K mg base CX0 1 T.ratio.f T.ratio.fd ["p", "q"] spRatio := by
  refine T.ratio.F.ok sc_ratio (fun vs H Q E h => ?_) (fun cdv A outer s H vs Q E hr h => ?_)
  · obtain ⟨p, q, rfl, _⟩ := h
    rfl
  · obtain ⟨p, q, rfl, hq, hz, k⟩ := h
    refine ⟨_, (pss_cons (ps_set (i := 2) sc_ratio.nd rfl (Or.inl rfl) (pe_callBfun cr_gcd (by rfl) T.z_gcd (pa_cons (pv 0) (pa_cons (pv 1) pa_nil))))
      (pss_cons (ps_if (pt_cmpR op_lt (pv 1) pe_int (nomark _))
      (pss_one (ps_set (i := 2) sc_ratio.nd rfl (Or.inl rfl) (pe_un un_neg (pv 2))))
      pss_nil)
      (pss_one (ps_ret (pe_tup (pa_cons (pe_op op_fdivWN (pv 0) (pv 2)) (pa_cons (pe_op op_fdivWN (pv 1) (pv 2)) pa_nil))))))), ?_⟩
    have hd := com_div (p := p) hq hz
    walk_at "rd"
    refine ⟨p, q, rfl, ?_⟩
    walk_at "rd"
    refine ifd (fun hl => ?_) (fun hl => ?_)
    · have e : com p q = -((Nat.gcd p.natAbs q.natAbs : Nat) : Int) := by unfold com; rw [if_pos hl]
      rw [e] at hd
      walk_at "rd"
      · intro t ht
        have := k t ht
        unfold low at this
        rw [e] at this
        exact this
      · exact hd.1
      · exact hd.2
    · have e : com p q = ((Nat.gcd p.natAbs q.natAbs : Nat) : Int) := by unfold com; rw [if_neg hl]
      rw [e] at hd
      walk_at "rd"
      · intro t ht
        have := k t ht
        unfold low at this
        rw [e] at this
        exact this
      · exact hd.1
      · exact hd.2
theorem cm {a b : Int} (ha : Sz 2600 a) (hb : Sz 2600 b) : CMulW a b := wide_mul ha hb (by decide) (by decide) (by decide)
def good (d : Int) (y : Int × Int) : Prop := d = 0 ∨ d = 1 ∨ d = 2 ∨ (d = 3 ∧ y.1 ≠ 0)
def spOp (K : PySem.W.Frag) (d : Int) : Sp := fun vs H Q _ => ∃ a b x y m n, vs = [.ref a, .ref b] ∧ SqT K H a (two x) ∧ SqT K H b (two y) ∧ Fr m x ∧ Fr n y ∧ m + n ≤ 19 ∧ good d y ∧
  ∀ t, H t = none → Q (.ref t) (upd H t (.tup (two (low (opv d x y)))))
theorem fr_sz {m : Nat} {x : Int × Int} (h : Fr m x) (hm : m ≤ 19) : Sz 2600 x.1 ∧ Sz 2600 x.2 := ⟨sz_mono h.2.1 (by omega), sz_mono h.2.2.1 (by omega)⟩
theorem fr_pos {m : Nat} {x : Int × Int} (h : Fr m x) : 1 ≤ m := h.1
section
variable (T : Txt K mg) (G_ratio : FnOk P w K mg base CX0 1 T.ratio.f T.ratio.fd ["p", "q"] spRatio)
include G_ratio
theorem ok_plus : FnOk P w K mg base CX0 2 T.plus.f T.plus.fd ["a", "b"] (spOp K 0) := by
  refine T.plus.F.ok sc_plus (fun vs H Q E h => ?_) (fun cdv A outer s H vs Q E hr h => ?_)
  · obtain ⟨_, _, _, _, _, _, rfl, _⟩ := h
    rfl
  · obtain ⟨a, b, x, y, m, n, rfl, ha, hb, fx, fy, hmn, hg, k⟩ := h
    refine ⟨_, (pss_one (ps_ret (pcall T.ratio G_ratio hr (pa_cons (pe_op op_add (pe_op op_mulW (pe_ix ix_tup (pv 0) pe_int (fun _ _ => rfl)) (pe_ix ix_tup (pv 1) pe_int (fun _ _ => rfl))) (pe_op op_mulW (pe_ix ix_tup (pv 1) pe_int (fun _ _ => rfl)) (pe_ix ix_tup (pv 0) pe_int (fun _ _ => rfl)))) (pa_cons (pe_op op_mulW (pe_ix ix_tup (pv 0) pe_int (fun _ _ => rfl)) (pe_ix ix_tup (pv 1) pe_int (fun _ _ => rfl))) pa_nil))))), ?_⟩
    have ho := fr_opv fx fy hg
    obtain ⟨sx1, sx2⟩ := fr_sz fx (by omega)
    obtain ⟨sy1, sy2⟩ := fr_sz fy (by omega)
    walk_at "rd"
    · exact ⟨_, _, rfl, ho.2.2.2, (fr_sz ho hmn).2, k⟩
    all_goals exact cm (by assumption) (by assumption)
theorem ok_minus : FnOk P w K mg base CX0 2 T.minus.f T.minus.fd ["a", "b"] (spOp K 1) := by
  refine T.minus.F.ok sc_minus (fun vs H Q E h => ?_) (fun cdv A outer s H vs Q E hr h => ?_)
  · obtain ⟨_, _, _, _, _, _, rfl, _⟩ := h
    rfl
  · obtain ⟨a, b, x, y, m, n, rfl, ha, hb, fx, fy, hmn, hg, k⟩ := h
    refine ⟨_, (pss_one (ps_ret (pcall T.ratio G_ratio hr (pa_cons (pe_op op_sub (pe_op op_mulW (pe_ix ix_tup (pv 0) pe_int (fun _ _ => rfl)) (pe_ix ix_tup (pv 1) pe_int (fun _ _ => rfl))) (pe_op op_mulW (pe_ix ix_tup (pv 1) pe_int (fun _ _ => rfl)) (pe_ix ix_tup (pv 0) pe_int (fun _ _ => rfl)))) (pa_cons (pe_op op_mulW (pe_ix ix_tup (pv 0) pe_int (fun _ _ => rfl)) (pe_ix ix_tup (pv 1) pe_int (fun _ _ => rfl))) pa_nil))))), ?_⟩
    have ho := fr_opv fx fy hg
    obtain ⟨sx1, sx2⟩ := fr_sz fx (by omega)
    obtain ⟨sy1, sy2⟩ := fr_sz fy (by omega)
    walk_at "rd"
    · exact ⟨_, _, rfl, ho.2.2.2, (fr_sz ho hmn).2, k⟩
    all_goals exact cm (by assumption) (by assumption)
theorem ok_times : FnOk P w K mg base CX0 2 T.times.f T.times.fd ["a", "b"] (spOp K 2) := by
  refine T.times.F.ok sc_times (fun vs H Q E h => ?_) (fun cdv A outer s H vs Q E hr h => ?_)
  · obtain ⟨_, _, _, _, _, _, rfl, _⟩ := h
    rfl
  · obtain ⟨a, b, x, y, m, n, rfl, ha, hb, fx, fy, hmn, hg, k⟩ := h
    refine ⟨_, (pss_one (ps_ret (pcall T.ratio G_ratio hr (pa_cons (pe_op op_mulW (pe_ix ix_tup (pv 0) pe_int (fun _ _ => rfl)) (pe_ix ix_tup (pv 1) pe_int (fun _ _ => rfl))) (pa_cons (pe_op op_mulW (pe_ix ix_tup (pv 0) pe_int (fun _ _ => rfl)) (pe_ix ix_tup (pv 1) pe_int (fun _ _ => rfl))) pa_nil))))), ?_⟩
    have ho := fr_opv fx fy hg
    obtain ⟨sx1, sx2⟩ := fr_sz fx (by omega)
    obtain ⟨sy1, sy2⟩ := fr_sz fy (by omega)
    walk_at "rd"
    · exact ⟨_, _, rfl, ho.2.2.2, (fr_sz ho hmn).2, k⟩
    all_goals exact cm (by assumption) (by assumption)
theorem ok_over : FnOk P w K mg base CX0 2 T.over.f T.over.fd ["a", "b"] (spOp K 3) := by
  refine T.over.F.ok sc_over (fun vs H Q E h => ?_) (fun cdv A outer s H vs Q E hr h => ?_)
  · obtain ⟨_, _, _, _, _, _, rfl, _⟩ := h
    rfl
  · obtain ⟨a, b, x, y, m, n, rfl, ha, hb, fx, fy, hmn, hg, k⟩ := h
    refine ⟨_, (pss_one (ps_ret (pcall T.ratio G_ratio hr (pa_cons (pe_op op_mulW (pe_ix ix_tup (pv 0) pe_int (fun _ _ => rfl)) (pe_ix ix_tup (pv 1) pe_int (fun _ _ => rfl))) (pa_cons (pe_op op_mulW (pe_ix ix_tup (pv 0) pe_int (fun _ _ => rfl)) (pe_ix ix_tup (pv 1) pe_int (fun _ _ => rfl))) pa_nil))))), ?_⟩
    have ho := fr_opv fx fy hg
    obtain ⟨sx1, sx2⟩ := fr_sz fx (by omega)
    obtain ⟨sy1, sy2⟩ := fr_sz fy (by omega)
    walk_at "rd"
    · exact ⟨_, _, rfl, ho.2.2.2, (fr_sz ho hmn).2, k⟩
    all_goals exact cm (by assumption) (by assumption)
end
def spBelow (K : PySem.W.Frag) : Sp := fun vs H Q _ => ∃ a b x y m n, vs = [.ref a, .ref b] ∧ SqT K H a (two x) ∧ SqT K H b (two y) ∧ Fr m x ∧ Fr n y ∧ m ≤ 19 ∧ n ≤ 19 ∧ Q (.bl (decide (cr x y < 0))) H
theorem cr_dec (x y : Int × Int) : decide (x.1 * y.2 < y.1 * x.2) = decide (cr x y < 0) := by
  unfold cr
  rw [decide_eq_decide]
  omega
theorem ok_below (T : Txt K mg) : FnOk P w K mg base CX0 1 T.below.f T.below.fd ["a", "b"] (spBelow K) := by
  refine T.below.F.ok sc_below (fun vs H Q E h => ?_) (fun cdv A outer s H vs Q E hr h => ?_)
  · obtain ⟨_, _, _, _, _, _, rfl, _⟩ := h
    rfl
  · obtain ⟨a, b, x, y, m, n, rfl, ha, hb, fx, fy, hm, hn, k⟩ := h
    refine ⟨_, (pss_one (ps_ret (pe_cmpR op_lt (pe_op op_mulW (pe_ix ix_tup (pv 0) pe_int (fun _ _ => rfl)) (pe_ix ix_tup (pv 1) pe_int (fun _ _ => rfl))) (pe_op op_mulW (pe_ix ix_tup (pv 1) pe_int (fun _ _ => rfl)) (pe_ix ix_tup (pv 0) pe_int (fun _ _ => rfl))) (nomark _)))), ?_⟩
    obtain ⟨sx1, sx2⟩ := fr_sz fx (by omega)
    obtain ⟨sy1, sy2⟩ := fr_sz fy (by omega)
    rw [← cr_dec] at k
    walk_at "rd"
    · exact k
    all_goals exact cm (by assumption) (by assumption)
end
end K40
set_option Elab.async false
set_option linter.all false
set_option maxRecDepth 100000
set_option maxHeartbeats 4000000
namespace K40
open PySem L2 Ar M40
section
variable {P : Program} {w : World} {K : PySem.W.Frag} {mg : Str → Option Value} {base : Heap}
abbrev st3 (a b c : Int) : HO := .lst [.int a, .int b, .int c]
def St3 (H : Hp) (s : Addr) : Prop := ∃ a b c, H s = some (st3 a b c)
theorem St3.upd {H : Hp} {s : Addr} {a b c : Int} : St3 (upd H s (st3 a b c)) s := ⟨a, b, c, upd_same⟩
def spInt : Sp := fun vs H Q _ => ∃ i, vs = [.int i] ∧ Q (.bl true) H
theorem ok_law_int (T : Txt K mg) : FnOk P w K mg base CX0 1 T.law_int.f T.law_int.fd ["value"] spInt := by
  refine T.law_int.F.ok sc_law_int (fun vs H Q E h => ?_) (fun cdv A outer s H vs Q E hr h => ?_)
  · obtain ⟨_, rfl, _⟩ := h
    rfl
  · obtain ⟨i, rfl, k⟩ := h
    refine ⟨_, (pss_one (ps_ret (pe_and (pe_callB call_isi (by rfl) T.z_isinstance (by decide +kernel) (pa_cons (pv 0) (pa_cons (pe_bltn (v := .ty "int") (by rfl) T.z_int (by decide +kernel) rfl) pa_nil))) (pe_one (pe_not (pe_callB call_isi (by rfl) T.z_isinstance (by decide +kernel) (pa_cons (pv 0) (pa_cons (pe_bltn (v := .ty "bool") (by rfl) T.z_bool (by decide +kernel) rfl) pa_nil)))))))), ?_⟩
    walk_at "rd"
    exact k
def spState (K : PySem.W.Frag) : Sp := fun vs H Q _ => ∃ (a : Addr) (ns : List Int) (k : Nat), vs = [.ref a, .int (k : Int)] ∧ SqL K H a (ns.map V.int) ∧ ns.length ≤ 63 ∧ ∀ p H' x y z, Same H H' → H p = none → H' p = some (st3 x y z) → Q (.ref p) H'
theorem cut_mem {xs : List V} {lo hi : Option Int} {i : Nat} {x : V} (h : (cutV xs lo hi)[i]? = some x) : x ∈ xs :=
  List.mem_of_mem_drop (List.mem_of_mem_take (List.mem_of_getElem? h))
theorem mem_int {ns : List Int} {x : V} (h : x ∈ ns.map V.int) : ∃ n, x = .int n := by
  obtain ⟨n, _, e⟩ := List.mem_map.mp h
  exact ⟨n, e.symm⟩
theorem ok_law_state (T : Txt K mg) : FnOk P w K mg base CX0 1 T.law_state.f T.law_state.fd ["script", "k"] (spState K) := by
  refine T.law_state.F.ok sc_law_state (fun vs H Q E h => ?_) (fun cdv A outer s H vs Q E hr h => ?_)
  · obtain ⟨_, _, _, rfl, _⟩ := h
    rfl
  · obtain ⟨a, ns, k, rfl, hS, hl, q⟩ := h
    refine ⟨_, (pss_cons (ps_set (i := 2) sc_law_state.nd rfl (Or.inl rfl) pe_int)
      (C8.pss_cut (ps_if (pt_cmpR op_lt (pv 1) (pe_callB call_len_seq (by rfl) T.z_len (by decide +kernel) (pa_cons (pv 0) pa_nil)) (nomark _))
      (pss_one (ps_set (i := 2) sc_law_state.nd rfl (Or.inl rfl) (pe_callB call_abs (by rfl) T.z_abs (by decide +kernel) (pa_cons (pe_callTy call_int1 (by rfl) T.z_int (by decide +kernel) (pa_cons (pe_ix ix_list (pv 0) (pv 1) (fun _ _ => rfl)) pa_nil)) pa_nil))))
      pss_nil)
      (pss_cons (ps_if (pt_cmpR op_ge (pv 2) pe_int (nomark _))
      (pss_one (ps_ret (pe_lst (pa_cons (pv 2) (pa_cons pe_int (pa_cons pe_int pa_nil))))))
      pss_nil)
      (pss_cons (ps_for PassesOwn.never rfl (pi_list (pe_slice sl_list (pv 0) po_none (po_some pe_int))) (pg_name (i := 3) sc_law_state.nd rfl (Or.inl rfl))
      (pss_one (ps_set (i := 2) sc_law_state.nd rfl (Or.inl rfl) (pe_op op_mod (pe_callTy call_int1 (by rfl) T.z_int (by decide +kernel) (pa_cons (pe_op op_add (pe_op op_add (pe_op op_mul (pv 2) pe_int) (pe_callB call_abs (by rfl) T.z_abs (by decide +kernel) (pa_cons (pe_callTy call_int1 (by rfl) T.z_int (by decide +kernel) (pa_cons (pv 3) pa_nil)) pa_nil))) (pv 1)) pa_nil)) pe_int))))
      (pss_one (ps_ret (pe_lst (pa_cons (pe_op op_add (pv 2) (pe_op op_mul pe_int (pv 1))) (pa_cons pe_int (pa_cons pe_int pa_nil)))))))))), ?_⟩
    walk_at "rd"
    refine rd_cut (fun σ' H' => H' = H ∧ ∃ c, σ' = [some (.ref a), some (.int k), some (.int c), none]) ?_ ?_
    · walk_at "rd"
      refine ifd (fun h1 => ?_) (fun h1 => ?_)
      · have hk : k < ns.length := by rw [List.length_map] at h1; omega
        have hg : atI (ns.map V.int) (k : Int) = some (.int ns[k]) := atI_nat (by simp [hk])
        walk_at "rd"
        exact ⟨rfl, _, rfl⟩
      · walk_at "rd"
        exact ⟨rfl, _, rfl⟩
    · rintro σ' H' ⟨rfl, c, rfl⟩
      walk_at "rd"
      refine ifd (fun h1 => ?_) (fun h1 => ?_)
      · walk_at "rd"
        intro p hp
        exact q p _ c 0 1 (same_new hp) hp upd_same
      · walk_at "rd"
        intro p hp
        walk_at "rd"
        refine ⟨⟨_, SqL.of upd_same⟩, ?_⟩
        refine for_list (K := K) (xs := cutV (ns.map V.int) none (some 63)) (fun i σ' H'' => H'' = upd H' p (.lst (cutV (ns.map V.int) none (some 63))) ∧ ∃ c z, σ' = [some (.ref a), some (.int k), some (.int c), z]) ⟨rfl, c, none, rfl⟩ ?_ ?_ ?_
        · rintro i σ'' H'' _ ⟨rfl, _⟩
          exact SqL.of upd_same
        · rintro i x σ'' H'' hx ⟨rfl, c, z, rfl⟩
          obtain ⟨n, rfl⟩ := mem_int (cut_mem hx)
          walk_at "rd"
          exact ⟨rfl, _, _, rfl⟩
        · rintro σ'' H'' ⟨rfl, c, z, rfl⟩
          walk_at "rd"
          intro t ht
          refine q t _ _ _ _ ((same_new hp).trans (same_new ht)) ((same_new hp).free ht) upd_same
def spNext : Sp := fun vs H Q _ => ∃ s n, vs = [.ref s, .int n] ∧ St3 H s ∧ 0 < n ∧ n < 1073741824 ∧ ∀ r a b c, 0 ≤ r → r < n → Q (.int r) (upd H s (st3 a b c))
theorem ok_law_next (T : Txt K mg) : FnOk P w K mg base CX0 1 T.law_next.f T.law_next.fd ["state", "size"] spNext := by
  refine T.law_next.F.ok sc_law_next (fun vs H Q E h => ?_) (fun cdv A outer s H vs Q E hr h => ?_)
  · obtain ⟨_, _, rfl, _⟩ := h
    rfl
  · obtain ⟨s, n, rfl, ⟨x0, x1, x2, h1⟩, hn, hn2, k⟩ := h
    refine ⟨_, (pss_cons (ps_asg (pe_op op_add (pe_ix ix_list (pv 0) pe_int (fun _ _ => rfl)) pe_int) (pg_sub (pv 0) pe_int set_list))
      (pss_cons (ps_if (PW.pt (pw_and (pt_cmpR op_eq (pe_ix ix_list (pv 0) pe_int (fun _ _ => rfl)) pe_int (nomark _)) (pw_and1 (pt_cmpR op_gt (pe_ix ix_list (pv 0) pe_int (fun _ _ => rfl)) pe_int (nomark _)))))
      (pss_cons (ps_set (i := 2) sc_law_next.nd rfl (Or.inl rfl) (pe_op op_mod (pe_callTy call_int1 (by rfl) T.z_int (by decide +kernel) (pa_cons (pe_ix ix_list (pv 0) pe_int (fun _ _ => rfl)) pa_nil)) (pv 1)))
        (pss_cons (ps_asg (pe_op op_fdiv (pe_callTy call_int1 (by rfl) T.z_int (by decide +kernel) (pa_cons (pe_ix ix_list (pv 0) pe_int (fun _ _ => rfl)) pa_nil)) (pv 1)) (pg_sub (pv 0) pe_int set_list))
        (pss_one (ps_ret (pv 2)))))
      pss_nil)
      (pss_cons (ps_set (i := 3) sc_law_next.nd rfl (Or.inl rfl) (pe_op op_mod (pe_callTy call_int1 (by rfl) T.z_int (by decide +kernel) (pa_cons (pe_op op_add (pe_op op_add (pe_ix ix_list (pv 0) pe_int (fun _ _ => rfl)) (pe_op op_mul pe_int (pe_ix ix_list (pv 0) pe_int (fun _ _ => rfl)))) pe_int) pa_nil)) pe_int))
      (pss_cons (ps_set (i := 3) sc_law_next.nd rfl (Or.inl rfl) (pe_op op_mod (pe_callTy call_int1 (by rfl) T.z_int (by decide +kernel) (pa_cons (pe_op op_mul (pv 3) (pe_op op_add (pv 3) pe_int)) pa_nil)) pe_int))
      (pss_cons (ps_set (i := 3) sc_law_next.nd rfl (Or.inl rfl) (pe_op op_mod (pe_callTy call_int1 (by rfl) T.z_int (by decide +kernel) (pa_cons (pe_op op_add (pe_op op_mul (pv 3) (pe_op op_add (pv 3) pe_int)) (pe_op op_mul pe_int (pe_ix ix_list (pv 0) pe_int (fun _ _ => rfl)))) pa_nil)) pe_int))
      (pss_one (ps_ret (pe_op op_mod (pe_callTy call_int1 (by rfl) T.z_int (by decide +kernel) (pa_cons (pe_op op_fdiv (pv 3) pe_int) pa_nil)) (pv 1))))))))), ?_⟩
    have m0 : ∀ z : Int, 0 ≤ z % n ∧ z % n < n := fun z => ⟨Int.emod_nonneg _ (by omega), Int.emod_lt_of_pos _ hn⟩
    have mid : ∀ z : Int, z % 2147483647 < 2147483647 ∧ 0 ≤ z % 2147483647 := fun z => by omega
    have mid2 : ∀ z : Int, z % 2147483629 < 2147483629 ∧ 0 ≤ z % 2147483629 := fun z => by omega
    walk_at "rd"
    refine ifd (fun h2 => ?_) (fun h2 => ?_)
    · walk_at "rd"
      refine ifd (fun h3 => ?_) (fun h3 => ?_)
      · walk_at "rd"
        rw [upd_upd]
        exact k _ _ _ _ (m0 _).1 (m0 _).2
      · walk_at "rd"
        exact k _ _ _ _ (m0 _).1 (m0 _).2
    · walk_at "rd"
      exact k _ _ _ _ (m0 _).1 (m0 _).2
section
variable (T : Txt K mg) (G_law_next : FnOk P w K mg base CX0 1 T.law_next.f T.law_next.fd ["state", "size"] spNext)
include G_law_next
def spBig : Sp := fun vs H Q _ => ∃ s n, vs = [.ref s, .int n] ∧ St3 H s ∧ 0 < n ∧ n ≤ 40 ∧ ∀ r a b c, 0 ≤ r → r < 10 ^ n.toNat → Q (.int r) (upd H s (st3 a b c))
theorem ok_law_big : FnOk P w K mg base CX0 2 T.law_big.f T.law_big.fd ["state", "most"] spBig := by
  refine T.law_big.F.ok sc_law_big (fun vs H Q E h => ?_) (fun cdv A outer s H vs Q E hr h => ?_)
  · obtain ⟨_, _, rfl, _⟩ := h
    rfl
  · obtain ⟨s, n, rfl, hs, hn, hn2, k⟩ := h
    refine ⟨_, (pss_cons (ps_set (i := 2) sc_law_big.nd rfl (Or.inl rfl) pe_int)
      (pss_cons (ps_for PassesOwn.never rfl (pi_range1 rfl T.z_range (pa_cons (pe_op op_add pe_int (pcall T.law_next G_law_next hr (pa_cons (pv 0) (pa_cons (pv 1) pa_nil)))) pa_nil)) (pg_name (i := 3) sc_law_big.nd rfl (Or.inl rfl))
      (pss_one (ps_set (i := 2) sc_law_big.nd rfl (Or.inl rfl) (pe_op op_add (pe_op op_mul (pv 2) pe_int) (pcall T.law_next G_law_next hr (pa_cons (pv 0) (pa_cons pe_int pa_nil)))))))
      (pss_one (ps_ret (pv 2))))), ?_⟩
    walk_at "rd"
    refine ⟨s, n, rfl, hs, hn, by omega, fun r a b c h0 h1 => ?_⟩
    walk_at "rd"
    refine ⟨by omega, by omega, for_range (n := (1 + r).toNat) (fun i σ' H' => ∃ v z a b c, σ' = [some (.ref s), some (.int n), some (.int v), z] ∧ H' = upd H s (st3 a b c) ∧ 0 ≤ v ∧ v < 10 ^ i) ⟨0, none, a, b, c, rfl, rfl, by omega, by decide⟩ ?_ ?_⟩
    · rintro i σ' H' hi ⟨v, z, a, b, c, rfl, rfl, v0, v1⟩
      walk_at "rd"
      refine ⟨s, 10, rfl, .upd, by omega, by omega, fun r a b c h0 h1 => ?_⟩
      rw [upd_upd]
      walk_at "rd"
      refine ⟨_, _, a, b, c, rfl, rfl, by omega, ?_⟩
      rw [Int.pow_succ]
      omega
    · rintro σ' H' ⟨v, z, a, b, c, rfl, rfl, v0, v1⟩
      walk_at "rd"
      refine k v a b c v0 (Int.lt_of_lt_of_le v1 ?_)
      exact_mod_cast Nat.pow_le_pow_right (by decide : 0 < 10) (show n.toNat ≥ (1 + r).toNat - 0 by omega)
def spSigned : Sp := fun vs H Q _ => ∃ s n, vs = [.ref s, .int n] ∧ St3 H s ∧ ∀ r a b c, r = n ∨ r = -n → Q (.int r) (upd H s (st3 a b c))
theorem ok_law_signed : FnOk P w K mg base CX0 2 T.law_signed.f T.law_signed.fd ["state", "value"] spSigned := by
  refine T.law_signed.F.ok sc_law_signed (fun vs H Q E h => ?_) (fun cdv A outer s H vs Q E hr h => ?_)
  · obtain ⟨_, _, rfl, _⟩ := h
    rfl
  · obtain ⟨s, n, rfl, hs, k⟩ := h
    refine ⟨_, (pss_cons (ps_if (pt_cmpR op_eq (pcall T.law_next G_law_next hr (pa_cons (pv 0) (pa_cons pe_int pa_nil))) pe_int (nomark _))
      (pss_one (ps_ret (pe_op op_sub pe_int (pv 1))))
      pss_nil)
      (pss_one (ps_ret (pv 1)))), ?_⟩
    walk_at "rd"
    refine ⟨s, 2, rfl, hs, by omega, by omega, fun r a b c h0 h1 => ?_⟩
    walk_at "rd"
    refine ifd (fun h2 => ?_) (fun h2 => ?_)
    · walk_at "rd"
      exact k _ a b c (.inr (by omega))
    · walk_at "rd"
      exact k _ a b c (.inl rfl)
end
end
end K40
set_option Elab.async false
set_option linter.all false
set_option maxRecDepth 100000
set_option maxHeartbeats 4000000
namespace K40
open PySem L2 Ar M40
section
variable {P : Program} {w : World} {K : PySem.W.Frag} {mg : Str → Option Value} {base : Heap}
abbrev gNext (T : Txt K mg) := FnOk P w K mg base CX0 1 T.law_next.f T.law_next.fd ["state", "size"] spNext
section
variable (T : Txt K mg) (G_law_next : FnOk P w K mg base CX0 1 T.law_next.f T.law_next.fd ["state", "size"] spNext)
  (G_law_big : FnOk P w K mg base CX0 2 T.law_big.f T.law_big.fd ["state", "most"] spBig)
  (G_law_signed : FnOk P w K mg base CX0 2 T.law_signed.f T.law_signed.fd ["state", "value"] spSigned)
def spFraction : Sp := fun vs H Q _ => ∃ s most, vs = [.ref s, .int most] ∧ St3 H s ∧ (most = 12 ∨ most = 40) ∧ ∀ p t u a b c, Fr 1 (t, u) → (upd H s (st3 a b c)) p = none → Q (.ref p) (upd (upd H s (st3 a b c)) p (.lst [.int t, .int u]))
theorem fr1 {t u : Int} (h1 : t.natAbs < 2 ^ 133) (h2 : u.natAbs < 2 ^ 133) (h3 : u ≠ 0) : Fr 1 (t, u) := ⟨by decide, h1, h2, h3⟩
theorem ten40 {r n : Int} (h0 : 0 ≤ r) (h : r < 10 ^ n.toNat) (hn : n ≤ 40) : r < 10 ^ 40 := Int.lt_of_lt_of_le h (by
  exact_mod_cast Nat.pow_le_pow_right (by decide : 0 < 10) (show n.toNat ≤ 40 by omega))
theorem ten20 {r n : Int} (h0 : 0 ≤ r) (h : r < 10 ^ n.toNat) (hn : n ≤ 20) : r < 10 ^ 20 := Int.lt_of_lt_of_le h (by
  exact_mod_cast Nat.pow_le_pow_right (by decide : 0 < 10) (show n.toNat ≤ 20 by omega))
theorem ten19 {r n : Int} (h0 : 0 ≤ r) (h : r < 10 ^ n.toNat) (hn : n ≤ 19) : r < 10 ^ 19 := Int.lt_of_lt_of_le h (by
  exact_mod_cast Nat.pow_le_pow_right (by decide : 0 < 10) (show n.toNat ≤ 19 by omega))
include G_law_next G_law_big G_law_signed
theorem ok_law_fraction : FnOk P w K mg base CX0 3 T.law_fraction.f T.law_fraction.fd ["state", "most"] spFraction := by
  refine T.law_fraction.F.ok sc_law_fraction (fun vs H Q E h => ?_) (fun cdv A outer s H vs Q E hr h => ?_)
  · obtain ⟨_, _, rfl, _⟩ := h
    rfl
  · obtain ⟨s, most, rfl, hs, hm, k⟩ := h
    refine ⟨_, (pss_cons (ps_set (i := 2) sc_law_fraction.nd rfl (Or.inl rfl) (pcall T.law_next G_law_next hr (pa_cons (pv 0) (pa_cons pe_int pa_nil))))
      (pss_cons (ps_if (pt_cmpR op_eq (pv 2) pe_int (nomark _))
      (pss_one (ps_ret (pe_lst (pa_cons (pcall T.law_signed G_law_signed hr (pa_cons (pv 0) (pa_cons (pcall T.law_next G_law_next hr (pa_cons (pv 0) (pa_cons pe_int pa_nil))) pa_nil))) (pa_cons (pcall T.law_signed G_law_signed hr (pa_cons (pv 0) (pa_cons (pe_op op_add pe_int (pcall T.law_next G_law_next hr (pa_cons (pv 0) (pa_cons pe_int pa_nil)))) pa_nil))) pa_nil)))))
      pss_nil)
      (pss_cons (ps_if (pt_cmpR op_eq (pv 2) pe_int (nomark _))
      (pss_cons (ps_set (i := 3) sc_law_fraction.nd rfl (Or.inl rfl) (pe_op op_add pe_int (pcall T.law_big G_law_big hr (pa_cons (pv 0) (pa_cons (pe_op op_sub (pe_op op_fdiv (pv 1) pe_int) pe_int) pa_nil)))))
        (pss_cons (ps_set (i := 4) sc_law_fraction.nd rfl (Or.inl rfl) (pe_op op_mul (pv 3) (pcall T.law_big G_law_big hr (pa_cons (pv 0) (pa_cons (pe_op op_fdiv (pv 1) pe_int) pa_nil)))))
        (pss_cons (ps_set (i := 5) sc_law_fraction.nd rfl (Or.inl rfl) (pe_op op_mul (pv 3) (pe_callB (call_max2 rfl) (by rfl) T.z_max (by decide +kernel) (pa_cons pe_int (pa_cons (pcall T.law_big G_law_big hr (pa_cons (pv 0) (pa_cons (pe_op op_fdiv (pv 1) pe_int) pa_nil))) pa_nil)))))
        (pss_one (ps_ret (pe_lst (pa_cons (pcall T.law_signed G_law_signed hr (pa_cons (pv 0) (pa_cons (pv 4) pa_nil))) (pa_cons (pcall T.law_signed G_law_signed hr (pa_cons (pv 0) (pa_cons (pv 5) pa_nil))) pa_nil))))))))
      pss_nil)
      (pss_cons (ps_set (i := 4) sc_law_fraction.nd rfl (Or.inl rfl) (pcall T.law_signed G_law_signed hr (pa_cons (pv 0) (pa_cons (pcall T.law_big G_law_big hr (pa_cons (pv 0) (pa_cons (pv 1) pa_nil))) pa_nil))))
      (pss_cons (ps_set (i := 5) sc_law_fraction.nd rfl (Or.inl rfl) (pcall T.law_signed G_law_signed hr (pa_cons (pv 0) (pa_cons (pe_callB (call_max2 rfl) (by rfl) T.z_max (by decide +kernel) (pa_cons pe_int (pa_cons (pcall T.law_big G_law_big hr (pa_cons (pv 0) (pa_cons (pv 1) pa_nil))) pa_nil))) pa_nil))))
      (C8.pss_cut (ps_if (pt_cmpR op_eq (pv 2) pe_int (nomark _))
      (pss_one (ps_set (i := 5) sc_law_fraction.nd rfl (Or.inl rfl) (pcall T.law_signed G_law_signed hr (pa_cons (pv 0) (pa_cons pe_int pa_nil)))))
      pss_nil)
      (pss_cons (ps_if (PW.pt (pw_and (pt_cmpR op_eq (pv 2) pe_int (nomark _)) (pw_and1 (pt_cmpR op_eq (pcall T.law_next G_law_next hr (pa_cons (pv 0) (pa_cons pe_int pa_nil))) pe_int (nomark _)))))
      (pss_one (ps_set (i := 4) sc_law_fraction.nd rfl (Or.inl rfl) pe_int))
      pss_nil)
      (pss_one (ps_ret (pe_lst (pa_cons (pv 4) (pa_cons (pv 5) pa_nil)))))))))))), ?_⟩
    walk_at "rd"
    refine ⟨s, 6, rfl, hs, by omega, by omega, fun kd a b c k0 k1 => ?_⟩
    walk_at "rd"
    refine ifd (fun h1 => ?_) (fun h1 => ?_)
    · walk_at "rd"
      refine ⟨s, 30, rfl, .upd, by omega, by omega, fun r a b c r0 r1 => ?_⟩
      rw [upd_upd]; walk_at "rd"
      refine ⟨s, r, rfl, .upd, fun t a b c ht => ?_⟩
      rw [upd_upd]; walk_at "rd"
      refine ⟨s, 30, rfl, .upd, by omega, by omega, fun r2 a b c r20 r21 => ?_⟩
      rw [upd_upd]; walk_at "rd"
      refine ⟨s, _, rfl, .upd, fun u a b c hu => ?_⟩
      rw [upd_upd]; walk_at "rd"
      exact fun p hp => k p t u a b c (fr1 (by omega) (by omega) (by omega)) hp
    · walk_at "rd"
      refine ifd (fun h2 => ?_) (fun h2 => ?_)
      · walk_at "rd"
        refine ⟨s, _, rfl, .upd, by omega, by omega, fun r a b c r0 r1 => ?_⟩
        have q1 := ten19 r0 r1 (by omega)
        rw [upd_upd]; walk_at "rd"
        refine ⟨s, _, rfl, .upd, by omega, by omega, fun r2 a b c r20 r21 => ?_⟩
        have q2 := ten20 r20 r21 (by omega)
        have hb : ((1 + r) * r2).natAbs < 2 ^ 133 := by
          have z1 : Sz 64 (1 + r) := by unfold Sz; omega
          have z2 : Sz 67 r2 := by unfold Sz; omega
          exact sz_mono (sz_mul z1 z2) (by decide)
        rw [upd_upd]; walk_at "rd"
        refine ⟨s, _, rfl, .upd, by omega, by omega, fun r3 a b c r30 r31 => ?_⟩
        have q3 := ten20 r30 r31 (by omega)
        rw [upd_upd]; walk_at "rd"
        rw [max_if]
        walk_at "rd"
        have hb2 : ((1 + r) * max 1 r3).natAbs < 2 ^ 133 ∧ (1 + r) * max 1 r3 ≠ 0 := by
          have z1 : Sz 64 (1 + r) := by unfold Sz; omega
          have z2 : Sz 67 (max 1 r3) := by unfold Sz; omega
          exact ⟨sz_mono (sz_mul z1 z2) (by decide), Int.mul_ne_zero (by omega) (by omega)⟩
        generalize (1 + r) * max 1 r3 = bot at *
        generalize (1 + r) * r2 = top at *
        refine ⟨s, _, rfl, .upd, fun t a b c ht => ?_⟩
        rw [upd_upd]; walk_at "rd"
        refine ⟨s, _, rfl, .upd, fun u a b c hu => ?_⟩
        rw [upd_upd]; walk_at "rd"
        exact fun p hp => k p t u a b c (fr1 (by omega) (by omega) (by omega)) hp
      · walk_at "rd"
        refine ⟨s, most, rfl, .upd, by omega, by omega, fun r a b c r0 r1 => ?_⟩
        have q1 := ten40 r0 r1 (by omega)
        rw [upd_upd]; walk_at "rd"
        refine ⟨s, _, rfl, .upd, fun t a b c ht => ?_⟩
        rw [upd_upd]; walk_at "rd"
        refine ⟨s, most, rfl, .upd, by omega, by omega, fun r2 a b c r20 r21 => ?_⟩
        have q2 := ten40 r20 r21 (by omega)
        rw [upd_upd]; walk_at "rd"
        rw [max_if]
        walk_at "rd"
        refine ⟨s, _, rfl, .upd, fun u a b c hu => ?_⟩
        rw [upd_upd]; walk_at "rd"
        refine rd_cut (fun σ' H' => ∃ t u a b c, σ' = [some (.ref s), some (.int most), some (.int kd), none, some (.int t), some (.int u)] ∧ H' = upd H s (st3 a b c) ∧ Fr 1 (t, u)) ?_ ?_
        · walk_at "rd"
          refine ifd (fun h3 => ?_) (fun h3 => ?_)
          · walk_at "rd"
            refine ⟨s, _, rfl, .upd, fun u2 a b c hu2 => ?_⟩
            rw [upd_upd]; walk_at "rd"
            exact ⟨t, u2, a, b, c, rfl, rfl, fr1 (by omega) (by omega) (by omega)⟩
          · walk_at "rd"
            exact ⟨t, u, a, b, c, rfl, rfl, fr1 (by omega) (by omega) (by omega)⟩
        · rintro σ' H' ⟨t, u, a, b, c, rfl, rfl, hf⟩
          walk_at "rd"
          refine ifd (fun h3 => ?_) (fun h3 => ?_)
          · walk_at "rd"
            refine ⟨s, _, rfl, .upd, by omega, by omega, fun r2 a b c r20 r21 => ?_⟩
            rw [upd_upd]; walk_at "rd"
            refine ifd (fun h4 => ?_) (fun h4 => ?_)
            · walk_at "rd"
              exact fun p hp => k p 0 u a b c ⟨by decide, (by show (0 : Int).natAbs < 2 ^ 133; decide), hf.2.2⟩ hp
            · walk_at "rd"
              exact fun p hp => k p t u a b c hf hp
          · walk_at "rd"
            exact fun p hp => k p t u a b c hf hp
end
end
end K40
set_option Elab.async false
set_option linter.all false
set_option maxRecDepth 100000
set_option maxHeartbeats 4000000
namespace K40
open PySem L2 Ar M40
section
variable {P : Program} {w : World} {K : PySem.W.Frag} {mg : Str → Option Value} {base : Heap}
/-! ### Euclid, lowest terms, the judges -/
def spCommon : Sp := fun vs H Q _ => ∃ m n : Nat, vs = [.int (m : Int), .int (n : Int)] ∧ n < 4 ^ 1333 ∧ Q (.int ((Nat.gcd m n : Nat) : Int)) H
theorem ok_law_common (T : Txt K mg) : FnOk P w K mg base CX0 1 T.law_common.f T.law_common.fd ["a", "b"] spCommon := by
  refine T.law_common.F.ok sc_law_common (fun vs H Q E h => ?_) (fun cdv A outer s H vs Q E hr h => ?_)
  · obtain ⟨_, _, rfl, _⟩ := h
    rfl
  · obtain ⟨m, n, rfl, hn, k⟩ := h
    refine ⟨_, (pss_cons (ps_for PassesOwn.never rfl (pi_range1 rfl T.z_range (pa_cons pe_int pa_nil)) (pg_name (i := 2) sc_law_common.nd rfl (Or.inl rfl))
      (pss_cons (ps_if (pt_cmpR op_eq (pv 1) pe_int (nomark _))
        (pss_one (ps_ret (pv 0)))
        pss_nil)
        (pss_cons (ps_set (i := 3) sc_law_common.nd rfl (Or.inl rfl) (pe_op op_mod (pe_callTy call_int1 (by rfl) T.z_int (by decide +kernel) (pa_cons (pv 0) pa_nil)) (pv 1)))
        (pss_cons (ps_set (i := 0) sc_law_common.nd rfl (Or.inl rfl) (pv 1))
        (pss_one (ps_set (i := 1) sc_law_common.nd rfl (Or.inl rfl) (pv 3)))))))
      (pss_one (ps_ret (pv 0)))), ?_⟩
    walk_at "rd"
    refine ⟨by omega, by omega, for_range (n := 4000) (fun i σ' H' => H' = H ∧ (∀ j, j < i → (euc j (m, n)).2 ≠ 0) ∧ ∃ z1 z2, σ' = [some (.int ((euc i (m, n)).1 : Int)), some (.int ((euc i (m, n)).2 : Int)), z1, z2]) ⟨rfl, fun j hj => by omega, none, none, rfl⟩ ?_ ?_⟩
    · rintro i σ' H' hi ⟨rfl, hj, z1, z2, rfl⟩
      walk_at "rd"
      refine ifd (fun h1 => ?_) (fun h1 => ?_)
      · walk_at "rd"
        have e := euc_gcd i m n hj
        have z : (euc i (m, n)).2 = 0 := by omega
        rw [z, Nat.gcd_zero_right] at e
        rw [e]
        exact k
      · walk_at "rd"
        refine ⟨rfl, fun j hj' => ?_, some (.int (0 + (i : Int))), some (.int (((euc i (m, n)).1 : Int) % ((euc i (m, n)).2 : Int))), ?_⟩
        · by_cases q : j < i
          · exact hj j q
          · have : j = i := by omega
            subst this
            omega
        · have e : ((euc i (m, n)).1 : Int) % ((euc i (m, n)).2 : Int) = (((euc i (m, n)).1 % (euc i (m, n)).2 : Nat) : Int) := by omega
          rw [e]
          rfl
    · rintro σ' H' ⟨rfl, hj, z1, z2, rfl⟩
      walk_at "rd"
      have e := euc_gcd 4000 m n hj
      have z : (euc 4000 (m, n)).2 = 0 := Decidable.byContradiction fun q => not_runs hn (runs_of 4000 m n fun i hi => by
        by_cases hq : i < 4000
        · exact hj i hq
        · have : i = 4000 := by omega
          subst this
          exact q)
      rw [z, Nat.gcd_zero_right] at e
      rw [e]
      exact k
def spLowest : Sp := fun vs H Q _ => ∃ a x m, vs = [.ref a] ∧ H a = some (.lst (two x)) ∧ Fr m x ∧ m ≤ 19 ∧ ∀ t, H t = none → Q (.ref t) (upd H t (.tup (two (low x))))
theorem ok_law_lowest (T : Txt K mg) (G_law_common : FnOk P w K mg base CX0 1 T.law_common.f T.law_common.fd ["a", "b"] spCommon) : FnOk P w K mg base CX0 2 T.law_lowest.f T.law_lowest.fd ["value"] spLowest := by
  refine T.law_lowest.F.ok sc_law_lowest (fun vs H Q E h => ?_) (fun cdv A outer s H vs Q E hr h => ?_)
  · obtain ⟨_, _, _, rfl, _⟩ := h
    rfl
  · obtain ⟨a, x, m, rfl, ha, fx, hm, k⟩ := h
    refine ⟨_, (pss_cons (ps_set (i := 1) sc_law_lowest.nd rfl (Or.inl rfl) (pcall T.law_common G_law_common hr (pa_cons (pe_callB call_abs (by rfl) T.z_abs (by decide +kernel) (pa_cons (pe_ix ix_list (pv 0) pe_int (fun _ _ => rfl)) pa_nil)) (pa_cons (pe_callB call_abs (by rfl) T.z_abs (by decide +kernel) (pa_cons (pe_ix ix_list (pv 0) pe_int (fun _ _ => rfl)) pa_nil)) pa_nil))))
      (pss_cons (ps_if (pt_cmpR op_lt (pe_ix ix_list (pv 0) pe_int (fun _ _ => rfl)) pe_int (nomark _))
      (pss_one (ps_set (i := 1) sc_law_lowest.nd rfl (Or.inl rfl) (pe_op op_sub pe_int (pv 1))))
      pss_nil)
      (pss_one (ps_ret (pe_tup (pa_cons (pe_op op_fdivWN (pe_ix ix_list (pv 0) pe_int (fun _ _ => rfl)) (pv 1)) (pa_cons (pe_op op_fdivWN (pe_ix ix_list (pv 0) pe_int (fun _ _ => rfl)) (pv 1)) pa_nil))))))), ?_⟩
    obtain ⟨sx1, sx2⟩ := fr_sz fx hm
    have hd := com_div (p := x.1) fx.2.2.2 sx2
    have hb : x.2.natAbs < 4 ^ 1333 := Nat.lt_of_lt_of_le sx2 (by decide +kernel)
    walk_at "rd"
    rw [abs_if]
    walk_at "rd"
    rw [abs_if]
    walk_at "rd"
    refine ⟨x.1.natAbs, x.2.natAbs, rfl, hb, ?_⟩
    walk_at "rd"
    refine ifd (fun hl => ?_) (fun hl => ?_)
    · have e : com x.1 x.2 = 0 - ((Nat.gcd x.1.natAbs x.2.natAbs : Nat) : Int) := by unfold com; rw [if_pos hl]; omega
      rw [e] at hd
      walk_at "rd"
      · intro t ht
        have := k t ht
        unfold low at this
        rw [e] at this
        exact this
      · exact hd.1
      · exact hd.2
    · have e : com x.1 x.2 = ((Nat.gcd x.1.natAbs x.2.natAbs : Nat) : Int) := by unfold com; rw [if_neg hl]
      rw [e] at hd
      walk_at "rd"
      · intro t ht
        have := k t ht
        unfold low at this
        rw [e] at this
        exact this
      · exact hd.1
      · exact hd.2
def spIs : Sp := fun vs H Q _ => ∃ a b x, vs = [.ref a, .ref b] ∧ H a = some (.tup (two x)) ∧ H b = some (.tup (two x)) ∧ Q (.bl true) H
theorem ok_law_is (T : Txt K mg) (G_law_int : FnOk P w K mg base CX0 1 T.law_int.f T.law_int.fd ["value"] spInt) : FnOk P w K mg base CX0 2 T.law_is.f T.law_is.fd ["told", "due"] spIs := by
  refine T.law_is.F.ok sc_law_is (fun vs H Q E h => ?_) (fun cdv A outer s H vs Q E hr h => ?_)
  · obtain ⟨_, _, _, rfl, _⟩ := h
    rfl
  · obtain ⟨a, b, x, rfl, ha, hb, k⟩ := h
    refine ⟨_, (pss_cons (ps_if (PW.pt (pw_or (pt_not (pt_val (pe_callB call_isi (by rfl) T.z_isinstance (by decide +kernel) (pa_cons (pv 0) (pa_cons (pe_bltn (v := .ty "tuple") (by rfl) T.z_tuple (by decide +kernel) rfl) pa_nil))))) (pw_or1 (pt_cmpR op_ne (pe_callB call_len_seq (by rfl) T.z_len (by decide +kernel) (pa_cons (pv 0) pa_nil)) pe_int (nomark _)))))
      (pss_one (ps_ret pe_bl))
      pss_nil)
      (pss_one (ps_ret (pe_and (pcall T.law_int G_law_int hr (pa_cons (pe_ix ix_tup (pv 0) pe_int (fun _ _ => rfl)) pa_nil)) (pe_and (pcall T.law_int G_law_int hr (pa_cons (pe_ix ix_tup (pv 0) pe_int (fun _ _ => rfl)) pa_nil)) (pe_one (pe_cmpR (op_eqD hr.units) (pv 0) (pv 1) (nomark _)))))))), ?_⟩
    walk_at "rd"
    refine ifnd (fun h1 => ?_) (fun h1 => ?_)
    · exact absurd rfl h1
    · walk_at "rd"
      refine ⟨_, rfl, ?_⟩
      walk_at "rd"
      refine ⟨_, rfl, ?_⟩
      walk_at "rd"
      have d : ∀ {p : Addr}, H p = some (.tup (two x)) → Dp K H (.ref p) (.tuple [.int x.1, .int x.2]) := fun h => .tup (SqT.of h) (.cons (.int _) (.cons (.int _) .nil))
      refine ⟨_, _, d ha, d hb, rfl, rfl, ?_⟩
      have e : PyData.eqv (.tuple [.int x.1, .int x.2]) (.tuple [.int x.1, .int x.2]) = true := SeqAt.eqv_refl _ (by simp [PyData.canLay0, PyData.canLayAll0])
      rw [e]
      exact k
def spSays : Sp := fun vs H Q _ => ∃ b, vs = [.bl b, .bl b] ∧ Q (.bl true) H
theorem ok_law_says (T : Txt K mg) : FnOk P w K mg base CX0 1 T.law_says.f T.law_says.fd ["told", "due"] spSays := by
  refine T.law_says.F.ok sc_law_says (fun vs H Q E h => ?_) (fun cdv A outer s H vs Q E hr h => ?_)
  · obtain ⟨_, rfl, _⟩ := h
    rfl
  · obtain ⟨b, rfl, k⟩ := h
    refine ⟨_, (pss_cons (ps_if (pt_val (pv 1))
      (pss_one (ps_ret (pe_cmpR op_is_bl (pv 0) pe_bl (nomark _))))
      pss_nil)
      (pss_one (ps_ret (pe_cmpR op_is_bl (pv 0) pe_bl (nomark _))))), ?_⟩
    walk_at "rd"
    cases b with
    | true =>
      walk_at "rd"
      exact ⟨_, _, rfl, rfl, k⟩
    | false =>
      walk_at "rd"
      exact ⟨_, _, rfl, rfl, k⟩
end
end K40
set_option Elab.async false
set_option linter.all false
set_option maxRecDepth 100000
set_option maxHeartbeats 4000000
namespace K40
open PySem L2 Ar M40
section
variable {P : Program} {w : World} {K : PySem.W.Frag} {mg : Str → Option Value} {base : Heap}
/-! ### one deed -/
def spValue : Sp := fun vs H Q _ => ∃ d a b x y m n, vs = [.int d, .ref a, .ref b] ∧ H a = some (.lst (two x)) ∧ H b = some (.lst (two y)) ∧ Fr m x ∧ Fr n y ∧ m + n ≤ 19 ∧ good d y ∧ ∀ t, H t = none → Q (.ref t) (upd H t (.lst (two (opv d x y))))
theorem opv0 {x y : Int × Int} : opv 0 x y = (x.1 * y.2 + y.1 * x.2, x.2 * y.2) := rfl
theorem ok_law_value (T : Txt K mg) : FnOk P w K mg base CX0 1 T.law_value.f T.law_value.fd ["deed", "one", "two"] spValue := by
  refine T.law_value.F.ok sc_law_value (fun vs H Q E h => ?_) (fun cdv A outer s H vs Q E hr h => ?_)
  · obtain ⟨_, _, _, _, _, _, _, rfl, _⟩ := h
    rfl
  · obtain ⟨d, a, b, x, y, m, n, rfl, ha, hb, fx, fy, hmn, hg, k⟩ := h
    refine ⟨_, (pss_cons (ps_if (pt_cmpR op_eq (pv 0) pe_int (nomark _))
      (pss_one (ps_ret (pe_lst (pa_cons (pe_op op_add (pe_op op_mulW (pe_ix ix_list (pv 1) pe_int (fun _ _ => rfl)) (pe_ix ix_list (pv 2) pe_int (fun _ _ => rfl))) (pe_op op_mulW (pe_ix ix_list (pv 2) pe_int (fun _ _ => rfl)) (pe_ix ix_list (pv 1) pe_int (fun _ _ => rfl)))) (pa_cons (pe_op op_mulW (pe_ix ix_list (pv 1) pe_int (fun _ _ => rfl)) (pe_ix ix_list (pv 2) pe_int (fun _ _ => rfl))) pa_nil)))))
      pss_nil)
      (pss_cons (ps_if (pt_cmpR op_eq (pv 0) pe_int (nomark _))
      (pss_one (ps_ret (pe_lst (pa_cons (pe_op op_sub (pe_op op_mulW (pe_ix ix_list (pv 1) pe_int (fun _ _ => rfl)) (pe_ix ix_list (pv 2) pe_int (fun _ _ => rfl))) (pe_op op_mulW (pe_ix ix_list (pv 2) pe_int (fun _ _ => rfl)) (pe_ix ix_list (pv 1) pe_int (fun _ _ => rfl)))) (pa_cons (pe_op op_mulW (pe_ix ix_list (pv 1) pe_int (fun _ _ => rfl)) (pe_ix ix_list (pv 2) pe_int (fun _ _ => rfl))) pa_nil)))))
      pss_nil)
      (pss_cons (ps_if (pt_cmpR op_eq (pv 0) pe_int (nomark _))
      (pss_one (ps_ret (pe_lst (pa_cons (pe_op op_mulW (pe_ix ix_list (pv 1) pe_int (fun _ _ => rfl)) (pe_ix ix_list (pv 2) pe_int (fun _ _ => rfl))) (pa_cons (pe_op op_mulW (pe_ix ix_list (pv 1) pe_int (fun _ _ => rfl)) (pe_ix ix_list (pv 2) pe_int (fun _ _ => rfl))) pa_nil)))))
      pss_nil)
      (pss_one (ps_ret (pe_lst (pa_cons (pe_op op_mulW (pe_ix ix_list (pv 1) pe_int (fun _ _ => rfl)) (pe_ix ix_list (pv 2) pe_int (fun _ _ => rfl))) (pa_cons (pe_op op_mulW (pe_ix ix_list (pv 1) pe_int (fun _ _ => rfl)) (pe_ix ix_list (pv 2) pe_int (fun _ _ => rfl))) pa_nil)))))))), ?_⟩
    obtain ⟨sx1, sx2⟩ := fr_sz fx (by omega)
    obtain ⟨sy1, sy2⟩ := fr_sz fy (by omega)
    walk_at "rd"
    refine ifd (fun h0 => ?_) (fun h0 => ?_)
    · subst h0
      walk_at "rd"
      · exact k
      all_goals exact cm (by assumption) (by assumption)
    · walk_at "rd"
      refine ifd (fun h1 => ?_) (fun h1 => ?_)
      · subst h1
        walk_at "rd"
        · exact k
        all_goals exact cm (by assumption) (by assumption)
      · walk_at "rd"
        refine ifd (fun h2 => ?_) (fun h2 => ?_)
        · subst h2
          walk_at "rd"
          · exact k
          all_goals exact cm (by assumption) (by assumption)
        · have h3 : d = 3 := by
            rcases hg with q | q | q | q
            · exact absurd q h0
            · exact absurd q h1
            · exact absurd q h2
            · exact q.1
          subst h3
          walk_at "rd"
          · exact k
          all_goals exact cm (by assumption) (by assumption)
section
variable (T : Txt K mg)
  (G_plus : FnOk P w K mg base CX0 2 T.plus.f T.plus.fd ["a", "b"] (spOp K 0)) (G_minus : FnOk P w K mg base CX0 2 T.minus.f T.minus.fd ["a", "b"] (spOp K 1))
  (G_times : FnOk P w K mg base CX0 2 T.times.f T.times.fd ["a", "b"] (spOp K 2)) (G_over : FnOk P w K mg base CX0 2 T.over.f T.over.fd ["a", "b"] (spOp K 3))
  (G_law_value : FnOk P w K mg base CX0 1 T.law_value.f T.law_value.fd ["deed", "one", "two"] spValue)
  (G_law_lowest : FnOk P w K mg base CX0 2 T.law_lowest.f T.law_lowest.fd ["value"] spLowest)
  (G_law_is : FnOk P w K mg base CX0 2 T.law_is.f T.law_is.fd ["told", "due"] spIs)
def spTold (K : PySem.W.Frag) : Sp := fun vs H Q _ => ∃ d a b x y m n, vs = [.int d, .ref a, .ref b] ∧ SqT K H a (two x) ∧ SqT K H b (two y) ∧ Fr m x ∧ Fr n y ∧ m + n ≤ 19 ∧ good d y ∧ ∀ t, H t = none → Q (.ref t) (upd H t (.tup (two (low (opv d x y)))))
include G_plus G_minus G_times G_over in
theorem ok_law_told : FnOk P w K mg base CX0 3 T.law_told.f T.law_told.fd ["deed", "a", "b"] (spTold K) := by
  refine T.law_told.F.ok sc_law_told (fun vs H Q E h => ?_) (fun cdv A outer s H vs Q E hr h => ?_)
  · obtain ⟨_, _, _, _, _, _, _, rfl, _⟩ := h
    rfl
  · obtain ⟨d, a, b, x, y, m, n, rfl, ha, hb, fx, fy, hmn, hg, k⟩ := h
    refine ⟨_, (pss_cons (ps_if (pt_cmpR op_eq (pv 0) pe_int (nomark _))
      (pss_one (ps_ret (pcall T.plus G_plus hr (pa_cons (pv 1) (pa_cons (pv 2) pa_nil)))))
      pss_nil)
      (pss_cons (ps_if (pt_cmpR op_eq (pv 0) pe_int (nomark _))
      (pss_one (ps_ret (pcall T.minus G_minus hr (pa_cons (pv 1) (pa_cons (pv 2) pa_nil)))))
      pss_nil)
      (pss_cons (ps_if (pt_cmpR op_eq (pv 0) pe_int (nomark _))
      (pss_one (ps_ret (pcall T.times G_times hr (pa_cons (pv 1) (pa_cons (pv 2) pa_nil)))))
      pss_nil)
      (pss_one (ps_ret (pcall T.over G_over hr (pa_cons (pv 1) (pa_cons (pv 2) pa_nil)))))))), ?_⟩
    walk_at "rd"
    refine ifd (fun h0 => ?_) (fun h0 => ?_)
    · subst h0
      walk_at "rd"
      exact ⟨a, b, x, y, m, n, rfl, ha, hb, fx, fy, hmn, hg, k⟩
    · walk_at "rd"
      refine ifd (fun h1 => ?_) (fun h1 => ?_)
      · subst h1
        walk_at "rd"
        exact ⟨a, b, x, y, m, n, rfl, ha, hb, fx, fy, hmn, hg, k⟩
      · walk_at "rd"
        refine ifd (fun h2 => ?_) (fun h2 => ?_)
        · subst h2
          walk_at "rd"
          exact ⟨a, b, x, y, m, n, rfl, ha, hb, fx, fy, hmn, hg, k⟩
        · have h3 : d = 3 := by
            rcases hg with q | q | q | q
            · exact absurd q h0
            · exact absurd q h1
            · exact absurd q h2
            · exact q.1
          subst h3
          walk_at "rd"
          exact ⟨a, b, x, y, m, n, rfl, ha, hb, fx, fy, hmn, hg, k⟩
/-- a thing: the fraction as reckoned, its lowest terms twice -/
def RTh : Rp (Int × Int) := fun G v x => ∃ a p q r, v = .ref a ∧ G a = some (.lst [.ref p, .ref q, .ref r]) ∧ G p = some (.lst (two x)) ∧ G q = some (.tup (two (low x))) ∧ G r = some (.tup (two (low x)))
theorem mTh : Mono RTh := fun G G' v x e ⟨a, p, q, r, h0, h1, h2, h3, h4⟩ => ⟨a, p, q, r, h0, e _ _ h1, e _ _ h2, e _ _ h3, e _ _ h4⟩
def spStep : Sp := fun vs H Q _ => ∃ G d v u x y m n, vs = [.int d, v, u] ∧ Same G H ∧ RTh G v x ∧ RTh G u y ∧ Fr m x ∧ Fr n y ∧ m + n ≤ 19 ∧ 0 ≤ d ∧ d ≤ 3 ∧ ∀ G' H' r, Ext M0 G H G' H' → RTh G' r (step d x y) → Q r H'
theorem good_step {d : Int} {y : Int × Int} (h0 : 0 ≤ d) (h3 : d ≤ 3) : good (if d = 3 ∧ y.1 = 0 then 2 else d) y := by
  unfold good
  split
  · exact .inr (.inr (.inl rfl))
  · omega
theorem good_low {d : Int} {m : Nat} {y : Int × Int} (h : good d y) (hf : Fr m y) : good d (low y) := by
  rcases h with q | q | q | ⟨q, z⟩
  · exact .inl q
  · exact .inr (.inl q)
  · exact .inr (.inr (.inl q))
  · refine .inr (.inr (.inr ⟨q, fun c => z ?_⟩))
    rw [(low_mul y hf.2.2.2).1, c, Int.mul_zero]
include G_plus G_minus G_times G_over in
theorem dummy : True := trivial
variable (G_law_told : FnOk P w K mg base CX0 3 T.law_told.f T.law_told.fd ["deed", "a", "b"] (spTold K))
include G_law_value G_law_lowest G_law_is G_law_told in
theorem ok_law_step : FnOk P w K mg base CX0 4 T.law_step.f T.law_step.fd ["deed", "one", "two"] spStep := by
  refine T.law_step.F.ok sc_law_step (fun vs H Q E h => ?_) (fun cdv A outer s H vs Q E hr h => ?_)
  · obtain ⟨_, _, _, _, _, _, _, _, rfl, _⟩ := h
    rfl
  · obtain ⟨G, d, v, u, x, y, m, n, rfl, hG, ⟨a, p, q, r, rfl, h1, h2, h3, h4⟩, ⟨a', p', q', r', rfl, h1', h2', h3', h4'⟩, fx, fy, hmn, d0, d3, k⟩ := h
    refine ⟨_, (pss_cons (ps_set (i := 3) sc_law_step.nd rfl (Or.inl rfl) (pv 0))
      (C8.pss_cut (ps_if (PW.pt (pw_and (pt_cmpR op_eq (pv 0) pe_int (nomark _)) (pw_and1 (pt_cmpR op_eq (pe_ix ix_list (pe_ix ix_list (pv 2) pe_int (fun _ _ => rfl)) pe_int (fun _ _ => rfl)) pe_int (nomark _)))))
      (pss_one (ps_set (i := 3) sc_law_step.nd rfl (Or.inl rfl) pe_int))
      pss_nil)
      (pss_cons (ps_set (i := 4) sc_law_step.nd rfl (Or.inl rfl) (pcall T.law_value G_law_value hr (pa_cons (pv 3) (pa_cons (pe_ix ix_list (pv 1) pe_int (fun _ _ => rfl)) (pa_cons (pe_ix ix_list (pv 2) pe_int (fun _ _ => rfl)) pa_nil)))))
      (pss_cons (ps_set (i := 5) sc_law_step.nd rfl (Or.inl rfl) (pcall T.law_lowest G_law_lowest hr (pa_cons (pv 4) pa_nil)))
      (pss_cons (ps_set (i := 6) sc_law_step.nd rfl (Or.inl rfl) (pcall T.law_told G_law_told hr (pa_cons (pv 3) (pa_cons (pe_ix ix_list (pv 1) pe_int (fun _ _ => rfl)) (pa_cons (pe_ix ix_list (pv 2) pe_int (fun _ _ => rfl)) pa_nil)))))
      (pss_cons (ps_if (pt_not (pt_val (pcall T.law_is G_law_is hr (pa_cons (pv 6) (pa_cons (pv 5) pa_nil)))))
      (pss_one (ps_ret pe_non))
      pss_nil)
      (pss_one (ps_ret (pe_lst (pa_cons (pv 4) (pa_cons (pv 5) (pa_cons (pv 6) pa_nil)))))))))))), ?_⟩
    have gd := good_step (y := y) d0 d3
    walk_at "rd"
    refine rd_cut (fun σ' H' => H' = H ∧ σ' = [some (.int d), some (.ref a), some (.ref a'), some (.int (if d = 3 ∧ y.1 = 0 then 2 else d)), none, none, none]) ?_ ?_
    · walk_at "rd"
      refine ifd (fun z1 => ?_) (fun z1 => ?_)
      · walk_at "rd"
        refine ifd (fun z2 => ?_) (fun z2 => ?_)
        · walk_at "rd"
          rw [if_pos ⟨z1, z2⟩]
          exact ⟨rfl, rfl⟩
        · walk_at "rd"
          rw [if_neg fun z => z2 z.2]
          exact ⟨rfl, rfl⟩
      · walk_at "rd"
        rw [if_neg fun z => z1 z.1]
        exact ⟨rfl, rfl⟩
    · rintro σ' H' ⟨rfl, rfl⟩
      have es : step d x y = opv (if d = 3 ∧ y.1 = 0 then 2 else d) x y := rfl
      rw [es] at k
      generalize (if d = 3 ∧ y.1 = 0 then 2 else d) = dn at *
      have fo := fr_opv fx fy gd
      have e0 : Ext M0 G H' G H' := Ext.refl hG
      walk_at "rd"
      refine ⟨dn, p, p', x, y, m, n, rfl, hG _ _ h2, hG _ _ h2', fx, fy, hmn, gd, fun t ht => ?_⟩
      obtain ⟨G1, e1, s1, g1⟩ := e0.np (.lst (two (opv dn x y))) ht
      generalize upd _ _ _ = H1 at e1 ⊢
      replace h1 := s1 _ _ h1; replace h4 := s1 _ _ h4; replace h1' := s1 _ _ h1'; replace h4' := s1 _ _ h4'
      have hG1 := e1.gh
      walk_at "rd"
      refine ⟨t, _, _, rfl, e1.gh _ _ g1, fo, hmn, fun t2 ht2 => ?_⟩
      obtain ⟨G2, e2, s2, g2⟩ := e1.np (.tup (two (low (opv dn x y)))) ht2
      generalize upd _ _ _ = H2 at e2 ⊢
      replace h1 := s2 _ _ h1; replace h4 := s2 _ _ h4; replace h1' := s2 _ _ h1'; replace h4' := s2 _ _ h4'; replace g1 := s2 _ _ g1
      have hG2 := e2.gh
      walk_at "rd"
      refine ⟨dn, r, r', low x, low y, m, n, rfl, SqT.of (hG2 _ _ h4), SqT.of (hG2 _ _ h4'), fr_low fx, fr_low fy, hmn, good_low gd fy, fun t3 ht3 => ?_⟩
      have el := low_opv fx.2.2.2 fy.2.2.2 gd
      rw [el]
      obtain ⟨G3, e3, s3, g3⟩ := e2.np (.tup (two (low (opv dn x y)))) ht3
      generalize upd _ _ _ = H3 at e3 ⊢
      replace g1 := s3 _ _ g1; replace g2 := s3 _ _ g2
      walk_at "rd"
      refine ⟨t3, t2, _, rfl, e3.gh _ _ g3, e3.gh _ _ g2, ?_⟩
      walk_at "rd"
      intro t4 ht4
      obtain ⟨G4, e4, s4, g4⟩ := e3.np (.lst [.ref t, .ref t2, .ref t3]) ht4
      exact k G4 _ _ e4 ⟨t4, t, t2, t3, rfl, g4, s4 _ _ g1, s4 _ _ g2, s4 _ _ g3⟩
end
end
end K40
set_option Elab.async false
set_option linter.all false
set_option maxRecDepth 100000
set_option maxHeartbeats 4000000
namespace K40
open PySem L2 Ar M40
section
variable {P : Program} {w : World} {K : PySem.W.Frag} {mg : Str → Option Value} {base : Heap}
def spLess : Sp := fun vs H Q _ => ∃ v u x y m n, vs = [v, u] ∧ RTh H v x ∧ RTh H u y ∧ Fr m x ∧ Fr n y ∧ m ≤ 19 ∧ n ≤ 19 ∧ Q (.bl (decide (cr (low x) (low y) < 0))) H
theorem ok_law_less (T : Txt K mg) : FnOk P w K mg base CX0 1 T.law_less.f T.law_less.fd ["one", "two"] spLess := by
  refine T.law_less.F.ok sc_law_less (fun vs H Q E h => ?_) (fun cdv A outer s H vs Q E hr h => ?_)
  · obtain ⟨_, _, _, _, _, _, rfl, _⟩ := h
    rfl
  · obtain ⟨v, u, x, y, m, n, rfl, ⟨a, p, q, r, rfl, h1, h2, h3, h4⟩, ⟨a', p', q', r', rfl, h1', h2', h3', h4'⟩, fx, fy, hm, hn, k⟩ := h
    refine ⟨_, (pss_one (ps_ret (pe_cmpR op_lt (pe_op op_mulW (pe_ix ix_tup (pe_ix ix_list (pv 0) pe_int (fun _ _ => rfl)) pe_int (fun _ _ => rfl)) (pe_ix ix_tup (pe_ix ix_list (pv 1) pe_int (fun _ _ => rfl)) pe_int (fun _ _ => rfl))) (pe_op op_mulW (pe_ix ix_tup (pe_ix ix_list (pv 1) pe_int (fun _ _ => rfl)) pe_int (fun _ _ => rfl)) (pe_ix ix_tup (pe_ix ix_list (pv 0) pe_int (fun _ _ => rfl)) pe_int (fun _ _ => rfl))) (nomark _)))), ?_⟩
    obtain ⟨sx1, sx2⟩ := fr_sz (fr_low fx) hm
    obtain ⟨sy1, sy2⟩ := fr_sz (fr_low fy) hn
    rw [← cr_dec] at k
    walk_at "rd"
    · exact k
    all_goals exact cm (by assumption) (by assumption)
theorem fr_step {m n : Nat} {d : Int} {x y : Int × Int} (hx : Fr m x) (hy : Fr n y) (h0 : 0 ≤ d) (h3 : d ≤ 3) : Fr (m + n) (M40.step d x y) := fr_opv hx hy (good_step h0 h3)
theorem step_0 {x y : Int × Int}  : M40.step 0 x y = opv 0 x y := by unfold M40.step; rw [if_neg (by omega)]
theorem step_2 {x y : Int × Int} : M40.step 2 x y = opv 2 x y := by unfold M40.step; rw [if_neg (by omega)]
theorem over_back {m n : Nat} {x y : Int × Int} (fx : Fr m x) (fy : Fr n y) (h : y.1 ≠ 0) : low (opv 3 (low (opv 2 x y)) (low y)) = low x := by
  have f2 := fr_opv fx fy (.inr (.inr (.inl rfl)))
  have g3 : (3 : Int) = 0 ∨ (3 : Int) = 1 ∨ (3 : Int) = 2 ∨ ((3 : Int) = 3 ∧ y.1 ≠ 0) := .inr (.inr (.inr ⟨rfl, h⟩))
  rw [low_opv f2.2.2.2 fy.2.2.2 g3]
  have hk := Int.mul_ne_zero h fy.2.2.2
  refine low_cross hk fx.2.2.2 ?_ ?_ <;> simp [opv] <;> grind
theorem minus_self {m : Nat} {x : Int × Int} (fx : Fr m x) : low (opv 1 (low x) (low x)) = (0, 1) := by
  rw [low_opv fx.2.2.2 fx.2.2.2 (.inr (.inl rfl))]
  have e : opv 1 x x = (0, x.2 * x.2) := by
    show (x.1 * x.2 - x.1 * x.2, x.2 * x.2) = _
    rw [Int.sub_self]
  rw [e]
  exact low_zero (Int.mul_ne_zero fx.2.2.2 fx.2.2.2)
section
variable (T : Txt K mg)
  (G_minus : FnOk P w K mg base CX0 2 T.minus.f T.minus.fd ["a", "b"] (spOp K 1)) (G_over : FnOk P w K mg base CX0 2 T.over.f T.over.fd ["a", "b"] (spOp K 3))
  (G_below : FnOk P w K mg base CX0 1 T.below.f T.below.fd ["a", "b"] (spBelow K))
  (G_law_is : FnOk P w K mg base CX0 2 T.law_is.f T.law_is.fd ["told", "due"] spIs) (G_law_says : FnOk P w K mg base CX0 1 T.law_says.f T.law_says.fd ["told", "due"] spSays)
  (G_law_less : FnOk P w K mg base CX0 1 T.law_less.f T.law_less.fd ["one", "two"] spLess)
  (G_law_step : FnOk P w K mg base CX0 4 T.law_step.f T.law_step.fd ["deed", "one", "two"] spStep)
def spRules : Sp := fun vs H Q _ => ∃ G v u t x y z m n l, vs = [v, u, t] ∧ Same G H ∧ RTh G v x ∧ RTh G u y ∧ RTh G t z ∧ Fr m x ∧ Fr n y ∧ Fr l z ∧ 2 * m + n + l ≤ 19 ∧ m + 2 * n ≤ 19 ∧ ∀ G' H', Ext M0 G H G' H' → Q (.bl true) H'
include G_minus G_over G_law_is G_law_step in
theorem ok_law_rules : FnOk P w K mg base CX0 5 T.law_rules.f T.law_rules.fd ["a", "b", "c"] spRules := by
  refine T.law_rules.F.ok sc_law_rules (fun vs H Q E h => ?_) (fun cdv A outer s H vs Q E hr h => ?_)
  · obtain ⟨_, _, _, _, _, _, _, _, _, _, rfl, _⟩ := h
    rfl
  · obtain ⟨G, v, u, t, x, y, z, m, n, l, rfl, hG, hx, hy, hz, fx, fy, fz, hmn, hn, k⟩ := h
    have hx' := hx
    have hy' := hy
    obtain ⟨a, p, q, r, rfl, h1, h2, h3, h4⟩ := hx'
    obtain ⟨b, p', q', r', rfl, h1', h2', h3', h4'⟩ := hy'
    refine ⟨_, (pss_cons (ps_if (pt_not (pt_val (pcall T.law_is G_law_is hr (pa_cons (pcall T.minus G_minus hr (pa_cons (pe_ix ix_list (pv 0) pe_int (fun _ _ => rfl)) (pa_cons (pe_ix ix_list (pv 0) pe_int (fun _ _ => rfl)) pa_nil))) (pa_cons (pe_tup (pa_cons pe_int (pa_cons pe_int pa_nil))) pa_nil)))))
      (pss_one (ps_ret pe_bl))
      pss_nil)
      (pss_cons (ps_set (i := 3) sc_law_rules.nd rfl (Or.inl rfl) (pcall T.law_step G_law_step hr (pa_cons pe_int (pa_cons (pv 0) (pa_cons (pv 1) pa_nil)))))
      (pss_cons (ps_set (i := 4) sc_law_rules.nd rfl (Or.inl rfl) (pcall T.law_step G_law_step hr (pa_cons pe_int (pa_cons (pv 0) (pa_cons (pv 2) pa_nil)))))
      (pss_cons (ps_set (i := 5) sc_law_rules.nd rfl (Or.inl rfl) (pcall T.law_step G_law_step hr (pa_cons pe_int (pa_cons (pv 1) (pa_cons (pv 2) pa_nil)))))
      (pss_cons (ps_if (PW.pt (pw_or (pt_cmpR op_isN (pv 3) pe_non (nomark _)) (pw_or (pt_cmpR op_isN (pv 4) pe_non (nomark _)) (pw_or1 (pt_cmpR op_isN (pv 5) pe_non (nomark _))))))
      (pss_one (ps_ret pe_bl))
      pss_nil)
      (C8.pss_cut (ps_if (PW.pt (pw_and (pt_cmpR op_ne (pe_ix ix_list (pe_ix ix_list (pv 1) pe_int (fun _ _ => rfl)) pe_int (fun _ _ => rfl)) pe_int (nomark _)) (pw_and1 (pt_not (pt_val (pcall T.law_is G_law_is hr (pa_cons (pcall T.over G_over hr (pa_cons (pe_ix ix_list (pv 3) pe_int (fun _ _ => rfl)) (pa_cons (pe_ix ix_list (pv 1) pe_int (fun _ _ => rfl)) pa_nil))) (pa_cons (pe_ix ix_list (pv 0) pe_int (fun _ _ => rfl)) pa_nil))))))))
      (pss_one (ps_ret pe_bl))
      pss_nil)
      (pss_one (ps_ret (pe_and (pe_cmpR op_notN (pcall T.law_step G_law_step hr (pa_cons pe_int (pa_cons (pv 0) (pa_cons (pv 5) pa_nil)))) pe_non (nomark _)) (pe_one (pe_cmpR op_notN (pcall T.law_step G_law_step hr (pa_cons pe_int (pa_cons (pv 3) (pa_cons (pv 4) pa_nil)))) pe_non (nomark _)))))))))))), ?_⟩
    have m1 := fx.1
    have n1 := fy.1
    have l1 := fz.1
    have e0 : Ext M0 G H G H := Ext.refl hG
    walk_at "rd"
    refine ⟨r, r, low x, low x, m, m, rfl, SqT.of (hG _ _ h4), SqT.of (hG _ _ h4), fr_low fx, fr_low fx, by omega, .inr (.inl rfl), fun t1 ht1 => ?_⟩
    rw [minus_self fx]
    obtain ⟨G1, e1, s1, g1⟩ := e0.np (.tup (two (0, 1))) ht1
    generalize upd _ _ _ = H1 at e1 ⊢
    have t1 := e1.gh
    walk_at "rd"
    intro p2 hp2
    obtain ⟨G2, e2, s2, g2⟩ := e1.np (.tup (two (0, 1))) hp2
    generalize upd _ _ _ = H2 at e2 ⊢
    have t2 := e2.gh
    walk_at "rd"
    refine ⟨_, _, (0, 1), rfl, t2 _ _ (s2 _ _ g1), t2 _ _ g2, ?_⟩
    walk_at "rd"
    have mx := mTh _ _ _ _ s2 (mTh _ _ _ _ s1 hx)
    have my := mTh _ _ _ _ s2 (mTh _ _ _ _ s1 hy)
    have mz := mTh _ _ _ _ s2 (mTh _ _ _ _ s1 hz)
    refine ⟨G2, 2, _, _, x, y, m, n, rfl, t2, mx, my, fx, fy, by omega, by decide, by decide, fun G3 H3 c1 e3 hxy => ?_⟩
    have t3 := e3.gh
    have s3 := e3.gg
    replace e3 := e2.call0 e3
    walk_at "rd"
    refine ⟨G3, 2, _, _, x, z, m, l, rfl, t3, mTh _ _ _ _ s3 mx, mTh _ _ _ _ s3 mz, fx, fz, by omega, by decide, by decide, fun G4 H4 c2 e4 hxz => ?_⟩
    have t4 := e4.gh
    have s4 := e4.gg
    replace e4 := e3.call0 e4
    walk_at "rd"
    refine ⟨G4, 0, _, _, y, z, n, l, rfl, t4, mTh _ _ _ _ s4 (mTh _ _ _ _ s3 my), mTh _ _ _ _ s4 (mTh _ _ _ _ s3 mz), fy, fz, by omega, by decide, by decide, fun G5 H5 c3 e5 hyz => ?_⟩
    have t5 := e5.gh
    have s5 := e5.gg
    replace e5 := e4.call0 e5
    replace hxy := mTh _ _ _ _ s5 (mTh _ _ _ _ s4 hxy)
    replace hxz := mTh _ _ _ _ s5 hxz
    have hxy' := hxy
    obtain ⟨a1, p1, q1, r1, rfl, j1, j2, j3, j4⟩ := hxy'
    have hxz' := hxz
    obtain ⟨a2, _, _, _, rfl, _⟩ := hxz'
    have hyz' := hyz
    obtain ⟨a3, _, _, _, rfl, _⟩ := hyz'
    walk_at "rd"
    have fxy := fr_step (d := 2) fx fy (by decide) (by decide)
    have fxz := fr_step (d := 2) fx fz (by decide) (by decide)
    have fyz := fr_step (d := 0) fy fz (by decide) (by decide)
    refine rd_cut (fun σ' H' => σ' = [some (.ref a), some (.ref b), some t, some (.ref a1), some (.ref a2), some (.ref a3)] ∧ ∃ G6, Ext M0 G H G6 H' ∧ Same G5 G6) ?_ ?_
    · walk_at "rd"
      refine ifnd (fun hne => ?_) (fun hne => ?_)
      · walk_at "rd"
        refine ⟨r1, r', low (M40.step 2 x y), low y, m + n, n, rfl, SqT.of (t5 _ _ j4), SqT.of (by walk_at "rdlst"), fr_low fxy, fr_low fy, by omega, good_low (.inr (.inr (.inr ⟨rfl, hne⟩))) fy, fun p6 hp6 => ?_⟩
        rw [step_2, over_back fx fy hne]
        obtain ⟨G6, e6, s6, g6⟩ := e5.np (.tup (two (low x))) hp6
        generalize upd _ _ _ = H6 at e6 ⊢
        have t6 := e6.gh
        walk_at "rd"
        refine ⟨_, _, low x, rfl, t6 _ _ g6, by walk_at "rdlst", ?_⟩
        walk_at "rd"
        exact ⟨rfl, G6, e6, s6⟩
      · walk_at "rd"
        exact ⟨rfl, G5, e5, Same.refl _⟩
    · rintro σ' H6 ⟨rfl, G6, e6, s6⟩
      have t6 := e6.gh
      walk_at "rd"
      refine ⟨G6, 2, _, _, x, _, m, n + l, rfl, t6, mTh _ _ _ _ s6 (mTh _ _ _ _ s5 (mTh _ _ _ _ s4 (mTh _ _ _ _ s3 mx))), mTh _ _ _ _ s6 hyz, fx, fyz, by omega, by decide, by decide, fun G7 H7 c4 e7 hu => ?_⟩
      have t7 := e7.gh
      have s7 := e7.gg
      replace e7 := e6.call0 e7
      obtain ⟨a7, _, _, _, rfl, _⟩ := hu
      walk_at "rd"
      refine ⟨G7, 0, _, _, _, _, m + n, m + l, rfl, t7, mTh _ _ _ _ s7 (mTh _ _ _ _ s6 hxy), mTh _ _ _ _ s7 (mTh _ _ _ _ s6 hxz), fxy, fxz, by omega, by decide, by decide, fun G8 H8 c5 e8 hw => ?_⟩
      obtain ⟨a8, _, _, _, rfl, _⟩ := hw
      walk_at "rd"
      exact k G8 H8 (e7.call0 e8)
end
end
end K40
set_option Elab.async false
set_option linter.all false
set_option maxRecDepth 100000
set_option maxHeartbeats 4000000
namespace K40
open PySem L2 Ar M40
section
variable {P : Program} {w : World} {K : PySem.W.Frag} {mg : Str → Option Value} {base : Heap}
section
variable (T : Txt K mg)
  (G_below : FnOk P w K mg base CX0 1 T.below.f T.below.fd ["a", "b"] (spBelow K))
  (G_law_says : FnOk P w K mg base CX0 1 T.law_says.f T.law_says.fd ["told", "due"] spSays)
  (G_law_less : FnOk P w K mg base CX0 1 T.law_less.f T.law_less.fd ["one", "two"] spLess)
  (G_law_step : FnOk P w K mg base CX0 4 T.law_step.f T.law_step.fd ["deed", "one", "two"] spStep)
def RZ : Rp (Nat × (Int × Int)) := fun G v z => RTh G v z.2 ∧ Fr z.1 z.2
theorem mZ : Mono RZ := fun G G' v z e h => ⟨mTh _ _ _ _ e h.1, h.2⟩
def spOrdered : Sp := fun vs H Q _ => ∃ a us zs, vs = [.ref a] ∧ H a = some (.lst us) ∧ Paired (RZ H) us zs ∧ (∀ z ∈ zs, z.1 ≤ 19) ∧ Q (.bl true) H
include G_below G_law_says G_law_less in
theorem ok_law_ordered : FnOk P w K mg base CX0 2 T.law_ordered.f T.law_ordered.fd ["things"] spOrdered := by
  refine T.law_ordered.F.ok sc_law_ordered (fun vs H Q E h => ?_) (fun cdv A outer s H vs Q E hr h => ?_)
  · obtain ⟨_, _, _, rfl, _⟩ := h
    rfl
  · obtain ⟨a, us, zs, rfl, ha, hz, hm, k⟩ := h
    refine ⟨_, (pss_cons (ps_for PassesOwn.never rfl (pi_list (pv 0)) (pg_name (i := 1) sc_law_ordered.nd rfl (Or.inl rfl))
      (pss_one (ps_for PassesOwn.never rfl (pi_list (pv 0)) (pg_name (i := 2) sc_law_ordered.nd rfl (Or.inl rfl))
        (pss_one (ps_if (pt_not (pt_val (pcall T.law_says G_law_says hr (pa_cons (pcall T.below G_below hr (pa_cons (pe_ix ix_list (pv 1) pe_int (fun _ _ => rfl)) (pa_cons (pe_ix ix_list (pv 2) pe_int (fun _ _ => rfl)) pa_nil))) (pa_cons (pcall T.law_less G_law_less hr (pa_cons (pv 1) (pa_cons (pv 2) pa_nil))) pa_nil)))))
          (pss_one (ps_ret pe_bl))
          pss_nil)))))
      (pss_one (ps_ret pe_bl))), ?_⟩
    walk_at "rd"
    refine ⟨⟨_, SqL.of ha⟩, ?_⟩
    refine for_list (K := K) (xs := us) (fun i σ' H' => H' = H ∧ ∃ z1 z2, σ' = [some (.ref a), z1, z2]) ⟨rfl, _, _, rfl⟩ ?_ ?_ ?_
    · rintro i σ' H' _ ⟨rfl, _⟩
      exact SqL.of ha
    · rintro i u σ' H' hi ⟨rfl, z1, z2, rfl⟩
      obtain ⟨z, hzi, ⟨hx, fx⟩⟩ := pGet hz hi
      have hx' := hx
      obtain ⟨b, p, q, r, rfl, h1, h2, h3, h4⟩ := hx'
      walk_at "rd"
      refine ⟨⟨_, SqL.of ha⟩, ?_⟩
      refine for_list (K := K) (xs := us) (fun j σ' H'' => H'' = H' ∧ ∃ z2, σ' = [some (.ref a), some (.ref b), z2]) ⟨rfl, _, rfl⟩ ?_ ?_ ?_
      · rintro j σ' H'' _ ⟨rfl, _⟩
        exact SqL.of ha
      · rintro j u' σ' H'' hj ⟨rfl, z2, rfl⟩
        obtain ⟨y, hyj, ⟨hy, fy⟩⟩ := pGet hz hj
        have hy' := hy
        obtain ⟨b', p', q', r', rfl, h1', h2', h3', h4'⟩ := hy'
        have m1 := hm _ (List.mem_of_getElem? hzi)
        have m2 := hm _ (List.mem_of_getElem? hyj)
        walk_at "rd"
        refine ⟨r, r', low z.2, low y.2, _, _, rfl, SqT.of h4, SqT.of h4', fr_low fx, fr_low fy, m1, m2, ?_⟩
        walk_at "rd"
        refine ⟨_, _, z.2, y.2, _, _, rfl, hx, hy, fx, fy, m1, m2, ?_⟩
        walk_at "rd"
        refine ⟨_, rfl, ?_⟩
        walk_at "rd"
        exact ⟨rfl, _, rfl⟩
      · rintro σ' H'' ⟨rfl, z2, rfl⟩
        exact ⟨rfl, _, _, rfl⟩
    · rintro σ' H' ⟨rfl, z1, z2, rfl⟩
      walk_at "rd"
      exact k
def spCarried : Sp := fun vs H Q _ => ∃ G v1 v2 v3 v4 x y z n m1 m2 m3 m4, vs = [v1, v2, v3, v4] ∧ Same G H ∧ RTh G v1 x ∧ RTh G v2 y ∧ RTh G v3 z ∧ RTh G v4 n ∧ Fr m1 x ∧ Fr m2 y ∧ Fr m3 z ∧ Fr m4 n ∧
  m1 + m3 ≤ 19 ∧ m3 + m2 ≤ 19 ∧ m1 + m4 ≤ 19 ∧ m4 + m2 ≤ 19 ∧ n.1 < 0 ∧ 0 < n.2 ∧ ∀ G' H', Ext M0 G H G' H' → Q (.bl true) H'
include G_below G_law_says G_law_less G_law_step in
theorem ok_law_carried : FnOk P w K mg base CX0 5 T.law_carried.f T.law_carried.fd ["a", "b", "c", "negative"] spCarried := by
  refine T.law_carried.F.ok sc_law_carried (fun vs H Q E h => ?_) (fun cdv A outer s H vs Q E hr h => ?_)
  · obtain ⟨_, _, _, _, _, _, _, _, _, _, _, _, _, rfl, _⟩ := h
    rfl
  · obtain ⟨G, v1, v2, v3, v4, x, y, z, n, m1, m2, m3, m4, rfl, hG, hx, hy, hz, hn, fx, fy, fz, fn, b13, b32, b14, b42, n1, n2, k⟩ := h
    refine ⟨_, (pss_cons (ps_set (i := 4) sc_law_carried.nd rfl (Or.inl rfl) (pcall T.law_step G_law_step hr (pa_cons pe_int (pa_cons (pv 0) (pa_cons (pv 2) pa_nil)))))
      (pss_cons (ps_set (i := 5) sc_law_carried.nd rfl (Or.inl rfl) (pcall T.law_step G_law_step hr (pa_cons pe_int (pa_cons (pv 2) (pa_cons (pv 1) pa_nil)))))
      (pss_cons (ps_set (i := 6) sc_law_carried.nd rfl (Or.inl rfl) (pcall T.law_step G_law_step hr (pa_cons pe_int (pa_cons (pv 0) (pa_cons (pv 3) pa_nil)))))
      (pss_cons (ps_set (i := 7) sc_law_carried.nd rfl (Or.inl rfl) (pcall T.law_step G_law_step hr (pa_cons pe_int (pa_cons (pv 3) (pa_cons (pv 1) pa_nil)))))
      (pss_cons (ps_if (PW.pt (pw_or (pt_cmpR op_isN (pv 4) pe_non (nomark _)) (pw_or (pt_cmpR op_isN (pv 5) pe_non (nomark _)) (pw_or (pt_cmpR op_isN (pv 6) pe_non (nomark _)) (pw_or1 (pt_cmpR op_isN (pv 7) pe_non (nomark _)))))))
      (pss_one (ps_ret pe_bl))
      pss_nil)
      (pss_cons (ps_for PassesOwn.never rfl (pi_list (pe_lst (pa_cons (pe_tup (pa_cons (pv 0) (pa_cons (pv 1) (pa_cons (pv 4) (pa_cons (pv 5) (pa_cons (pv 6) (pa_cons (pv 7) pa_nil))))))) (pa_cons (pe_tup (pa_cons (pv 1) (pa_cons (pv 0) (pa_cons (pv 5) (pa_cons (pv 4) (pa_cons (pv 7) (pa_cons (pv 6) pa_nil))))))) pa_nil)))) (pg_name (i := 8) sc_law_carried.nd rfl (Or.inl rfl))
      (pss_cons (ps_set (i := 9) sc_law_carried.nd rfl (Or.inl rfl) (pcall T.law_less G_law_less hr (pa_cons (pe_ix ix_tup (pv 8) pe_int (fun _ _ => rfl)) (pa_cons (pe_ix ix_tup (pv 8) pe_int (fun _ _ => rfl)) pa_nil))))
        (pss_one (ps_if (PW.pt (pw_or (pt_not (pt_val (pcall T.law_says G_law_says hr (pa_cons (pcall T.below G_below hr (pa_cons (pe_ix ix_list (pe_ix ix_tup (pv 8) pe_int (fun _ _ => rfl)) pe_int (fun _ _ => rfl)) (pa_cons (pe_ix ix_list (pe_ix ix_tup (pv 8) pe_int (fun _ _ => rfl)) pe_int (fun _ _ => rfl)) pa_nil))) (pa_cons (pv 9) pa_nil))))) (pw_or1 (pt_not (pt_val (pcall T.law_says G_law_says hr (pa_cons (pcall T.below G_below hr (pa_cons (pe_ix ix_list (pe_ix ix_tup (pv 8) pe_int (fun _ _ => rfl)) pe_int (fun _ _ => rfl)) (pa_cons (pe_ix ix_list (pe_ix ix_tup (pv 8) pe_int (fun _ _ => rfl)) pe_int (fun _ _ => rfl)) pa_nil))) (pa_cons (pv 9) pa_nil))))))))
        (pss_one (ps_ret pe_bl))
        pss_nil))))
      (pss_one (ps_ret pe_bl)))))))), ?_⟩
    have e0 : Ext M0 G H G H := Ext.refl hG
    walk_at "rd"
    refine ⟨G, 0, _, _, x, z, m1, m3, rfl, hG, hx, hz, fx, fz, b13, by decide, by decide, fun G1 H1 c1 e1 hf => ?_⟩
    have t1 := e1.gh
    have s1 := e1.gg
    replace e1 := e0.call0 e1
    walk_at "rd"
    refine ⟨G1, 0, _, _, z, y, m3, m2, rfl, t1, mTh _ _ _ _ s1 hz, mTh _ _ _ _ s1 hy, fz, fy, b32, by decide, by decide, fun G2 H2 c2 e2 hs => ?_⟩
    have t2 := e2.gh
    have s2 := s1.trans e2.gg
    replace hf := mTh _ _ _ _ e2.gg hf
    replace e2 := e1.call0 e2
    walk_at "rd"
    refine ⟨G2, 2, _, _, x, n, m1, m4, rfl, t2, mTh _ _ _ _ s2 hx, mTh _ _ _ _ s2 hn, fx, fn, b14, by decide, by decide, fun G3 H3 c3 e3 ht => ?_⟩
    have t3 := e3.gh
    have s3 := s2.trans e3.gg
    replace hf := mTh _ _ _ _ e3.gg hf
    replace hs := mTh _ _ _ _ e3.gg hs
    replace e3 := e2.call0 e3
    walk_at "rd"
    refine ⟨G3, 2, _, _, n, y, m4, m2, rfl, t3, mTh _ _ _ _ s3 hn, mTh _ _ _ _ s3 hy, fn, fy, b42, by decide, by decide, fun G4 H4 c4 e4 hu => ?_⟩
    have t4 := e4.gh
    have s4 := s3.trans e4.gg
    replace hf := mTh _ _ _ _ e4.gg hf
    replace hs := mTh _ _ _ _ e4.gg hs
    replace ht := mTh _ _ _ _ e4.gg ht
    replace e4 := e3.call0 e4
    replace hx := mTh _ _ _ _ s4 hx
    replace hy := mTh _ _ _ _ s4 hy
    have ff := fr_step (d := 0) fx fz (by decide) (by decide)
    have fs := fr_step (d := 0) fz fy (by decide) (by decide)
    have ft := fr_step (d := 2) fx fn (by decide) (by decide)
    have fu := fr_step (d := 2) fn fy (by decide) (by decide)
    rw [step_0] at hf hs ff fs
    rw [step_2] at ht hu ft fu
    have ca := carried_add fx.2.2.2 fy.2.2.2 fz.2.2.2
    have cm := carried_mul fx.2.2.2 fy.2.2.2 n1 n2
    clear hz hn e0 t1 t2 t3 s1 s2 s3 e1 e2 e3
    obtain ⟨a1, p1, q1, r1, rfl, i1, i2, i3, i4⟩ := id hf
    obtain ⟨a2, p2, q2, r2, rfl, j1, j2, j3, j4⟩ := id hs
    obtain ⟨a3, p3, q3, r3, rfl, k1, k2, k3, k4⟩ := id ht
    obtain ⟨a4, p4, q4, r4, rfl, l1, l2, l3, l4⟩ := id hu
    walk_at "rd"
    intro u1 hu1
    obtain ⟨e5, s5, g5⟩ := e4.nw (.tup [v1, v2, .ref a1, .ref a2, .ref a3, .ref a4]) hu1
    generalize upd _ _ _ = H5 at e5 s5 g5 ⊢
    walk_at "rd"
    intro u2 hu2
    obtain ⟨e6, s6, g6⟩ := e5.nw (.tup [v2, v1, .ref a2, .ref a1, .ref a4, .ref a3]) hu2
    generalize upd _ _ _ = H6 at e6 s6 g6 ⊢
    walk_at "rd"
    intro u3 hu3
    obtain ⟨e7, s7, g7⟩ := e6.nw (.lst [.ref u1, .ref u2]) hu3
    generalize upd _ _ _ = H7 at e7 s7 g7 ⊢
    have t7 := e7.gh
    replace g5 := s7 _ _ (s6 _ _ g5)
    replace g6 := s7 _ _ g6
    clear s5 s6 s7 e5 e6 e4 t4
    have dd : ∀ {A B : Prop} [Decidable A] [Decidable B], (A ↔ B) → [V.bl (decide A), V.bl (decide B)] = [V.bl (decide B), V.bl (decide B)] := fun h => by rw [decide_eq_decide.mpr h]
    walk_at "rd"
    refine ⟨⟨_, SqL.of g7⟩, ?_⟩
    refine for_list (K := K) (xs := [.ref u1, .ref u2]) (fun i σ' H' => H' = H7 ∧ ∃ z1 z2, σ' = [some v1, some v2, some v3, some v4, some (.ref a1), some (.ref a2), some (.ref a3), some (.ref a4), z1, z2]) ⟨rfl, _, _, rfl⟩ ?_ ?_ ?_
    · rintro i σ' H' _ ⟨rfl, _⟩
      exact SqL.of g7
    · rintro i u σ' H' hi ⟨rfl, z1, z2, rfl⟩
      rcases i with _ | _ | i
      · obtain rfl : V.ref u1 = u := Option.some.inj hi
        walk_at "rd"
        refine ⟨_, _, x, y, _, _, rfl, mTh _ _ _ _ t7 hx, mTh _ _ _ _ t7 hy, fx, fy, by omega, by omega, ?_⟩
        walk_at "rd"
        refine ⟨_, _, _, _, _, _, rfl, SqT.of (t7 _ _ i4), SqT.of (t7 _ _ j4), fr_low ff, fr_low fs, b13, b32, ?_⟩
        walk_at "rd"
        refine ⟨_, dd ca.1, ?_⟩
        walk_at "rd"
        refine ⟨_, _, _, _, _, _, rfl, SqT.of (t7 _ _ l4), SqT.of (t7 _ _ k4), fr_low fu, fr_low ft, b42, b14, ?_⟩
        walk_at "rd"
        refine ⟨_, dd cm.1, ?_⟩
        walk_at "rd"
        exact ⟨rfl, _, _, rfl⟩
      · obtain rfl : V.ref u2 = u := Option.some.inj hi
        walk_at "rd"
        refine ⟨_, _, y, x, _, _, rfl, mTh _ _ _ _ t7 hy, mTh _ _ _ _ t7 hx, fy, fx, by omega, by omega, ?_⟩
        walk_at "rd"
        refine ⟨_, _, _, _, _, _, rfl, SqT.of (t7 _ _ j4), SqT.of (t7 _ _ i4), fr_low fs, fr_low ff, b32, b13, ?_⟩
        walk_at "rd"
        refine ⟨_, dd ca.2, ?_⟩
        walk_at "rd"
        refine ⟨_, _, _, _, _, _, rfl, SqT.of (t7 _ _ k4), SqT.of (t7 _ _ l4), fr_low ft, fr_low fu, b14, b42, ?_⟩
        walk_at "rd"
        refine ⟨_, dd cm.2, ?_⟩
        walk_at "rd"
        exact ⟨rfl, _, _, rfl⟩
      · simp at hi
    · rintro σ' H' ⟨rfl, z1, z2, rfl⟩
      walk_at "rd"
      exact k _ _ e7
end
end
end K40
set_option Elab.async false
set_option linter.all false
set_option maxRecDepth 100000
set_option maxHeartbeats 4000000
namespace K40
open PySem L2 Ar M40
section
variable {P : Program} {w : World} {K : PySem.W.Frag} {mg : Str → Option Value} {base : Heap}
abbrev RD3 : Rp (Int × Int × Int) := RT3 RI RI RI
theorem mD3 : Mono RD3 := mT3 mI mI mI
def Deeds (n : Nat) (ds : List (Int × Int × Int)) : Prop := ds.length + 1 = n ∧ ∀ (k : Nat) (d p t : Int), ds[k]? = some (d, p, t) → 0 ≤ d ∧ d ≤ 3 ∧ 0 ≤ p ∧ p + (k : Int) + 1 < n
def spRow : Sp := fun vs H Q _ => ∃ G a b us ws zs ds, vs = [.ref a, .ref b] ∧ Same G H ∧ H a = some (.lst us) ∧ Paired (RZ G) us zs ∧ (∀ z ∈ zs, z.1 = 1) ∧ zs.length ≤ 6 ∧ G b = some (.lst ws) ∧ Paired (RD3 G) ws ds ∧ Deeds zs.length ds ∧
  ∀ G' H' r z, Ext M0 G H G' H' → RZ G' r z → z.1 ≤ 6 → Q r H'
theorem cut_to {xs : List V} {p : Nat} (h : p ≤ xs.length) : cutV xs none (some (p : Int)) = xs.take p := by
  unfold cutV
  rw [show HT.sIx xs.length xs.length (some (p : Int)) = min p xs.length from HT.sIx_nat _ _ _, HT.sIx_none, Nat.min_eq_left h]
  simp
theorem cut_from {xs : List V} {p : Nat} (h : p ≤ xs.length) : cutV xs (some (p : Int)) none = xs.drop p := by
  unfold cutV
  rw [show HT.sIx xs.length 0 (some (p : Int)) = min p xs.length from HT.sIx_nat _ _ _, HT.sIx_none, Nat.min_eq_left h]
  exact List.take_of_length_le (by rw [List.length_drop]; omega)
theorem split2 {α : Type} {zs : List α} {p : Nat} {x y : α} (h1 : zs[p]? = some x) (h2 : zs[p + 1]? = some y) : zs = zs.take p ++ x :: y :: zs.drop (p + 2) := by
  obtain ⟨l1, e1⟩ := List.getElem?_eq_some_iff.mp h1
  obtain ⟨l2, e2⟩ := List.getElem?_eq_some_iff.mp h2
  conv => lhs; rw [← List.take_append_drop p zs, List.drop_eq_getElem_cons l1, List.drop_eq_getElem_cons l2, e1, e2]
section
variable (T : Txt K mg) (G_law_step : FnOk P w K mg base CX0 4 T.law_step.f T.law_step.fd ["deed", "one", "two"] spStep)
include G_law_step in
theorem ok_law_row : FnOk P w K mg base CX0 5 T.law_row.f T.law_row.fd ["things", "deeds"] spRow := by
  refine T.law_row.F.ok sc_law_row (fun vs H Q E h => ?_) (fun cdv A outer s H vs Q E hr h => ?_)
  · obtain ⟨_, _, _, _, _, _, _, rfl, _⟩ := h
    rfl
  · obtain ⟨G, a, b, us, ws, zs0, ds, rfl, hG, ha, hus, h1, h6, hb, hws, ⟨hd1, hd2⟩, k⟩ := h
    refine ⟨_, (pss_cons (ps_set (i := 2) sc_law_row.nd rfl (Or.inl rfl) (pe_callTy call_list_of (by rfl) T.z_list (by decide +kernel) (pa_cons (pv 0) pa_nil)))
      (pss_cons (ps_for PassesOwn.never rfl (pi_list (pv 1)) (pg_tup rfl (pgs_cons (pg_name (i := 3) sc_law_row.nd rfl (Or.inl rfl)) (pgs_cons (pg_name (i := 4) sc_law_row.nd rfl (Or.inl rfl)) (pgs_cons (pg_name (i := 5) sc_law_row.nd rfl (Or.inl rfl)) pgs_nil))))
      (C8.pss_cut (ps_if (pt_cmpR op_eq (pv 5) pe_int (nomark _))
        (pss_one (ps_set (i := 6) sc_law_row.nd rfl (Or.inl rfl) (pcall T.law_step G_law_step hr (pa_cons (pv 3) (pa_cons (pe_ix ix_list (pv 2) (pe_op op_add (pv 4) pe_int) (fun _ _ => rfl)) (pa_cons (pe_ix ix_list (pv 2) (pv 4) (fun _ _ => rfl)) pa_nil))))))
        (pss_one (ps_set (i := 6) sc_law_row.nd rfl (Or.inl rfl) (pcall T.law_step G_law_step hr (pa_cons (pv 3) (pa_cons (pe_ix ix_list (pv 2) (pv 4) (fun _ _ => rfl)) (pa_cons (pe_ix ix_list (pv 2) (pe_op op_add (pv 4) pe_int) (fun _ _ => rfl)) pa_nil)))))))
        (pss_cons (ps_if (pt_cmpR op_isN (pv 6) pe_non (nomark _))
        (pss_one (ps_ret pe_non))
        pss_nil)
        (pss_one (ps_set (i := 2) sc_law_row.nd rfl (Or.inl rfl) (pe_op op_cat (pe_op op_cat (pe_slice sl_list (pv 2) po_none (po_some (pv 4))) (pe_lst (pa_cons (pv 6) pa_nil))) (pe_slice sl_list (pv 2) (po_some (pe_op op_add (pv 4) pe_int)) po_none)))))))
      (pss_one (ps_ret (pe_ix ix_list (pv 2) pe_int (fun _ _ => rfl)))))), ?_⟩
    have e0 : Ext M0 G H G H := Ext.refl hG
    have hsum : (zs0.map (·.1)).sum = zs0.length := by
      clear hus hd1 hd2 h6
      induction zs0 with
      | nil => rfl
      | cons z r ih =>
        have e := h1 z (List.mem_cons_self ..)
        rw [List.map_cons, List.sum_cons, ih (fun z hz => h1 z (List.mem_cons_of_mem _ hz)), e, List.length_cons]
        omega
    walk_at "rd"
    intro f hf
    obtain ⟨e1, s1, g1⟩ := e0.nw (.lst us) hf
    generalize upd _ _ _ = H1 at e1 s1 g1 ⊢
    walk_at "rd"
    refine ⟨⟨_, SqL.of (e1.gh _ _ hb)⟩, ?_⟩
    refine for_list (K := K) (xs := ws) (fun i σ' H' => ∃ G1 f vs zs z3 z4 z5 z6, σ' = [some (.ref a), some (.ref b), some (.ref f), z3, z4, z5, z6] ∧ Ext M0 G H G1 H' ∧ H' f = some (.lst vs) ∧ Paired (RZ G1) vs zs ∧ zs.length + i = zs0.length ∧ (zs.map (·.1)).sum = zs0.length)
      ⟨G, f, us, zs0, none, none, none, none, rfl, e1, g1, hus, rfl, hsum⟩ ?_ ?_ ?_
    · rintro i σ' H' _ ⟨G1, f, vs, zs, z3, z4, z5, z6, rfl, e, _⟩
      exact SqL.of (e.gh _ _ (e.gg _ _ hb))
    · rintro i u σ' H' hi ⟨G1, f, vs, zs, z3, z4, z5, z6, rfl, e, hf, hz, hl, hs⟩
      obtain ⟨⟨d, p, t⟩, hdi, hu⟩ := pGet hws hi
      obtain ⟨d0, d3, p0, pn⟩ := hd2 i d p t hdi
      obtain ⟨q, _, _, _, rfl, hq, rfl, rfl, rfl⟩ := mD3 _ _ _ _ e.gg hu
      obtain ⟨j, rfl⟩ := Int.eq_ofNat_of_zero_le p0
      have il : i < ws.length := (List.getElem?_eq_some_iff.mp hi).1
      have wl := hws.length
      have lv := hz.length
      have j1 : j + 1 < zs.length := by have : (j : Int) + i + 1 < zs0.length := pn; omega
      obtain ⟨v1, a1, ⟨r1, f1⟩⟩ := pGet' hz (List.getElem?_eq_getElem (show j < zs.length by omega))
      obtain ⟨v2, a2, ⟨r2, f2⟩⟩ := pGet' hz (List.getElem?_eq_getElem j1)
      have sp := split2 (List.getElem?_eq_getElem (show j < zs.length by omega)) (List.getElem?_eq_getElem j1)
      generalize zs[j] = x at *
      generalize zs[j + 1] = y at *
      have hs' : ((zs.take j).map (·.1)).sum + (x.1 + (y.1 + ((zs.drop (j + 2)).map (·.1)).sum)) = zs0.length := by
        rw [← hs]
        conv => rhs; rw [sp]
        rw [List.map_append, List.sum_append, List.map_cons, List.sum_cons, List.map_cons, List.sum_cons]
      have b1 : atI vs (j : Int) = some v1 := atI_nat a1
      have b2 : atI vs ((j : Int) + 1) = some v2 := atI_nat (j := j + 1) a2
      have t1 := e.gh
      have c1 : ∀ z : V, (if True then z else z) = z := fun z => if_pos trivial
      walk_at "rd"
      refine rd_cut (fun σ2 H2 => ∃ G2 r y', σ2 = [some (.ref a), some (.ref b), some (.ref f), some (.int d), some (.int (j : Int)), some (.int t), some (.ref r)] ∧ Ext M0 G1 H' G2 H2 ∧ RTh G2 (.ref r) y' ∧ Fr (x.1 + y.1) y') ?_ ?_
      · walk_at "rd"
        refine ifd (fun ht => ?_) (fun ht => ?_)
        · walk_at "rd"
          refine ⟨G1, d, _, _, y.2, x.2, _, _, rfl, t1, r2, r1, f2, f1, by omega, d0, d3, fun G2 H2 r e2 hr2 => ?_⟩
          have fs := fr_step f2 f1 d0 d3
          rw [Nat.add_comm] at fs
          obtain ⟨rr, _, _, _, rfl, _⟩ := id hr2
          walk_at "rd"
          exact ⟨G2, rr, _, rfl, e2, hr2, fs⟩
        · walk_at "rd"
          refine ⟨G1, d, _, _, x.2, y.2, _, _, rfl, t1, r1, r2, f1, f2, by omega, d0, d3, fun G2 H2 r e2 hr2 => ?_⟩
          obtain ⟨rr, _, _, _, rfl, _⟩ := id hr2
          walk_at "rd"
          exact ⟨G2, rr, _, rfl, e2, hr2, fr_step f1 f2 d0 d3⟩
      · rintro σ2 H2 ⟨G2, r, y', rfl, e2, hr2, fr2⟩
        have hf2 : H2 f = some (.lst vs) := e2.keep0 hf
        have hz2 := pMono mZ e2.gg hz
        replace e2 := e.call0 e2
        walk_at "rd"
        rw [cut_to (show j ≤ vs.length by omega)]
        intro p3 hp3
        obtain ⟨e3, s3, g3⟩ := e2.nw (.lst (vs.take j)) hp3
        generalize upd _ _ _ = H3 at e3 s3 g3 ⊢
        walk_at "rd"
        intro p4 hp4
        obtain ⟨e4, s4, g4⟩ := e3.nw (.lst [.ref r]) hp4
        generalize upd _ _ _ = H4 at e4 s4 g4 ⊢
        have lz : (vs.take j).length + [V.ref r].length ≤ sizeLine := Evl.sz_of (by rw [List.length_take]; show min j vs.length + 1 ≤ 100000; omega)
        walk_at "rd"
        intro p5 hp5
        obtain ⟨e5, s5, g5⟩ := e4.nw (.lst (vs.take j ++ [.ref r])) hp5
        generalize upd _ _ _ = H5 at e5 s5 g5 ⊢
        walk_at "rd"
        rw [show (j : Int) + 2 = ((j + 2 : Nat) : Int) by omega, cut_from (show j + 2 ≤ vs.length by omega)]
        intro p6 hp6
        obtain ⟨e6, s6, g6⟩ := e5.nw (.lst (vs.drop (j + 2))) hp6
        generalize upd _ _ _ = H6 at e6 s6 g6 ⊢
        have lz2 : (vs.take j ++ [V.ref r]).length + (vs.drop (j + 2)).length ≤ sizeLine := Evl.sz_of (by rw [List.length_append, List.length_take, List.length_drop]; show min j vs.length + 1 + _ ≤ 100000; omega)
        walk_at "rd"
        intro p7 hp7
        obtain ⟨e7, s7, g7⟩ := e6.nw (.lst ((vs.take j ++ [.ref r]) ++ vs.drop (j + 2))) hp7
        generalize upd _ _ _ = H7 at e7 s7 g7 ⊢
        walk_at "rd"
        refine ⟨G2, p7, _, (zs.take j ++ [(x.1 + y.1, y')]) ++ zs.drop (j + 2), _, _, _, _, rfl, e7, g7, pApp (Paired.snoc (pTake j hz2) ⟨hr2, fr2⟩) (pDrop (j + 2) hz2), ?_, ?_⟩
        · rw [List.length_append, List.length_append, List.length_take, List.length_drop]
          show min j zs.length + 1 + (zs.length - (j + 2)) + (i + 1) = zs0.length
          omega
        · rw [List.map_append, List.sum_append, List.map_append, List.sum_append, ← hs']
          simp
          omega
    · rintro σ' H' ⟨G1, f, vs, zs, z3, z4, z5, z6, rfl, e, hf, hz, hl, hs⟩
      have wl := hws.length
      have lv := hz.length
      have l1 : zs.length = 1 := by omega
      obtain ⟨z, rfl⟩ : ∃ z, zs = [z] := List.length_eq_one_iff.mp l1
      cases hz with
      | cons hv hn =>
        cases hn
        walk_at "rd"
        refine k G1 H' _ z e hv ?_
        simp at hs
        omega
end
end
end K40
set_option Elab.async false
set_option linter.all false
set_option maxRecDepth 100000
set_option maxHeartbeats 4000000
namespace K40
open PySem L2 Ar M40
section
variable {P : Program} {w : World} {K : PySem.W.Frag} {mg : Str → Option Value} {base : Heap}
abbrev RF : Rp (Int × Int) := RP2 RI RI
theorem mF : Mono RF := mP2 mI mI
theorem fneg {a b : Int} (h : Fr 1 (a, b)) : Fr 1 (0 - a, b) := by
  obtain ⟨h0, h1, h2, h3⟩ := h
  refine ⟨h0, ?_, h2, h3⟩
  have e : (0 - a).natAbs = a.natAbs := by omega
  show (0 - a).natAbs < _
  rw [e]
  exact h1
theorem fneg2 {a b : Int} (h : Fr 1 (a, b)) : Fr 1 (a, 0 - b) := by
  obtain ⟨h0, h1, h2, h3⟩ := h
  refine ⟨h0, h1, ?_, ?_⟩
  · have e : (0 - b).natAbs = b.natAbs := by omega
    show (0 - b).natAbs < _
    rw [e]
    exact h2
  · show 0 - b ≠ 0
    have h3' : b ≠ 0 := h3
    omega
theorem frac_push {G H G1 H5 : Hp} {s f p : Addr} {us : List V} {xs : List (Int × Int)} {i : Nat} {y : Int × Int} (e5 : Ext (M1 s) G H G1 H5) (hf0 : H f = none) (hfl5 : H5 f = some (.lst us)) (gf1 : G1 f = none) (hst5 : St3 H5 s) (hp1 : Paired (RF G1) us xs) (nfs : f ≠ s)
    (hl : xs.length = i + 1) (hfr : ∀ x ∈ xs, Fr 1 x) (hp : H5 p = none) (fy : Fr 1 y) :
    ∃ G2 xs', Ext (M1 s) G H G2 (upd (upd H5 p (.lst (two y))) f (.lst (us ++ [.ref p]))) ∧ St3 (upd (upd H5 p (.lst (two y))) f (.lst (us ++ [.ref p]))) s ∧ upd (upd H5 p (.lst (two y))) f (.lst (us ++ [.ref p])) f = some (.lst (us ++ [.ref p])) ∧ G2 f = none ∧
      Paired (RF G2) (us ++ [.ref p]) xs' ∧ xs'.length = i + 1 + 1 ∧ ∀ x ∈ xs', Fr 1 x := by
  obtain ⟨q1, q2, q3, q4⟩ := e5.push (R := RF) (x := y) (o := .lst (two y)) mF hf0 hfl5 gf1 hp hp1 ⟨p, _, _, rfl, upd_same, rfl, rfl⟩
  refine ⟨_, xs ++ [y], q1, ?_, q2, q3, q4, by rw [List.length_append, hl]; rfl, fun z hz => ?_⟩
  · obtain ⟨a, b, c, es⟩ := hst5
    exact ⟨a, b, c, by rw [upd_ne nfs.symm, upd_ne (ne_of_none es hp)]; exact es⟩
  · rcases List.mem_append.mp hz with z1 | z1
    · exact hfr z z1
    · simp at z1; subst z1; exact fy
section
variable (T : Txt K mg) (G_law_next : FnOk P w K mg base CX0 1 T.law_next.f T.law_next.fd ["state", "size"] spNext)
  (G_law_fraction : FnOk P w K mg base CX0 3 T.law_fraction.f T.law_fraction.fd ["state", "most"] spFraction)
def spFractions : Sp := fun vs H Q _ => ∃ G s many most, vs = [.ref s, .int many, .int most] ∧ Same G H ∧ G s = none ∧ St3 H s ∧ 2 ≤ many ∧ many ≤ 6 ∧ (most = 12 ∨ most = 40) ∧
  ∀ G' H' r us xs, Ext (M1 s) G H G' H' → G' r = some (.lst us) → Paired (RF G') us xs → (xs.length : Int) = many → (∀ x ∈ xs, Fr 1 x) → Q (.ref r) H'
include G_law_next G_law_fraction in
theorem ok_law_fractions : FnOk P w K mg base CX0 4 T.law_fractions.f T.law_fractions.fd ["state", "many", "most"] spFractions := by
  refine T.law_fractions.F.ok sc_law_fractions (fun vs H Q E h => ?_) (fun cdv A outer s H vs Q E hr h => ?_)
  · obtain ⟨_, _, _, _, rfl, _⟩ := h
    rfl
  · obtain ⟨G, s, many, most, rfl, hG, gs, hs, h2, h6, hm, k⟩ := h
    refine ⟨_, (pss_cons (ps_set (i := 3) sc_law_fractions.nd rfl (Or.inl rfl) (pe_lst (pa_cons (pcall T.law_fraction G_law_fraction hr (pa_cons (pv 0) (pa_cons (pv 2) pa_nil))) pa_nil)))
      (pss_cons (ps_for PassesOwn.never rfl (pi_range1 rfl T.z_range (pa_cons (pe_op op_sub (pv 1) pe_int) pa_nil)) (pg_name (i := 4) sc_law_fractions.nd rfl (Or.inl rfl))
      (pss_cons (ps_set (i := 5) sc_law_fractions.nd rfl (Or.inl rfl) (pcall T.law_next G_law_next hr (pa_cons (pv 0) (pa_cons pe_int pa_nil))))
        (pss_cons (ps_set (i := 6) sc_law_fractions.nd rfl (Or.inl rfl) (pe_ix ix_list (pv 3) (pcall T.law_next G_law_next hr (pa_cons (pv 0) (pa_cons (pe_callB call_len_seq (by rfl) T.z_len (by decide +kernel) (pa_cons (pv 3) pa_nil)) pa_nil))) (fun _ _ => rfl)))
        (pss_one (ps_if (pt_cmpR op_eq (pv 5) pe_int (nomark _))
        (pss_one (ps_expr (pe_bm PySem.F.plainAttrs_list PySem.F.slot_list_append PySem.F.type_list_append mt_append (pv 3) (pa_cons (pe_lst (pa_cons (pe_op op_sub pe_int (pe_ix ix_list (pv 6) pe_int (fun _ _ => rfl))) (pa_cons (pe_op op_sub pe_int (pe_ix ix_list (pv 6) pe_int (fun _ _ => rfl))) pa_nil))) pa_nil))))
        (pss_one (ps_if (pt_cmpR op_eq (pv 5) pe_int (nomark _))
          (pss_one (ps_expr (pe_bm PySem.F.plainAttrs_list PySem.F.slot_list_append PySem.F.type_list_append mt_append (pv 3) (pa_cons (pe_lst (pa_cons (pe_op op_sub pe_int (pe_ix ix_list (pv 6) pe_int (fun _ _ => rfl))) (pa_cons (pe_ix ix_list (pv 6) pe_int (fun _ _ => rfl)) pa_nil))) pa_nil))))
          (pss_one (ps_if (PW.pt (pw_and (pt_cmpR op_eq (pv 5) pe_int (nomark _)) (pw_and1 (pt_cmpR op_ne (pe_ix ix_list (pv 6) pe_int (fun _ _ => rfl)) pe_int (nomark _)))))
            (pss_one (ps_expr (pe_bm PySem.F.plainAttrs_list PySem.F.slot_list_append PySem.F.type_list_append mt_append (pv 3) (pa_cons (pe_lst (pa_cons (pe_ix ix_list (pv 6) pe_int (fun _ _ => rfl)) (pa_cons (pe_ix ix_list (pv 6) pe_int (fun _ _ => rfl)) pa_nil))) pa_nil))))
            (pss_one (ps_expr (pe_bm PySem.F.plainAttrs_list PySem.F.slot_list_append PySem.F.type_list_append mt_append (pv 3) (pa_cons (pcall T.law_fraction G_law_fraction hr (pa_cons (pv 0) (pa_cons (pv 2) pa_nil))) pa_nil)))))))))))))
      (pss_one (ps_ret (pv 3))))), ?_⟩
    have hs0 : H s ≠ none := by obtain ⟨_, _, _, e⟩ := hs; rw [e]; exact fun z => nomatch z
    have e0 : Ext (M1 s) G H G H := Ext.refl hG
    walk_at "rd"
    refine ⟨s, most, rfl, hs, hm, fun p t u a b c hf hp => ?_⟩
    have e1 := e0.st (o := st3 a b c) gs hs0 hs0
    have st1 : St3 (upd H s (st3 a b c)) s := .upd
    generalize upd H s (st3 a b c) = H1 at *
    obtain ⟨G2, e2, s2, g2⟩ := e1.np (.lst [.int t, .int u]) hp
    have st2 : St3 (upd H1 p (.lst [.int t, .int u])) s := by
      obtain ⟨a, b, c, e⟩ := st1
      exact ⟨a, b, c, by rw [upd_ne (ne_of_none e hp)]; exact e⟩
    generalize upd H1 p _ = H2 at *
    walk_at "rd"
    intro f hf2
    obtain ⟨e3, s3, g3⟩ := e2.nw (.lst [.ref p]) hf2
    have st3' : St3 (upd H2 f (.lst [.ref p])) s := by
      obtain ⟨a, b, c, e⟩ := st2
      exact ⟨a, b, c, by rw [upd_ne (ne_of_none e hf2)]; exact e⟩
    have hf0 : H f = none := e2.lv f hf2
    have gf : G2 f = none := e2.none1 hf2
    have nfs : f ≠ s := fun q => by subst q; exact hs0 hf0
    generalize upd H2 f _ = H3 at *
    walk_at "rd"
    refine ⟨by omega, by omega, for_range (n := (many - 1).toNat) (fun i σ' H' => ∃ G1 us xs z3 z4 z5, σ' = [some (.ref s), some (.int many), some (.int most), some (.ref f), z3, z4, z5] ∧ Ext (M1 s) G H G1 H' ∧ St3 H' s ∧ H' f = some (.lst us) ∧ G1 f = none ∧ Paired (RF G1) us xs ∧ xs.length = i + 1 ∧ ∀ x ∈ xs, Fr 1 x)
      ⟨G2, _, [(t, u)], none, none, none, rfl, e3, st3', g3, gf, .cons ⟨p, _, _, rfl, g2, rfl, rfl⟩ .nil, rfl, fun x hx => by simp at hx; subst hx; exact hf⟩ ?_ ?_⟩
    · rintro i σ' H' hi ⟨G1, us, xs, z3, z4, z5, rfl, e, hst, hfl, gf1, hp1, hl, hfr⟩
      have hs1 : H' s ≠ none := by obtain ⟨_, _, _, q⟩ := hst; rw [q]; exact fun z => nomatch z
      walk_at "rd"
      refine ⟨s, 6, rfl, hst, by omega, by omega, fun kd a b c k0 k1 => ?_⟩
      have e4 := e.st (o := st3 a b c) gs hs0 hs1
      have hfl4 : upd H' s (st3 a b c) f = some (.lst us) := by rw [upd_ne nfs]; exact hfl
      have hst4 : St3 (upd H' s (st3 a b c)) s := .upd
      generalize upd H' s (st3 a b c) = H4 at *
      walk_at "rd"
      have ul := hp1.length
      refine ⟨s, _, rfl, hst4, by omega, by omega, fun r a b c r0 r1 => ?_⟩
      have hs4 : H4 s ≠ none := by obtain ⟨_, _, _, q⟩ := hst4; rw [q]; exact fun z => nomatch z
      have e5 := e4.st (o := st3 a b c) gs hs0 hs4
      have hfl5 : upd H4 s (st3 a b c) f = some (.lst us) := by rw [upd_ne nfs]; exact hfl4
      have hst5 : St3 (upd H4 s (st3 a b c)) s := .upd
      generalize upd H4 s (st3 a b c) = H5 at *
      clear e4 hst4 hfl4 hs4 e hst hfl hs1
      obtain ⟨j, rfl⟩ := Int.eq_ofNat_of_zero_le r0
      have jl : j < us.length := by omega
      obtain ⟨x, hx, ⟨q, _, _, hv, gq, rfl, rfl⟩⟩ := pGet hp1 (List.getElem?_eq_getElem jl)
      have fx := hfr x (List.mem_of_getElem? hx)
      have ha : atI us (j : Int) = some (.ref q) := by rw [← hv]; exact atI_nat (List.getElem?_eq_getElem jl)
      have t5 := e5.gh
      have uz : us.length < sizeLine := Evl.sz_lt (by omega)
      walk_at "rd"
      refine ifd (fun c1 => ?_) (fun c1 => ?_)
      · walk_at "rd"
        intro p hp
        obtain ⟨G2, xs', b1, b2, b3, b4, b5, b6, b7⟩ := frac_push e5 hf0 hfl5 gf1 hst5 hp1 nfs hl hfr (y := (0 - x.1, 0 - x.2)) hp (fneg (fneg2 fx))
        have hfl6 : upd H5 p (.lst [.int (0 - x.1), .int (0 - x.2)]) f = some (.lst us) := by rw [upd_ne (ne_of_none hfl5 hp)]; exact hfl5
        walk_at "rd"
        exact ⟨G2, _, xs', _, _, _, rfl, b1, b2, b3, b4, b5, b6, b7⟩
      · walk_at "rd"
        refine ifd (fun c2 => ?_) (fun c2 => ?_)
        · walk_at "rd"
          intro p hp
          obtain ⟨G2, xs', b1, b2, b3, b4, b5, b6, b7⟩ := frac_push e5 hf0 hfl5 gf1 hst5 hp1 nfs hl hfr (y := (0 - x.1, x.2)) hp (fneg fx)
          have hfl6 : upd H5 p (.lst [.int (0 - x.1), .int x.2]) f = some (.lst us) := by rw [upd_ne (ne_of_none hfl5 hp)]; exact hfl5
          walk_at "rd"
          exact ⟨G2, _, xs', _, _, _, rfl, b1, b2, b3, b4, b5, b6, b7⟩
        · have last : ∀ D : Ends, (∀ G2 us' xs' z3 z4 z5 H', Ext (M1 s) G H G2 H' → St3 H' s → H' f = some (.lst us') → G2 f = none → Paired (RF G2) us' xs' → xs'.length = i + 1 + 1 → (∀ x ∈ xs', Fr 1 x) → D.nx [some (.ref s), some (.int many), some (.int most), some (.ref f), z3, z4, z5] H') →
              (tDrop (tBM K "list" rAppend (tVar 3) (tCons (tCall spFraction [] E0 (tCons (tVar 0) (tCons (tVar 2) tNil))) tNil))) D [some (.ref s), some (.int many), some (.int most), some (.ref f), some (.int (0 + (i : Int))), some (.int kd), some (.ref q)] H5 := by
            intro D kk
            walk_at "rd"
            refine ⟨s, most, rfl, hst5, hm, fun p t u a b c hf hp => ?_⟩
            have hs5 : H5 s ≠ none := by obtain ⟨_, _, _, q⟩ := hst5; rw [q]; exact fun z => nomatch z
            have e6 := e5.st (o := st3 a b c) gs hs0 hs5
            have hfl6 : upd H5 s (st3 a b c) f = some (.lst us) := by rw [upd_ne nfs]; exact hfl5
            obtain ⟨G2, xs', b1, b2, b3, b4, b5, b6, b7⟩ := frac_push e6 hf0 hfl6 gf1 .upd hp1 nfs hl hfr (y := (t, u)) hp hf
            have hfl7 : upd (upd H5 s (st3 a b c)) p (.lst [.int t, .int u]) f = some (.lst us) := by rw [upd_ne (ne_of_none hfl6 hp)]; exact hfl6
            walk_at "rd"
            exact kk G2 _ xs' _ _ _ _ b1 b2 b3 b4 b5 b6 b7
          walk_at "rd"
          refine ifd (fun c3 => ?_) (fun c3 => ?_)
          · walk_at "rd"
            refine ifnd (fun c4 => ?_) (fun c4 => ?_)
            · walk_at "rd"
              intro p hp
              obtain ⟨G2, xs', b1, b2, b3, b4, b5, b6, b7⟩ := frac_push e5 hf0 hfl5 gf1 hst5 hp1 nfs hl hfr (y := (x.2, x.1)) hp ⟨fx.1, fx.2.2.1, fx.2.1, c4⟩
              have hfl6 : upd H5 p (.lst [.int x.2, .int x.1]) f = some (.lst us) := by rw [upd_ne (ne_of_none hfl5 hp)]; exact hfl5
              walk_at "rd"
              exact ⟨G2, _, xs', _, _, _, rfl, b1, b2, b3, b4, b5, b6, b7⟩
            · refine last _ ?_
              intro G2 us' xs' z3 z4 z5 H' b1 b2 b3 b4 b5 b6 b7
              exact ⟨G2, us', xs', _, _, _, rfl, b1, b2, b3, b4, b5, b6, b7⟩
          · refine L2.iteF ?_
            refine last _ ?_
            intro G2 us' xs' z3 z4 z5 H' b1 b2 b3 b4 b5 b6 b7
            exact ⟨G2, us', xs', _, _, _, rfl, b1, b2, b3, b4, b5, b6, b7⟩
    · rintro σ' H' ⟨G1, us, xs, z3, z4, z5, rfl, e, hst, hfl, gf1, hp1, hl, hfr⟩
      walk_at "rd"
      have ep := e.pub hf0 hfl gf1
      refine k _ H' f us xs ep upd_same (pMono mF (same_new gf1) hp1) (by omega) hfr
end
end
end K40
set_option Elab.async false
set_option linter.all false
set_option maxRecDepth 100000
set_option maxHeartbeats 4000000
namespace K40
open PySem L2 Ar M40
section
variable {P : Program} {w : World} {K : PySem.W.Frag} {mg : Str → Option Value} {base : Heap}
section
variable (T : Txt K mg) (G_law_next : FnOk P w K mg base CX0 1 T.law_next.f T.law_next.fd ["state", "size"] spNext)
def spDeeds : Sp := fun vs H Q _ => ∃ G s many deed, vs = [.ref s, .int many, .int deed] ∧ Same G H ∧ G s = none ∧ St3 H s ∧ 2 ≤ many ∧ many ≤ 6 ∧ 0 ≤ deed ∧
  ∀ G' H' r us ds, Ext (M1 s) G H G' H' → St3 H' s → G' r = some (.lst us) → Paired (RD3 G') us ds → Deeds many.toNat ds → Q (.ref r) H'
include G_law_next in
theorem ok_law_deeds : FnOk P w K mg base CX0 2 T.law_deeds.f T.law_deeds.fd ["state", "many", "deed"] spDeeds := by
  refine T.law_deeds.F.ok sc_law_deeds (fun vs H Q E h => ?_) (fun cdv A outer s H vs Q E hr h => ?_)
  · obtain ⟨_, _, _, _, rfl, _⟩ := h
    rfl
  · obtain ⟨G, s, many, deed, rfl, hG, gs, hs, h2, h6, hd, k⟩ := h
    refine ⟨_, (pss_cons (ps_set (i := 3) sc_law_deeds.nd rfl (Or.inl rfl) (pe_lst pa_nil))
      (pss_cons (ps_for PassesOwn.never rfl (pi_range1 rfl T.z_range (pa_cons (pe_op op_sub (pv 1) pe_int) pa_nil)) (pg_name (i := 4) sc_law_deeds.nd rfl (Or.inl rfl))
      (pss_cons (ps_set (i := 5) sc_law_deeds.nd rfl (Or.inl rfl) (pcall T.law_next G_law_next hr (pa_cons (pv 0) (pa_cons (pe_op op_sub (pe_op op_sub (pv 1) pe_int) (pv 4)) pa_nil))))
        (pss_cons (ps_set (i := 6) sc_law_deeds.nd rfl (Or.inl rfl) (pcall T.law_next G_law_next hr (pa_cons (pv 0) (pa_cons pe_int pa_nil))))
        (pss_cons (ps_set (i := 7) sc_law_deeds.nd rfl (Or.inl rfl) (pcall T.law_next G_law_next hr (pa_cons (pv 0) (pa_cons pe_int pa_nil))))
        (C8.pss_cut (ps_if (pt_cmpR op_lt (pv 2) pe_int (nomark _))
        (pss_one (ps_set (i := 7) sc_law_deeds.nd rfl (Or.inl rfl) (pv 2)))
        pss_nil)
        (pss_one (ps_expr (pe_bm PySem.F.plainAttrs_list PySem.F.slot_list_append PySem.F.type_list_append mt_append (pv 3) (pa_cons (pe_tup (pa_cons (pv 7) (pa_cons (pv 5) (pa_cons (pv 6) pa_nil)))) pa_nil)))))))))
      (pss_one (ps_ret (pv 3))))), ?_⟩
    have hs0 : H s ≠ none := by obtain ⟨_, _, _, e⟩ := hs; rw [e]; exact fun z => nomatch z
    have e0 : Ext (M1 s) G H G H := Ext.refl hG
    walk_at "rd"
    intro f hf2
    obtain ⟨e3, s3, g3⟩ := e0.nw (.lst []) hf2
    have st3' : St3 (upd H f (.lst [])) s := by
      obtain ⟨a, b, c, e⟩ := hs
      exact ⟨a, b, c, by rw [upd_ne (ne_of_none e hf2)]; exact e⟩
    have hf0 : H f = none := hf2
    have gf : G f = none := e0.none1 hf2
    have nfs : f ≠ s := fun q => by subst q; exact hs0 hf0
    generalize upd H f _ = H3 at *
    walk_at "rd"
    refine ⟨by omega, by omega, for_range (n := (many - 1).toNat) (fun i σ' H' => ∃ G1 us xs z4 z5 z6 z7, σ' = [some (.ref s), some (.int many), some (.int deed), some (.ref f), z4, z5, z6, z7] ∧ Ext (M1 s) G H G1 H' ∧ St3 H' s ∧ H' f = some (.lst us) ∧ G1 f = none ∧ Paired (RD3 G1) us xs ∧ xs.length = i ∧
        ∀ (k : Nat) (d p t : Int), xs[k]? = some (d, p, t) → 0 ≤ d ∧ d ≤ 3 ∧ 0 ≤ p ∧ p + (k : Int) + 1 < many)
      ⟨G, _, [], none, none, none, none, rfl, e3, st3', g3, gf, .nil, rfl, fun k d p t hx => by simp at hx⟩ ?_ ?_⟩
    · rintro i σ' H' hi ⟨G1, us, xs, z4, z5, z6, z7, rfl, e, hst, hfl, gf1, hp1, hl, hfr⟩
      have hs1 : H' s ≠ none := by obtain ⟨_, _, _, q⟩ := hst; rw [q]; exact fun z => nomatch z
      walk_at "rd"
      refine ⟨s, _, rfl, hst, by omega, by omega, fun p a b c p0 p1 => ?_⟩
      have e4 := e.st (o := st3 a b c) gs hs0 hs1
      have hfl4 : upd H' s (st3 a b c) f = some (.lst us) := by rw [upd_ne nfs]; exact hfl
      have hst4 : St3 (upd H' s (st3 a b c)) s := .upd
      have hs4 : upd H' s (st3 a b c) s ≠ none := by rw [upd_same]; exact fun z => nomatch z
      generalize upd H' s (st3 a b c) = H4 at *
      walk_at "rd"
      refine ⟨s, 2, rfl, hst4, by omega, by omega, fun t a b c t0 t1 => ?_⟩
      replace e4 := e4.st (o := st3 a b c) gs hs0 hs4
      replace hfl4 : upd H4 s (st3 a b c) f = some (.lst us) := by rw [upd_ne nfs]; exact hfl4
      replace hst4 : St3 (upd H4 s (st3 a b c)) s := .upd
      replace hs4 : upd H4 s (st3 a b c) s ≠ none := by rw [upd_same]; exact fun z => nomatch z
      generalize upd H4 s (st3 a b c) = H5 at *
      walk_at "rd"
      refine ⟨s, 4, rfl, hst4, by omega, by omega, fun d a b c d0 d1 => ?_⟩
      replace e4 := e4.st (o := st3 a b c) gs hs0 hs4
      replace hfl4 : upd H5 s (st3 a b c) f = some (.lst us) := by rw [upd_ne nfs]; exact hfl4
      replace hst4 : St3 (upd H5 s (st3 a b c)) s := .upd
      replace hs4 : upd H5 s (st3 a b c) s ≠ none := by rw [upd_same]; exact fun z => nomatch z
      generalize upd H5 s (st3 a b c) = H6 at *
      clear e hst hfl hs1
      have ul := hp1.length
      have uz : us.length < sizeLine := Evl.sz_lt (by omega)
      walk_at "rd"
      refine rd_cut (fun σ2 H2 => H2 = H6 ∧ ∃ d', σ2 = [some (.ref s), some (.int many), some (.int deed), some (.ref f), some (.int (0 + (i : Int))), some (.int p), some (.int t), some (.int d')] ∧ 0 ≤ d' ∧ d' ≤ 3) ?_ ?_
      · walk_at "rd"
        refine ifd (fun c1 => ?_) (fun c1 => ?_)
        · walk_at "rd"
          exact ⟨rfl, _, rfl, by omega, by omega⟩
        · walk_at "rd"
          exact ⟨rfl, _, rfl, by omega, by omega⟩
      · rintro σ2 H2 ⟨rfl, d', rfl, d0', d1'⟩
        walk_at "rd"
        intro q hq
        obtain ⟨q1, q2, q3, q4⟩ := e4.push (R := RD3) (x := (d', p, t)) (o := .tup [.int d', .int p, .int t]) mD3 hf0 hfl4 gf1 hq hp1 ⟨q, _, _, _, rfl, upd_same, rfl, rfl, rfl⟩
        have hfl6 : upd H2 q (.tup [.int d', .int p, .int t]) f = some (.lst us) := by rw [upd_ne (ne_of_none hfl4 hq)]; exact hfl4
        walk_at "rd"
        refine ⟨_, _, xs ++ [(d', p, t)], _, _, _, _, rfl, q1, ?_, q2, q3, q4, by rw [List.length_append, hl]; rfl, fun k d p' t' hx => ?_⟩
        · obtain ⟨a, b, c, es⟩ := hst4
          exact ⟨a, b, c, by rw [upd_ne nfs.symm, upd_ne (ne_of_none es hq)]; exact es⟩
        · by_cases hk : k < xs.length
          · rw [List.getElem?_append_left hk] at hx
            exact hfr k d p' t' hx
          · rw [List.getElem?_append_right (by omega)] at hx
            by_cases hk2 : k = xs.length
            · subst hk2
              simp at hx
              obtain ⟨rfl, rfl, rfl⟩ := hx
              exact ⟨d0', d1', p0, by omega⟩
            · rw [List.getElem?_eq_none (by simp; omega)] at hx
              cases hx
    · rintro σ' H' ⟨G1, us, xs, z4, z5, z6, z7, rfl, e, hst, hfl, gf1, hp1, hl, hfr⟩
      walk_at "rd"
      have ep := e.pub hf0 hfl gf1
      refine k _ H' f us xs ep hst upd_same (pMono mD3 (same_new gf1) hp1) ⟨by omega, fun k d p t hx => ?_⟩
      have := hfr k d p t hx
      omega
end
end
end K40
set_option Elab.async false
set_option linter.all false
set_option maxRecDepth 100000
set_option maxHeartbeats 8000000
namespace K40
open PySem L2 Ar M40
section
variable {P : Program} {w : World} {K : PySem.W.Frag} {mg : Str → Option Value} {base : Heap}
abbrev RDs (n : Nat) : Rp (List (Int × Int × Int)) := fun G v ds => RL RD3 G v ds ∧ Deeds n ds
theorem mDs (n : Nat) : Mono (RDs n) := fun G G' v ds e h => ⟨mL mD3 _ _ _ _ e h.1, h.2⟩
theorem deeds_zero {n : Nat} {d : Int} (h2 : 2 ≤ n) (d0 : 0 ≤ d) (d3 : d ≤ 3) : Deeds n (List.replicate (n - 1) (d, 0, 0)) := by
  refine ⟨by rw [List.length_replicate]; omega, fun k d' p t hx => ?_⟩
  rw [List.getElem?_replicate] at hx
  split at hx
  · cases hx
    omega
  · cases hx
theorem lc_zero {σ : L2.St} {H G : Hp} {many d : Int} {Q : VK} (hG : Same G H) (h1 : 2 ≤ many) (h6 : many ≤ 6) (d0 : 0 ≤ d) (d3 : d ≤ 3) (h3 : σ[3]? = some (some (.int many)))
    (k : ∀ G' H' D, Ext M0 G H G' H' → RDs many.toNat G' (.ref D) (List.replicate (many.toNat - 1) (d, 0, 0)) → Q (.ref D) H') :
    tLc (iRng1 (tCons (tOp (rI0 fun i j => V.int (i - j)) (tVar 3) (tC (.int 1))) tNil)) (gName 6) tYes (tTup (tCons (tC (.int d)) (tCons (tC (.int 0)) (tCons (tC (.int 0)) tNil)))) [6] σ H Q := by
  refine rd_lcR ?_
  refine ⟨.int many, h3, many, 1, rfl, rfl, many - 1, rfl, by omega, by omega, fun D hD => ?_⟩
  refine lc_range (n := (many - 1).toNat) (fun i H' => ∃ G1 us, Ext M0 G H G1 H' ∧ H' D = some (.lst us) ∧ G1 D = none ∧ Paired (RD3 G1) us (List.replicate i (d, 0, 0))) ⟨G, [], (Ext.refl hG).new hD, upd_same, hG.free hD, .nil⟩ ?_ ?_
  · rintro i H' hi ⟨G1, us, e, hd, gd, hp⟩
    have hl := hp.length
    rw [List.length_replicate] at hl
    refine ⟨by simp [wipe], ?_⟩
    refine rd_yes ?_
    walk_at "rd"
    intro t ht
    obtain ⟨q1, q2, q3, q4⟩ := e.push (R := RD3) (x := (d, 0, 0)) (o := .tup [.int d, .int 0, .int 0]) mD3 hD hd gd ht hp ⟨t, _, _, _, rfl, upd_same, rfl, rfl, rfl⟩
    refine ⟨us, by rw [upd_ne (ne_of_none hd ht)]; exact hd, Evl.sz_lt (by omega), _, _, q1, q2, q3, ?_⟩
    rw [List.replicate_succ']
    exact q4
  · rintro H' ⟨G1, us, e, hd, gd, hp⟩
    have e1 : (many - 1).toNat = many.toNat - 1 := by omega
    rw [e1] at hp
    exact k _ _ D (e.pub hD hd gd) ⟨⟨D, us, rfl, upd_same, pMono mD3 (same_new gd) hp⟩, deeds_zero (by omega) d0 d3⟩
section
variable (T : Txt K mg)
  (G_ratio : FnOk P w K mg base CX0 1 T.ratio.f T.ratio.fd ["p", "q"] spRatio)
  (G_law_next : FnOk P w K mg base CX0 1 T.law_next.f T.law_next.fd ["state", "size"] spNext)
  (G_law_state : FnOk P w K mg base CX0 1 T.law_state.f T.law_state.fd ["script", "k"] (spState K))
  (G_law_lowest : FnOk P w K mg base CX0 2 T.law_lowest.f T.law_lowest.fd ["value"] spLowest)
  (G_law_is : FnOk P w K mg base CX0 2 T.law_is.f T.law_is.fd ["told", "due"] spIs)
  (G_law_fractions : FnOk P w K mg base CX0 4 T.law_fractions.f T.law_fractions.fd ["state", "many", "most"] spFractions)
  (G_law_deeds : FnOk P w K mg base CX0 2 T.law_deeds.f T.law_deeds.fd ["state", "many", "deed"] spDeeds)
  (G_law_row : FnOk P w K mg base CX0 5 T.law_row.f T.law_row.fd ["things", "deeds"] spRow)
  (G_law_rules : FnOk P w K mg base CX0 5 T.law_rules.f T.law_rules.fd ["a", "b", "c"] spRules)
  (G_law_ordered : FnOk P w K mg base CX0 2 T.law_ordered.f T.law_ordered.fd ["things"] spOrdered)
  (G_law_carried : FnOk P w K mg base CX0 5 T.law_carried.f T.law_carried.fd ["a", "b", "c", "negative"] spCarried)
def spLaw (K : PySem.W.Frag) : Sp := fun vs H Q _ => ∃ (a : Addr) (ns : List Int), vs = [.ref a] ∧ SqL K H a (ns.map V.int) ∧ ns.length ≤ 63 ∧ ∀ H', Q (.bl true) H'
theorem st_ne {H : Hp} {s : Addr} (h : St3 H s) : H s ≠ none := by obtain ⟨_, _, _, e⟩ := h; rw [e]; exact fun z => nomatch z
theorem St3.keep {H H' : Hp} {s : Addr} (e : Same H H') (h : St3 H s) : St3 H' s := by obtain ⟨a, b, c, q⟩ := h; exact ⟨a, b, c, e _ _ q⟩
theorem nps {G H : Hp} {p s : Addr} (o : HO) (hG : Same G H) (gs : G s = none) (st : St3 H s) (hp : H p = none) : ∃ G', Same G G' ∧ Same G' (upd H p o) ∧ G' p = some o ∧ G' s = none ∧ St3 (upd H p o) s := by
  obtain ⟨G', h1, h2, h3, h4⟩ := np1 o hG hp
  refine ⟨G', h1, h2, h3, ?_, st.keep (same_new hp)⟩
  rw [h4 s (fun q => by subst q; exact st_ne st hp)]
  exact gs
theorem fr_neg {r3 r4 : Int} (h1 : 0 ≤ r3) (h2 : r3 < 9999) (h3 : 0 ≤ r4) (h4 : r4 < 9999) : Fr 1 (0 - 1 - r3, 1 + r4) := by
  refine ⟨by decide, ?_, ?_, ?_⟩
  · show (0 - 1 - r3).natAbs < 2 ^ 133
    omega
  · show (1 + r4).natAbs < 2 ^ 133
    omega
  · show 1 + r4 ≠ 0
    omega
/-- what is known behind the first six lines -/
structure K1 (a : Addr) (K : PySem.W.Frag) (ns : List Int) (most many : Int) (nv bv : V) (n : Int × Int) (bs : List V) (G : Hp) : Prop where
  hS : SqL K G a (ns.map V.int)
  hm : most = 12 ∨ most = 40
  m2 : 2 ≤ many
  m6 : many ≤ 6
  hn : RTh G nv n
  fn : Fr 1 n
  n1 : n.1 < 0
  n2 : 0 < n.2
  hb : ∃ b, bv = .ref b ∧ G b = some (.lst bs)
  bl : (bs.length : Int) = many
  b01 : ∀ x ∈ bs, x = .int 0 ∨ x = .int 1
theorem K1.mono {a : Addr} {ns : List Int} {most many : Int} {nv bv : V} {n : Int × Int} {bs : List V} {G G' : Hp} (e : Same G G') (h : K1 a K ns most many nv bv n bs G) : K1 a K ns most many nv bv n bs G' :=
  ⟨e.seq h.hS, h.hm, h.m2, h.m6, mTh _ _ _ _ e h.hn, h.fn, h.n1, h.n2, (by obtain ⟨b, h1, h2⟩ := h.hb; exact ⟨b, h1, e _ _ h2⟩), h.bl, h.b01⟩
/-- the values -/
structure K2 (vv : V) (us : List V) (xs : List (Int × Int)) (many : Int) (G : Hp) : Prop where
  hv : ∃ v, vv = .ref v ∧ G v = some (.lst us)
  hp : Paired (RF G) us xs
  hl : (xs.length : Int) = many
  hf : ∀ x ∈ xs, Fr 1 x
theorem K2.mono {vv : V} {us : List V} {xs : List (Int × Int)} {many : Int} {G G' : Hp} (e : Same G G') (h : K2 vv us xs many G) : K2 vv us xs many G' :=
  ⟨(by obtain ⟨b, h1, h2⟩ := h.hv; exact ⟨b, h1, e _ _ h2⟩), pMono mF e h.hp, h.hl, h.hf⟩
/-- a list of things -/
structure K3 (tv : V) (us : List V) (zs : List (Nat × (Int × Int))) (G : Hp) : Prop where
  ht : ∃ t, tv = .ref t ∧ G t = some (.lst us)
  hp : Paired (RZ G) us zs
theorem K3.mono {tv : V} {us : List V} {zs : List (Nat × (Int × Int))} {G G' : Hp} (e : Same G G') (h : K3 tv us zs G) : K3 tv us zs G' :=
  ⟨(by obtain ⟨b, h1, h2⟩ := h.ht; exact ⟨b, h1, e _ _ h2⟩), pMono mZ e h.hp⟩
/-- the rows of deeds -/
structure K4 (rv : V) (us : List V) (dss : List (List (Int × Int × Int))) (many : Int) (G : Hp) : Prop where
  hr : ∃ r, rv = .ref r ∧ G r = some (.lst us)
  hp : Paired (RDs many.toNat G) us dss
theorem K4.mono {rv : V} {us : List V} {dss : List (List (Int × Int × Int))} {many : Int} {G G' : Hp} (e : Same G G') (h : K4 rv us dss many G) : K4 rv us dss many G' :=
  ⟨(by obtain ⟨b, h1, h2⟩ := h.hr; exact ⟨b, h1, e _ _ h2⟩), pMono (mDs _) e h.hp⟩
include G_ratio G_law_next G_law_state G_law_lowest G_law_is G_law_fractions G_law_deeds G_law_row G_law_rules G_law_ordered G_law_carried in
theorem ok_law : FnOk P w K mg base CX0 6 T.law.f T.law.fd ["script"] (spLaw K) := by
  refine T.law.F.ok sc_law (fun vs H Q E h => ?_) (fun cdv A outer s H vs Q E hr h => ?_)
  · obtain ⟨_, _, rfl, _⟩ := h
    rfl
  · obtain ⟨a, ns, rfl, hS, hlen, k⟩ := h
    refine ⟨_, (pss_cons (ps_set (i := 1) sc_law.nd rfl (Or.inr rfl) (pcall T.law_state G_law_state hr (pa_cons (pv 0) (pa_cons pe_int pa_nil))))
      (pss_cons (ps_set (i := 2) sc_law.nd rfl (Or.inl rfl) (pe_op op_add pe_int (pe_op op_mul pe_int (pe_callTy call_int1 (by rfl) T.z_int (by decide +kernel) (pa_cons (pe_cmpR op_eq (pcall T.law_next G_law_next hr (pa_cons (pv 1) (pa_cons pe_int pa_nil))) pe_int (nomark _)) pa_nil)))))
      (pss_cons (ps_set (i := 3) sc_law.nd rfl (Or.inl rfl) (pe_op op_add pe_int (pcall T.law_next G_law_next hr (pa_cons (pv 1) (pa_cons pe_int pa_nil)))))
      (pss_cons (ps_set (i := 4) sc_law.nd rfl (Or.inl rfl) (pe_lst (pa_cons (pe_op op_sub (pe_op op_sub pe_int pe_int) (pcall T.law_next G_law_next hr (pa_cons (pv 1) (pa_cons pe_int pa_nil)))) (pa_cons (pe_op op_add pe_int (pcall T.law_next G_law_next hr (pa_cons (pv 1) (pa_cons pe_int pa_nil)))) pa_nil))))
      (pss_cons (ps_set (i := 5) sc_law.nd rfl (Or.inl rfl) (pe_lst (pa_cons (pv 4) (pa_cons (pcall T.law_lowest G_law_lowest hr (pa_cons (pv 4) pa_nil)) (pa_cons (pcall T.law_lowest G_law_lowest hr (pa_cons (pv 4) pa_nil)) pa_nil)))))
      (C8.pss_cut (ps_setLc (i := 7) (own := [("k", 6)]) (g := gName 6) (tt := tYes) rfl sc_law.nd rfl rfl (sw_true rfl rfl rfl (by decide +kernel)) (pi_range1 rfl T.z_range (pa_cons (pv 3) pa_nil)) (blkOk_by (own := [("k", 6)]) (N := N_law) (sc := defScope s_law) (by decide +kernel)) (fun _ _ _ _ _ => pg_name (i := 6) sc_law.nd rfl (Or.inl rfl)) (fun _ _ _ _ _ => pts_nil) (fun _ _ _ _ _ => (pcall T.law_next G_law_next hr (pa_cons (pv 1) (pa_cons pe_int pa_nil)))))
      (C8.pss_cut (ps_set (i := 8) sc_law.nd rfl (Or.inl rfl) (pcall T.law_fractions G_law_fractions hr (pa_cons (pcall T.law_state G_law_state hr (pa_cons (pv 0) (pa_cons pe_int pa_nil))) (pa_cons (pv 3) (pa_cons (pv 2) pa_nil)))))
      (C8.pss_cut (ps_set (i := 1) sc_law.nd rfl (Or.inr rfl) (pcall T.law_state G_law_state hr (pa_cons (pv 0) (pa_cons pe_int pa_nil))))
      (C8.pss_cut (ps_set (i := 9) sc_law.nd rfl (Or.inl rfl) (pe_lst (pa_cons (pcall T.law_deeds G_law_deeds hr (pa_cons (pv 1) (pa_cons (pv 3) (pa_cons pe_int pa_nil)))) (pa_cons (pcall T.law_deeds G_law_deeds hr (pa_cons (pv 1) (pa_cons (pv 3) (pa_cons pe_int pa_nil)))) pa_nil))))
      (C8.pss_cut (ps_set (i := 9) sc_law.nd rfl (Or.inl rfl) (pe_op op_cat (pv 9) (pe_lst (pa_cons (pe_lc (own := [("k", 6)]) (g := gName 6) (tt := tYes) rfl sc_law.nd (pi_range1 rfl T.z_range (pa_cons (pe_op op_sub (pv 3) pe_int) pa_nil)) (blkOk_by (own := [("k", 6)]) (N := N_law) (sc := defScope s_law) (by decide +kernel)) (fun _ _ _ _ _ => pg_name (i := 6) sc_law.nd rfl (Or.inl rfl)) (fun _ _ _ _ _ => pts_nil) (fun _ _ _ _ _ => (pe_tup (pa_cons pe_int (pa_cons pe_int (pa_cons pe_int pa_nil)))))) (pa_cons (pcall T.law_deeds G_law_deeds hr (pa_cons (pv 1) (pa_cons (pv 3) (pa_cons pe_int pa_nil)))) pa_nil)))))
      (C8.pss_cut (ps_set (i := 9) sc_law.nd rfl (Or.inl rfl) (pe_op op_cat (pv 9) (pe_lst (pa_cons (pe_lc (own := [("k", 6)]) (g := gName 6) (tt := tYes) rfl sc_law.nd (pi_range1 rfl T.z_range (pa_cons (pe_op op_sub (pv 3) pe_int) pa_nil)) (blkOk_by (own := [("k", 6)]) (N := N_law) (sc := defScope s_law) (by decide +kernel)) (fun _ _ _ _ _ => pg_name (i := 6) sc_law.nd rfl (Or.inl rfl)) (fun _ _ _ _ _ => pts_nil) (fun _ _ _ _ _ => (pe_tup (pa_cons pe_int (pa_cons pe_int (pa_cons pe_int pa_nil)))))) (pa_cons (pcall T.law_deeds G_law_deeds hr (pa_cons (pv 1) (pa_cons (pv 3) (pa_cons pe_int pa_nil)))) pa_nil)))))
      (pss_cons (ps_set (i := 10) sc_law.nd rfl (Or.inl rfl) (pe_lst pa_nil))
      (C8.pss_cut (ps_for PassesOwn.never rfl (pi_enum (by rfl) T.z_enumerate (pa_cons (pv 8) pa_nil)) (pg_tup rfl (pgs_cons (pg_name (i := 6) sc_law.nd rfl (Or.inl rfl)) (pgs_cons (pg_name (i := 4) sc_law.nd rfl (Or.inl rfl)) pgs_nil)))
      (pss_cons (ps_set (i := 11) sc_law.nd rfl (Or.inl rfl) (pcall T.law_lowest G_law_lowest hr (pa_cons (pv 4) pa_nil)))
        (pss_cons (ps_set (i := 12) sc_law.nd rfl (Or.inl rfl) (pcall T.ratio G_ratio hr (pa_cons (pe_ix ix_list (pv 4) pe_int (fun _ _ => rfl)) (pa_cons (pe_ix ix_list (pv 4) pe_int (fun _ _ => rfl)) pa_nil))))
        (pss_cons (ps_if (pt_not (pt_val (pcall T.law_is G_law_is hr (pa_cons (pv 12) (pa_cons (pv 11) pa_nil)))))
        (pss_one (ps_ret pe_bl))
        pss_nil)
        (pss_one (ps_expr (pe_bm PySem.F.plainAttrs_list PySem.F.slot_list_append PySem.F.type_list_append mt_append (pv 10) (pa_cons (pe_lst (pa_cons (pv 4) (pa_cons (pv 11) (pa_cons (pe_ix ix_list (pe_lst (pa_cons (pv 11) (pa_cons (pv 12) pa_nil))) (pe_ix ix_list (pv 7) (pv 6) (fun _ _ => rfl)) (fun _ _ => rfl)) pa_nil)))) pa_nil))))))))
      (pss_cons (ps_set (i := 13) sc_law.nd rfl (Or.inl rfl) (pe_lst pa_nil))
      (C8.pss_cut (ps_for PassesOwn.never rfl (pi_list (pv 9)) (pg_name (i := 14) sc_law.nd rfl (Or.inl rfl))
      (pss_cons (ps_set (i := 15) sc_law.nd rfl (Or.inl rfl) (pcall T.law_row G_law_row hr (pa_cons (pv 10) (pa_cons (pv 14) pa_nil))))
        (pss_cons (ps_if (pt_cmpR op_isN (pv 15) pe_non (nomark _))
        (pss_one (ps_ret pe_bl))
        pss_nil)
        (pss_one (ps_expr (pe_bm PySem.F.plainAttrs_list PySem.F.slot_list_append PySem.F.type_list_append mt_append (pv 13) (pa_cons (pv 15) pa_nil)))))))
      (C8.pss_cut (ps_if (PW.pt (pw_or (pt_not (pt_val (pcall T.law_rules G_law_rules hr (pa_cons (pe_ix ix_list (pv 13) pe_int (fun _ _ => rfl)) (pa_cons (pe_ix ix_list (pv 10) pe_int (fun _ _ => rfl)) (pa_cons (pe_ix ix_list (pv 10) pe_int (fun _ _ => rfl)) pa_nil)))))) (pw_or1 (pt_not (pt_val (pcall T.law_rules G_law_rules hr (pa_cons (pe_ix ix_list (pv 13) pe_int (fun _ _ => rfl)) (pa_cons (pe_ix ix_list (pv 10) (pe_op op_sub (pv 3) pe_int) (fun _ _ => rfl)) (pa_cons (pe_ix ix_list (pv 13) pe_int (fun _ _ => rfl)) pa_nil)))))))))
      (pss_one (ps_ret pe_bl))
      pss_nil)
      (C8.pss_cut (ps_if (PW.pt (pw_or (pt_not (pt_val (pcall T.law_ordered G_law_ordered hr (pa_cons (pe_op op_cat (pv 10) (pv 13)) pa_nil)))) (pw_or1 (pt_not (pt_val (pcall T.law_carried G_law_carried hr (pa_cons (pe_ix ix_list (pv 13) pe_int (fun _ _ => rfl)) (pa_cons (pe_ix ix_list (pv 10) pe_int (fun _ _ => rfl)) (pa_cons (pe_ix ix_list (pv 10) pe_int (fun _ _ => rfl)) (pa_cons (pv 5) pa_nil))))))))))
      (pss_one (ps_ret pe_bl))
      pss_nil)
      (pss_cons (ps_if (pt_not (pt_val (pcall T.law_carried G_law_carried hr (pa_cons (pe_ix ix_list (pv 13) pe_int (fun _ _ => rfl)) (pa_cons (pe_ix ix_list (pv 13) pe_int (fun _ _ => rfl)) (pa_cons (pe_ix ix_list (pv 13) pe_int (fun _ _ => rfl)) (pa_cons (pv 5) pa_nil)))))))
      (pss_one (ps_ret pe_bl))
      pss_nil)
      (pss_one (ps_ret (pcall T.law_is G_law_is hr (pa_cons (pcall T.ratio G_ratio hr (pa_cons (pe_ix ix_list (pe_ix ix_list (pv 8) pe_int (fun _ _ => rfl)) pe_int (fun _ _ => rfl)) (pa_cons (pe_ix ix_list (pe_ix ix_list (pv 8) pe_int (fun _ _ => rfl)) pe_int (fun _ _ => rfl)) pa_nil))) (pa_cons (pcall T.law_lowest G_law_lowest hr (pa_cons (pe_ix ix_list (pv 8) pe_int (fun _ _ => rfl)) pa_nil)) pa_nil))))))))))))))))))))))), ?_⟩
    -- state, most, many, value, negative
    walk_at "rd"
    refine ⟨a, ns, 0, rfl, hS, hlen, fun s H1 x0 x1 x2 hs1 hs0 hss => ?_⟩
    have gs : H s = none := hs0
    have hG1 := hs1
    have st1 : St3 H1 s := ⟨_, _, _, hss⟩
    clear hss x0 x1 x2
    walk_at "rd"
    refine ⟨s, 6, rfl, st1, by omega, by omega, fun r a1 b1 c1 r0 r1 => ?_⟩
    replace hG1 := same_mut (o := st3 a1 b1 c1) hG1 gs
    replace st1 : St3 (upd H1 s (st3 a1 b1 c1)) s := .upd
    generalize upd H1 s (st3 a1 b1 c1) = H2 at *
    walk_at "rd"
    obtain ⟨most, hmost, hm⟩ : ∃ most, (12 + 28 * (if decide (r = 4) = true then 1 else 0) : Int) = most ∧ (most = 12 ∨ most = 40) := ⟨_, rfl, by split <;> omega⟩
    rw [hmost]
    clear hmost
    refine ⟨s, 5, rfl, st1, by omega, by omega, fun r2 a1 b1 c1 r20 r21 => ?_⟩
    replace hG1 := same_mut (o := st3 a1 b1 c1) hG1 gs
    replace st1 : St3 (upd H2 s (st3 a1 b1 c1)) s := .upd
    generalize upd H2 s (st3 a1 b1 c1) = H3 at *
    walk_at "rd"
    refine ⟨s, 9999, rfl, st1, by omega, by omega, fun r3 a1 b1 c1 r30 r31 => ?_⟩
    replace hG1 := same_mut (o := st3 a1 b1 c1) hG1 gs
    replace st1 : St3 (upd H3 s (st3 a1 b1 c1)) s := .upd
    generalize upd H3 s (st3 a1 b1 c1) = H4 at *
    walk_at "rd"
    refine ⟨s, 9999, rfl, st1, by omega, by omega, fun r4 a1 b1 c1 r40 r41 => ?_⟩
    replace hG1 := same_mut (o := st3 a1 b1 c1) hG1 gs
    replace st1 : St3 (upd H4 s (st3 a1 b1 c1)) s := .upd
    generalize upd H4 s (st3 a1 b1 c1) = H5 at *
    walk_at "rd"
    intro q1 hq1
    obtain ⟨G1, s1, hG2, g1, gs1, st2⟩ := nps (.lst [.int (0 - 1 - r3), .int (1 + r4)]) hG1 gs st1 hq1
    generalize upd H5 q1 _ = H6 at *
    have fng := fr_neg r30 r31 r40 r41
    walk_at "rd"
    refine ⟨q1, _, 1, rfl, hG2 _ _ g1, fng, by decide, fun t1 ht1 => ?_⟩
    obtain ⟨G2, s2, hG3, g2, gs2, st3⟩ := nps (.tup (two (low (0 - 1 - r3, 1 + r4)))) hG2 gs1 st2 ht1
    generalize upd H6 t1 _ = H7 at *
    walk_at "rd"
    refine ⟨q1, _, 1, rfl, hG3 _ _ (s2 _ _ g1), fng, by decide, fun t2 ht2 => ?_⟩
    obtain ⟨G3, s3, hG4, g3, gs3, st4⟩ := nps (.tup (two (low (0 - 1 - r3, 1 + r4)))) hG3 gs2 st3 ht2
    generalize upd H7 t2 _ = H8 at *
    walk_at "rd"
    intro nv hnv
    obtain ⟨G4, s4, hG5, g4, gs4, st5⟩ := nps (.lst [.ref q1, .ref t1, .ref t2]) hG4 gs3 st4 hnv
    generalize upd H8 nv _ = H9 at *
    have hng : RTh G4 (.ref nv) (0 - 1 - r3, 1 + r4) := ⟨nv, q1, t1, t2, rfl, g4, s4 _ _ (s3 _ _ (s2 _ _ g1)), s4 _ _ (s3 _ _ g2), s4 _ _ g3⟩
    have hS4 : SqL K G4 a (ns.map V.int) := ((s1.trans s2).trans (s3.trans s4)).seq hS
    clear g1 g2 g3 g4 s1 s2 s3 s4 hG1 hG2 hG3 hG4 gs gs1 gs2 gs3 st1 st2 st3 st4
    generalize hnn : ((0 - 1 - r3, 1 + r4) : Int × Int) = n at *
    have n1 : n.1 < 0 := by rw [← hnn]; show 0 - 1 - r3 < 0; omega
    have n2 : 0 < n.2 := by rw [← hnn]; show 0 < 1 + r4; omega
    have m2 : 2 ≤ 2 + r2 := by omega
    have m6 : 2 + r2 ≤ 6 := by omega
    generalize 2 + r2 = many at *
    clear hnn
    walk_at "rd"
    -- births
    refine rd_cut (fun σ' H' => ∃ G bv bs, σ' = [some (.ref a), some (.ref s), some (.int most), some (.int many), some (.ref q1), some (.ref nv), none, some bv, none, none, none, none, none, none, none, none] ∧ Same G H' ∧ K1 a K ns most many (.ref nv) bv n bs G) ?_ ?_
    · walk_at "rd"
      refine ⟨by omega, by omega, fun D hD => ?_⟩
      have nDs : D ≠ s := fun q => by subst q; exact st_ne st5 hD
      refine lc_range (n := many.toNat) (fun i H' => ∃ bs, Same G4 H' ∧ St3 H' s ∧ H' D = some (.lst bs) ∧ bs.length = i ∧ ∀ x ∈ bs, x = .int 0 ∨ x = .int 1) ⟨[], hG5.trans (same_new hD), st5.keep (same_new hD), upd_same, rfl, fun x hx => by simp at hx⟩ ?_ ?_
      · rintro i H' hi ⟨bs, e1, e2, e3, e4, e5⟩
        refine ⟨rfl, ?_⟩
        refine rd_yes ?_
        walk_at "rd"
        refine ⟨s, 2, rfl, e2, by omega, by omega, fun b a1 b1 c1 b0 b1' => ?_⟩
        refine ⟨bs, by rw [upd_ne nDs]; exact e3, Evl.sz_lt (by omega), bs ++ [.int b], ?_, ?_, upd_same, by rw [List.length_append, e4]; rfl, fun x hx => ?_⟩
        · exact same_mut (same_mut e1 gs4) (hG5.free hD)
        · exact ⟨a1, b1, c1, by rw [upd_ne nDs.symm, upd_same]⟩
        · rcases List.mem_append.mp hx with z | z
          · exact e5 x z
          · simp at z
            subst z
            have : b = 0 ∨ b = 1 := by omega
            rcases this with rfl | rfl
            · exact .inl rfl
            · exact .inr rfl
      · rintro H' ⟨bs, e1, e2, e3, e4, e5⟩
        have gD : G4 D = none := hG5.free hD
        refine ⟨upd G4 D (.lst bs), .ref D, bs, rfl, fun b o h => ?_, ?_⟩
        · by_cases q : b = D
          · subst q
            rw [upd_same] at h
            rw [e3, ← h]
          · rw [upd_ne q] at h
            exact e1 _ _ h
        · exact ⟨(same_new gD).seq hS4, hm, m2, m6, mTh _ _ _ _ (same_new gD) hng, fng, n1, n2, ⟨D, rfl, upd_same⟩, by omega, e5⟩
    · rintro σ' H' ⟨G5, bv, bs, rfl, hG6, k1⟩
      clear hng hS4 hG5 gs4 st5
      -- values
      refine rd_cut (fun σ' H' => ∃ G vv us xs, σ' = [some (.ref a), some (.ref s), some (.int most), some (.int many), some (.ref q1), some (.ref nv), none, some bv, some vv, none, none, none, none, none, none, none] ∧ Same G H' ∧ K1 a K ns most many (.ref nv) bv n bs G ∧ K2 vv us xs many G) ?_ ?_
      · walk_at "rd"
        refine ⟨a, ns, 1, rfl, hG6.seq k1.hS, hlen, fun s' H2 x0 x1 x2 hs1 hs0 hss => ?_⟩
        walk_at "rd"
        refine ⟨G5, s', many, most, rfl, hG6.trans hs1, hG6.free hs0, ⟨_, _, _, hss⟩, k1.m2, k1.m6, k1.hm, fun G6 H6 r us xs e1 hr1 hp1 hl1 hf1 => ?_⟩
        exact ⟨G6, .ref r, us, xs, rfl, e1.gh, k1.mono e1.gg, ⟨⟨r, rfl, hr1⟩, hp1, hl1, hf1⟩⟩
      · rintro σ' H' ⟨G6, vv, us, xs, rfl, hG7, k1, k2⟩
        clear hG6
        -- state
        refine rd_cut (fun σ' H' => ∃ G s, σ' = [some (.ref a), some (.ref s), some (.int most), some (.int many), some (.ref q1), some (.ref nv), none, some bv, some vv, none, none, none, none, none, none, none] ∧ Same G H' ∧ G s = none ∧ St3 H' s ∧ K1 a K ns most many (.ref nv) bv n bs G ∧ K2 vv us xs many G) ?_ ?_
        · walk_at "rd"
          refine ⟨a, ns, 2, rfl, hG7.seq k1.hS, hlen, fun s' H2 x0 x1 x2 hs1 hs0 hss => ?_⟩
          exact ⟨G6, s', rfl, hG7.trans hs1, hG7.free hs0, ⟨_, _, _, hss⟩, k1, k2⟩
        · rintro σ' H' ⟨G7, s2, rfl, hG8, gs, st, k1, k2⟩
          clear hG7
          -- rows
          refine rd_cut (fun σ' H' => ∃ G rv us' dss, σ' = [some (.ref a), some (.ref s2), some (.int most), some (.int many), some (.ref q1), some (.ref nv), none, some bv, some vv, some rv, none, none, none, none, none, none] ∧ Same G H' ∧ G s2 = none ∧ St3 H' s2 ∧ K1 a K ns most many (.ref nv) bv n bs G ∧ K2 vv us xs many G ∧ K4 rv us' dss many G ∧ us'.length = 2) ?_ ?_
          · walk_at "rd"
            refine ⟨G7, s2, many, 4, rfl, hG8, gs, st, k1.m2, k1.m6, by omega, fun Ga Ha ra ua da ea sta hra hpa hda => ?_⟩
            have gsa := ea.priv gs (st_ne st)
            walk_at "rd"
            refine ⟨Ga, s2, many, 4, rfl, ea.gh, gsa, sta, k1.m2, k1.m6, by omega, fun Gb Hb rb ub db eb stb hrb hpb hdb => ?_⟩
            have gsb := eb.priv gsa (st_ne sta)
            walk_at "rd"
            intro l hl
            obtain ⟨Gc, sc, hGc, gc, gsc, stc⟩ := nps (.lst [.ref ra, .ref rb]) eb.gh gsb stb hl
            generalize upd Hb l _ = Hc at *
            exact ⟨Gc, .ref l, _, [da, db], rfl, hGc, gsc, stc, k1.mono ((ea.gg.trans eb.gg).trans sc), k2.mono ((ea.gg.trans eb.gg).trans sc), ⟨⟨l, rfl, gc⟩,
              .cons (mDs _ _ _ _ _ (eb.gg.trans sc) ⟨⟨ra, ua, rfl, hra, hpa⟩, hda⟩) (.cons (mDs _ _ _ _ _ sc ⟨⟨rb, ub, rfl, hrb, hpb⟩, hdb⟩) .nil)⟩, rfl⟩
          · rintro σ' H' ⟨G8, rv, us', dss, rfl, hG9, gs9, st9, k1, k2, k4, l4⟩
            refine rd_cut (fun σ' H' => ∃ G rv us' dss, σ' = [some (.ref a), some (.ref s2), some (.int most), some (.int many), some (.ref q1), some (.ref nv), none, some bv, some vv, some rv, none, none, none, none, none, none] ∧ Same G H' ∧ G s2 = none ∧ St3 H' s2 ∧ K1 a K ns most many (.ref nv) bv n bs G ∧ K2 vv us xs many G ∧ K4 rv us' dss many G ∧ us'.length = 4) ?_ ?_
            · obtain ⟨⟨r, rfl, hr4⟩, hp4⟩ := k4
              walk_at "rd1"
              walk_at "rd1"
              walk_at "rd1"
              walk_at "rd1"
              walk_at "rd1"
              refine lc_zero (d := 0) hG9 k1.m2 k1.m6 (by decide) (by decide) rfl fun Ga Ha D ea hda => ?_
              have gsa := ea.priv gs9 (st_ne st9)
              obtain ⟨a0, b0, c0, hs9⟩ := st9
              have sta : St3 Ha s2 := ⟨a0, b0, c0, ea.keep0 hs9⟩
              walk_at "rd"
              refine ⟨Ga, s2, many, 0, rfl, ea.gh, gsa, sta, k1.m2, k1.m6, by omega, fun Gb Hb rb ub db eb stb hrb hpb hdb => ?_⟩
              have gsb := eb.priv gsa (st_ne sta)
              walk_at "rd"
              intro l hl
              obtain ⟨Gc, sc, hGc, gc, gsc, stc⟩ := nps (.lst [.ref D, .ref rb]) eb.gh gsb stb hl
              generalize upd Hb l _ = Hc at *
              have s8 := (ea.gg.trans eb.gg).trans sc
              have hrc : Hc r = some (.lst us') := hGc _ _ (s8 _ _ hr4)
              have hlc : Hc l = some (.lst [.ref D, .ref rb]) := hGc _ _ gc
              have lz : us'.length + [V.ref D, V.ref rb].length ≤ sizeLine := Evl.sz_of (by rw [l4]; show 2 + 2 ≤ 100000; decide)
              walk_at "rd"
              intro l2 hl2
              obtain ⟨Gd, sd, hGd, gd, gsd, std⟩ := nps (.lst (us' ++ [.ref D, .ref rb])) hGc gsc stc hl2
              generalize upd Hc l2 _ = Hd at *
              refine ⟨Gd, .ref l2, _, dss ++ [_, db], rfl, hGd, gsd, std, k1.mono (s8.trans sd), k2.mono (s8.trans sd), ⟨⟨l2, rfl, gd⟩, pApp (pMono (mDs _) (s8.trans sd) hp4)
                (.cons (mDs _ _ _ _ _ ((eb.gg.trans sc).trans sd) hda) (.cons (mDs _ _ _ _ _ (sc.trans sd) ⟨⟨rb, ub, rfl, hrb, hpb⟩, hdb⟩) .nil))⟩, by rw [List.length_append, l4]; rfl⟩
            · rintro σ' H' ⟨G9, rv, us', dss, rfl, hG10, gs10, st10, k1, k2, k4, l4⟩
              refine rd_cut (fun σ' H' => ∃ G rv us' dss, σ' = [some (.ref a), some (.ref s2), some (.int most), some (.int many), some (.ref q1), some (.ref nv), none, some bv, some vv, some rv, none, none, none, none, none, none] ∧ Same G H' ∧ K1 a K ns most many (.ref nv) bv n bs G ∧ K2 vv us xs many G ∧ K4 rv us' dss many G ∧ us'.length = 6) ?_ ?_
              · obtain ⟨⟨r, rfl, hr4⟩, hp4⟩ := k4
                walk_at "rd1"
                walk_at "rd1"
                walk_at "rd1"
                walk_at "rd1"
                walk_at "rd1"
                refine lc_zero (d := 2) hG10 k1.m2 k1.m6 (by decide) (by decide) rfl fun Ga Ha D ea hda => ?_
                have gsa := ea.priv gs10 (st_ne st10)
                obtain ⟨a0, b0, c0, hs10⟩ := st10
                have sta : St3 Ha s2 := ⟨a0, b0, c0, ea.keep0 hs10⟩
                walk_at "rd"
                refine ⟨Ga, s2, many, 2, rfl, ea.gh, gsa, sta, k1.m2, k1.m6, by omega, fun Gb Hb rb ub db eb stb hrb hpb hdb => ?_⟩
                have gsb := eb.priv gsa (st_ne sta)
                walk_at "rd"
                intro l hl
                obtain ⟨Gc, sc, hGc, gc, gsc, stc⟩ := nps (.lst [.ref D, .ref rb]) eb.gh gsb stb hl
                generalize upd Hb l _ = Hc at *
                have s8 := (ea.gg.trans eb.gg).trans sc
                have hrc : Hc r = some (.lst us') := hGc _ _ (s8 _ _ hr4)
                have hlc : Hc l = some (.lst [.ref D, .ref rb]) := hGc _ _ gc
                have lz : us'.length + [V.ref D, V.ref rb].length ≤ sizeLine := Evl.sz_of (by rw [l4]; show 4 + 2 ≤ 100000; decide)
                walk_at "rd"
                intro l2 hl2
                obtain ⟨Gd, sd, hGd, gd, gsd, std⟩ := nps (.lst (us' ++ [.ref D, .ref rb])) hGc gsc stc hl2
                generalize upd Hc l2 _ = Hd at *
                refine ⟨Gd, .ref l2, _, dss ++ [_, db], rfl, hGd, k1.mono (s8.trans sd), k2.mono (s8.trans sd), ⟨⟨l2, rfl, gd⟩, pApp (pMono (mDs _) (s8.trans sd) hp4)
                  (.cons (mDs _ _ _ _ _ ((eb.gg.trans sc).trans sd) hda) (.cons (mDs _ _ _ _ _ (sc.trans sd) ⟨⟨rb, ub, rfl, hrb, hpb⟩, hdb⟩) .nil))⟩, by rw [List.length_append, l4]; rfl⟩
              · rintro σ' H' ⟨G10, rv, rs, dss, rfl, hG11, k1, k2, k4, l4⟩
                clear hG8 hG9 hG10 gs10 st10 gs9 st9 gs st
                -- things
                walk_at "rd"
                intro f hf
                refine rd_cut (fun σ' H' => ∃ G tv ts zs z4 z6 z11 z12, σ' = [some (.ref a), some (.ref s2), some (.int most), some (.int many), z4, some (.ref nv), z6, some bv, some vv, some rv, some tv, z11, z12, none, none, none] ∧ Same G H' ∧ K1 a K ns most many (.ref nv) bv n bs G ∧ K2 vv us xs many G ∧ K4 rv rs dss many G ∧ K3 tv ts zs G ∧ (zs.length : Int) = many ∧ ∀ z ∈ zs, z.1 = 1) ?_ ?_
                · have e0 : Ext M0 G10 H' G10 H' := Ext.refl hG11
                  obtain ⟨e1, s1, g1⟩ := e0.nw (.lst []) hf
                  obtain ⟨v, rfl, hv⟩ := k2.hv
                  obtain ⟨b, rfl, hb⟩ := k1.hb
                  have gf : G10 f = none := e0.none1 hf
                  generalize hH0 : H' = H0 at *
                  generalize upd H0 f _ = H1 at *
                  walk_at "rd"
                  refine for_enum (K := K) (xs := us) (fun i σ' H' => ∃ G1 ts zs z4 z6 z11 z12, σ' = [some (.ref a), some (.ref s2), some (.int most), some (.int many), z4, some (.ref nv), z6, some (.ref b), some (.ref v), some rv, some (.ref f), z11, z12, none, none, none] ∧ Ext M0 G10 H0 G1 H' ∧ H' f = some (.lst ts) ∧ G1 f = none ∧ Paired (RZ G1) ts zs ∧ zs.length = i ∧ ∀ z ∈ zs, z.1 = 1)
                    ⟨G10, [], [], _, _, _, _, rfl, e1, g1, gf, .nil, rfl, fun z hz => by simp at hz⟩ ?_ ?_ ?_
                  · rintro i σ' H' ⟨G1, ts, zs, z4, z6, z11, z12, rfl, e, _⟩
                    exact SqL.of (e.gh _ _ (e.gg _ _ hv))
                  · rintro i u T' σ' H' hi ⟨G1, ts, zs, z4, z6, z11, z12, rfl, e, hft, gft, hpz, hlz, hz1⟩ hT
                    obtain ⟨x, hx, hux⟩ := pGet k2.hp hi
                    have fx := k2.hf x (List.mem_of_getElem? hx)
                    obtain ⟨p, _, _, rfl, hp, rfl, rfl⟩ := mF _ _ _ _ e.gg hux
                    have il : i < us.length := (List.getElem?_eq_some_iff.mp hi).1
                    have ul := k2.hp.length
                    have um := k2.hl
                    have m6 := k1.m6
                    have bl := k1.bl
                    have hbi : ∃ c, bs[i]? = some (.int c) ∧ (c = 0 ∨ c = 1) := by
                      have h : i < bs.length := by omega
                      rcases k1.b01 _ (List.getElem_mem h) with q | q
                      · exact ⟨0, by rw [List.getElem?_eq_getElem h, q], .inl rfl⟩
                      · exact ⟨1, by rw [List.getElem?_eq_getElem h, q], .inr rfl⟩
                    obtain ⟨c, hc, hc01⟩ := hbi
                    have hac : atI bs (i : Int) = some (.int c) := atI_nat hc
                    have hb1 : G1 b = some (.lst bs) := e.gg _ _ hb
                    obtain ⟨e2, s2', g2⟩ := e.nw (.tup [.int (i : Nat), .ref p]) hT
                    have hft2 := s2' _ _ hft
                    generalize upd H' T' _ = H2 at *
                    have t2 := e2.gh
                    obtain ⟨sx1, sx2⟩ := fr_sz fx (by decide)
                    walk_at "rd"
                    refine ⟨p, x, 1, rfl, t2 _ _ hp, fx, by decide, fun d hd => ?_⟩
                    obtain ⟨G3, e3, s3, g3, n3⟩ := e2.np2 (.tup (two (low x))) hd
                    have gft3 : G3 f = none := by rw [n3 f (some_ne hft2)]; exact gft
                    have hft3 := same_new (o := .tup (two (low x))) hd _ _ hft2
                    generalize upd H2 d _ = H3 at *
                    have t3 := e3.gh
                    replace hp := s3 _ _ hp
                    walk_at "rd"
                    refine ⟨x.1, x.2, rfl, fx.2.2.2, sx2, fun t ht => ?_⟩
                    obtain ⟨G4, e4, s4, g4, n4⟩ := e3.np2 (.tup (two (low x))) ht
                    have gft4 : G4 f = none := by rw [n4 f (some_ne hft3)]; exact gft3
                    have hft4 := same_new (o := .tup (two (low x))) ht _ _ hft3
                    have e4' : Ext M0 G10 H0 G4 (upd H3 t (.tup (two (low (x.1, x.2))))) := e4
                    have hft4' : upd H3 t (.tup (two (low (x.1, x.2)))) f = some (.lst ts) := hft4
                    clear e4 hft4
                    generalize upd H3 t _ = H4 at *
                    have t4 := e4'.gh
                    replace hp := s4 _ _ hp
                    replace g3 := s4 _ _ g3
                    have hpz4 := pMono mZ (s3.trans s4) hpz
                    walk_at "rd"
                    refine ⟨_, _, low x, rfl, t4 _ _ g4, t4 _ _ g3, ?_⟩
                    have hb4 : G4 b = some (.lst bs) := (s3.trans s4) _ _ hb1
                    obtain ⟨ev, hev, he⟩ : ∃ ev, atI [V.ref d, V.ref t] c = some (.ref ev) ∧ (ev = d ∨ ev = t) := by
                      rcases hc01 with rfl | rfl
                      · exact ⟨d, rfl, .inl rfl⟩
                      · exact ⟨t, rfl, .inr rfl⟩
                    have gev : G4 ev = some (.tup (two (low x))) := by
                      rcases he with rfl | rfl
                      · exact g3
                      · exact g4
                    walk_at "rd"
                    intro l1 hl1
                    obtain ⟨e5, s5, g5⟩ := e4'.nw (.lst [.ref d, .ref t]) hl1
                    have hft5 := s5 _ _ hft4'
                    generalize upd H4 l1 _ = H5 at *
                    have t5 := e5.gh
                    walk_at "rd"
                    intro l2 hl2
                    obtain ⟨b1, b2, b3, b4⟩ := e5.push (R := RZ) (x := (1, x)) (o := .lst [.ref p, .ref d, .ref ev]) mZ hf hft5 gft4 hl2 hpz4
                      ⟨⟨l2, p, d, ev, rfl, upd_same, same_new (e5.none1 hl2) _ _ hp, same_new (e5.none1 hl2) _ _ g3, same_new (e5.none1 hl2) _ _ gev⟩, fx⟩
                    have hft6 := same_new (o := .lst [.ref p, .ref d, .ref ev]) hl2 _ _ hft5
                    have tl := hpz.length
                    walk_at "rd"
                    refine ⟨_, _, zs ++ [(1, x)], _, _, _, _, rfl, b1, b2, b3, b4, by rw [List.length_append, hlz]; rfl, fun z hz => ?_⟩
                    rcases List.mem_append.mp hz with z1 | z1
                    · exact hz1 z z1
                    · simp at z1
                      subst z1
                      rfl
                  · rintro σ' H' ⟨G1, ts, zs, z4, z6, z11, z12, rfl, e, hft, gft, hpz, hlz, hz1⟩
                    have ep := e.pub hf hft gft
                    have um := k2.hl
                    have ul := k2.hp.length
                    refine ⟨_, .ref f, ts, zs, _, _, _, _, rfl, ep.gh, k1.mono ep.gg, k2.mono ep.gg, k4.mono ep.gg, ⟨⟨f, rfl, upd_same⟩, pMono mZ (same_new gft) hpz⟩, by omega, hz1⟩
                · rintro σ' H' ⟨G11, tv, ts, zs, z4, z6, z11, z12, rfl, hG12, k1, k2, k4, k3, hlz, hz1⟩
                  clear hG11
                  -- ends
                  walk_at "rd"
                  intro f hf
                  refine rd_cut (fun σ' H' => ∃ G ev es ys z14 z15, σ' = [some (.ref a), some (.ref s2), some (.int most), some (.int many), z4, some (.ref nv), z6, some bv, some vv, some rv, some tv, z11, z12, some ev, z14, z15] ∧ Same G H' ∧ K1 a K ns most many (.ref nv) bv n bs G ∧ K2 vv us xs many G ∧ K3 tv ts zs G ∧ K3 ev es ys G ∧ ys.length = 6 ∧ ∀ z ∈ ys, z.1 ≤ 6) ?_ ?_
                  · have e0 : Ext M0 G11 H' G11 H' := Ext.refl hG12
                    obtain ⟨e1, s1, g1⟩ := e0.nw (.lst []) hf
                    obtain ⟨rr, rfl, hr⟩ := k4.hr
                    obtain ⟨t, rfl, ht⟩ := k3.ht
                    have gf : G11 f = none := e0.none1 hf
                    generalize hH0 : H' = H0 at *
                    generalize upd H0 f _ = H1 at *
                    walk_at "rd"
                    refine ⟨⟨_, SqL.of (e1.gh _ _ hr)⟩, ?_⟩
                    refine for_list (K := K) (xs := rs) (fun i σ' H' => ∃ G1 es ys z14 z15, σ' = [some (.ref a), some (.ref s2), some (.int most), some (.int many), z4, some (.ref nv), z6, some bv, some vv, some (.ref rr), some (.ref t), z11, z12, some (.ref f), z14, z15] ∧ Ext M0 G11 H0 G1 H' ∧ H' f = some (.lst es) ∧ G1 f = none ∧ Paired (RZ G1) es ys ∧ ys.length = i ∧ ∀ z ∈ ys, z.1 ≤ 6)
                      ⟨G11, [], [], _, _, rfl, e1, g1, gf, .nil, rfl, fun z hz => by simp at hz⟩ ?_ ?_ ?_
                    · rintro i σ' H' _ ⟨G1, es, ys, z14, z15, rfl, e, _⟩
                      exact SqL.of (e.gh _ _ (e.gg _ _ hr))
                    · rintro i u σ' H' hi ⟨G1, es, ys, z14, z15, rfl, e, hft, gft, hpy, hly, hy6⟩
                      obtain ⟨ds, hds, hud⟩ := pGet k4.hp hi
                      obtain ⟨⟨q, ws, rfl, hq, hws⟩, hdd⟩ := mDs _ _ _ _ _ e.gg hud
                      have em : many.toNat = zs.length := by omega
                      rw [em] at hdd
                      have m6 := k1.m6
                      have il : i < rs.length := (List.getElem?_eq_some_iff.mp hi).1
                      walk_at "rd"
                      refine ⟨G1, t, q, ts, ws, zs, ds, rfl, e.gh, e.gh _ _ (e.gg _ _ ht), pMono mZ e.gg k3.hp, hz1, by omega, hq, hws, hdd, fun G2 H2 r z e2 hz hz6 => ?_⟩
                      have hft2 := e2.keep0 hft
                      have gft2 := e2.priv gft (some_ne hft)
                      replace hpy := pMono mZ e2.gg hpy
                      replace e2 := e.call0 e2
                      obtain ⟨r', _, _, _, rfl, _⟩ := id hz.1
                      have el := hpy.length
                      obtain ⟨b1, b2, b3⟩ := e2.push0 (R := RZ) hf hft2 gft2 hpy hz
                      walk_at "rd"
                      refine ⟨G2, _, ys ++ [z], _, _, rfl, b1, b2, gft2, b3, by rw [List.length_append, hly]; rfl, fun z' hz' => ?_⟩
                      rcases List.mem_append.mp hz' with z1 | z1
                      · exact hy6 z' z1
                      · simp at z1
                        subst z1
                        exact hz6
                    · rintro σ' H' ⟨G1, es, ys, z14, z15, rfl, e, hft, gft, hpy, hly, hy6⟩
                      have ep := e.pub hf hft gft
                      exact ⟨_, .ref f, es, ys, _, _, rfl, ep.gh, k1.mono ep.gg, k2.mono ep.gg, k3.mono ep.gg, ⟨⟨f, rfl, upd_same⟩, pMono mZ (same_new gft) hpy⟩, by omega, hy6⟩
                  · rintro σ' H' ⟨G12, ev, es, ys, z14, z15, rfl, hG13, k1, k2, k3, k5, hly, hy6⟩
                    clear hG12
                    obtain ⟨t, rfl, ht⟩ := k3.ht
                    obtain ⟨e, rfl, he⟩ := k5.ht
                    obtain ⟨v, rfl, hv⟩ := k2.hv
                    have m2 := k1.m2
                    have tl := k3.hp.length
                    have el := k5.hp.length
                    have vl := k2.hp.length
                    have vm := k2.hl
                    have item : ∀ j : Nat, j < 6 → ∃ u y, atI es (j : Int) = some u ∧ RZ G12 u y ∧ y.1 ≤ 6 := fun j hj => by
                      have h : j < es.length := by omega
                      obtain ⟨y, h1, h2⟩ := pGet k5.hp (List.getElem?_eq_getElem h)
                      exact ⟨_, y, atI_nat (List.getElem?_eq_getElem h), h2, hy6 y (List.mem_of_getElem? h1)⟩
                    have thing : ∀ j : Nat, (j : Int) < many → ∃ u y, atI ts (j : Int) = some u ∧ RZ G12 u y ∧ y.1 = 1 := fun j hj => by
                      have h : j < ts.length := by omega
                      obtain ⟨y, h1, h2⟩ := pGet k3.hp (List.getElem?_eq_getElem h)
                      exact ⟨_, y, atI_nat (List.getElem?_eq_getElem h), h2, hz1 y (List.mem_of_getElem? h1)⟩
                    obtain ⟨u0, y0, i0, r0, c0⟩ := item 0 (by decide)
                    obtain ⟨u1, y1, i1, r1', c1'⟩ := item 1 (by decide)
                    obtain ⟨u2, y2, i2, r2', c2⟩ := item 2 (by decide)
                    obtain ⟨u5, y5, i5, r5, c5⟩ := item 5 (by decide)
                    obtain ⟨w0, x0, j0, p0, d0⟩ := thing 0 (by omega)
                    obtain ⟨w1, x1, j1, p1, d1⟩ := thing 1 (by omega)
                    obtain ⟨w9, x9, j9, p9, d9⟩ := thing (many - 1).toNat (by omega)
                    have ej : (((many - 1).toNat : Nat) : Int) = many - 1 := by omega
                    rw [ej] at j9
                    clear item thing ej
                    refine rd_cut (fun σ' H' => ∃ G, σ' = [some (.ref a), some (.ref s2), some (.int most), some (.int many), z4, some (.ref nv), z6, some bv, some (.ref v), some rv, some (.ref t), z11, z12, some (.ref e), z14, z15] ∧ Same G H' ∧ Same G12 G) ?_ ?_
                    · walk_at "rd"
                      refine ⟨G12, u0, w0, w1, y0.2, x0.2, x1.2, y0.1, x0.1, x1.1, rfl, hG13, r0.1, p0.1, p1.1, r0.2, p0.2, p1.2, by omega, by omega, fun Ga Ha ea => ?_⟩
                      have ta := ea.gh
                      have sa := ea.gg
                      walk_at "rd"
                      refine ⟨Ga, u1, w9, u0, y1.2, x9.2, y0.2, y1.1, x9.1, y0.1, rfl, ta, mTh _ _ _ _ sa r1'.1, mTh _ _ _ _ sa p9.1, mTh _ _ _ _ sa r0.1, r1'.2, p9.2, r0.2, by omega, by omega, fun Gb Hb eb => ?_⟩
                      walk_at "rd"
                      exact ⟨Gb, rfl, eb.gh, sa.trans eb.gg⟩
                    · rintro σ' H2 ⟨Ga, rfl, ta, sa⟩
                      refine rd_cut (fun σ' H' => ∃ G, σ' = [some (.ref a), some (.ref s2), some (.int most), some (.int many), z4, some (.ref nv), z6, some bv, some (.ref v), some rv, some (.ref t), z11, z12, some (.ref e), z14, z15] ∧ Same G H' ∧ Same G12 G) ?_ ?_
                      · have lz : ts.length + es.length ≤ sizeLine := Evl.sz_of (by have := k1.m6; omega)
                        walk_at "rd"
                        intro l hl
                        have tb := ta.trans (same_new (o := .lst (ts ++ es)) hl)
                        walk_at "rd"
                        refine ⟨l, ts ++ es, zs ++ ys, rfl, upd_same, pApp (pMono mZ (sa.trans tb) k3.hp) (pMono mZ (sa.trans tb) k5.hp), fun z hz => ?_, ?_⟩
                        · rcases List.mem_append.mp hz with q | q
                          · have := hz1 z q; omega
                          · have := hy6 z q; omega
                        generalize upd H2 l _ = H3 at *
                        walk_at "rd"
                        refine ⟨Ga, u0, w0, w1, .ref nv, y0.2, x0.2, x1.2, n, y0.1, x0.1, x1.1, 1, rfl, tb, mTh _ _ _ _ sa r0.1, mTh _ _ _ _ sa p0.1, mTh _ _ _ _ sa p1.1, mTh _ _ _ _ sa k1.hn, r0.2, p0.2, p1.2, k1.fn, by omega, by omega, by omega, by omega, k1.n1, k1.n2, fun Gb Hb eb => ?_⟩
                        walk_at "rd"
                        exact ⟨Gb, rfl, eb.gh, sa.trans eb.gg⟩
                      · rintro σ' H3 ⟨Gb, rfl, tb, sb⟩
                        walk_at "rd"
                        refine ⟨Gb, u2, u5, u1, .ref nv, y2.2, y5.2, y1.2, n, y2.1, y5.1, y1.1, 1, rfl, tb, mTh _ _ _ _ sb r2'.1, mTh _ _ _ _ sb r5.1, mTh _ _ _ _ sb r1'.1, mTh _ _ _ _ sb k1.hn, r2'.2, r5.2, r1'.2, k1.fn, by omega, by omega, by omega, by omega, k1.n1, k1.n2, fun Gc Hc ec => ?_⟩
                        have sc := sb.trans ec.gg
                        have tc := ec.gh
                        have h0 : 0 < us.length := by omega
                        obtain ⟨x, hx, hux⟩ := pGet k2.hp (List.getElem?_eq_getElem h0)
                        have fx := k2.hf x (List.mem_of_getElem? hx)
                        obtain ⟨p, _, _, hpe, hp, rfl, rfl⟩ := mF _ _ _ _ sc hux
                        have ha0 : atI us (0 : Int) = some (.ref p) := by rw [← hpe]; exact atI_nat (j := 0) (List.getElem?_eq_getElem h0)
                        have hvc := sc _ _ hv
                        obtain ⟨sx1, sx2⟩ := fr_sz fx (by decide)
                        walk_at "rd"
                        refine ⟨x.1, x.2, rfl, fx.2.2.2, sx2, fun t1 ht1 => ?_⟩
                        have td := tc.trans (same_new (o := .tup (two (low x))) ht1)
                        have g1 : upd Hc t1 (.tup (two (low (x.1, x.2)))) t1 = some (.tup (two (low x))) := upd_same
                        have td' : Same Gc (upd Hc t1 (.tup (two (low (x.1, x.2))))) := td
                        clear td
                        generalize upd Hc t1 _ = Hd at *
                        walk_at "rd"
                        refine ⟨p, x, 1, rfl, td' _ _ hp, fx, by decide, fun t2 ht2 => ?_⟩
                        walk_at "rd"
                        exact ⟨t1, t2, low x, rfl, same_new ht2 _ _ g1, upd_same, k _⟩
end
end
end K40
set_option Elab.async false
set_option linter.all false
set_option maxRecDepth 100000
set_option maxHeartbeats 8000000
namespace K40
open PySem L2 Ar M40
section
variable {P : Program} {w : World} {K : PySem.W.Frag} {mg : Str → Option Value} {base : Heap}
theorem ok_all (T : Txt K mg) : FnOk P w K mg base CX0 6 T.law.f T.law.fd ["script"] (spLaw K) := by
  have g1 : FnOk P w K mg base CX0 1 T.ratio.f T.ratio.fd ["p", "q"] spRatio := ok_ratio T
  have g2 : FnOk P w K mg base CX0 2 T.plus.f T.plus.fd ["a", "b"] (spOp K 0) := ok_plus T g1
  have g3 : FnOk P w K mg base CX0 2 T.minus.f T.minus.fd ["a", "b"] (spOp K 1) := ok_minus T g1
  have g4 : FnOk P w K mg base CX0 2 T.times.f T.times.fd ["a", "b"] (spOp K 2) := ok_times T g1
  have g5 : FnOk P w K mg base CX0 2 T.over.f T.over.fd ["a", "b"] (spOp K 3) := ok_over T g1
  have g6 : FnOk P w K mg base CX0 1 T.below.f T.below.fd ["a", "b"] (spBelow K) := ok_below T
  have h1 : FnOk P w K mg base CX0 1 T.law_int.f T.law_int.fd ["value"] spInt := ok_law_int T
  have h2 : FnOk P w K mg base CX0 1 T.law_state.f T.law_state.fd ["script", "k"] (spState K) := ok_law_state T
  have h3 : FnOk P w K mg base CX0 1 T.law_next.f T.law_next.fd ["state", "size"] spNext := ok_law_next T
  have h4 : FnOk P w K mg base CX0 2 T.law_big.f T.law_big.fd ["state", "most"] spBig := ok_law_big T h3
  have h5 : FnOk P w K mg base CX0 2 T.law_signed.f T.law_signed.fd ["state", "value"] spSigned := ok_law_signed T h3
  have h6 : FnOk P w K mg base CX0 3 T.law_fraction.f T.law_fraction.fd ["state", "most"] spFraction := ok_law_fraction T h3 h4 h5
  have h7 : FnOk P w K mg base CX0 4 T.law_fractions.f T.law_fractions.fd ["state", "many", "most"] spFractions := ok_law_fractions T h3 h6
  have h8 : FnOk P w K mg base CX0 2 T.law_deeds.f T.law_deeds.fd ["state", "many", "deed"] spDeeds := ok_law_deeds T h3
  have h9 : FnOk P w K mg base CX0 1 T.law_common.f T.law_common.fd ["a", "b"] spCommon := ok_law_common T
  have j1 : FnOk P w K mg base CX0 2 T.law_lowest.f T.law_lowest.fd ["value"] spLowest := ok_law_lowest T h9
  have j2 : FnOk P w K mg base CX0 2 T.law_is.f T.law_is.fd ["told", "due"] spIs := ok_law_is T h1
  have j3 : FnOk P w K mg base CX0 1 T.law_says.f T.law_says.fd ["told", "due"] spSays := ok_law_says T
  have j4 : FnOk P w K mg base CX0 1 T.law_value.f T.law_value.fd ["deed", "one", "two"] spValue := ok_law_value T
  have j5 : FnOk P w K mg base CX0 3 T.law_told.f T.law_told.fd ["deed", "a", "b"] (spTold K) := ok_law_told T g2 g3 g4 g5
  have j6 : FnOk P w K mg base CX0 4 T.law_step.f T.law_step.fd ["deed", "one", "two"] spStep := ok_law_step T j4 j1 j2 j5
  have j7 : FnOk P w K mg base CX0 5 T.law_row.f T.law_row.fd ["things", "deeds"] spRow := ok_law_row T j6
  have j8 : FnOk P w K mg base CX0 1 T.law_less.f T.law_less.fd ["one", "two"] spLess := ok_law_less T
  have j9 : FnOk P w K mg base CX0 5 T.law_rules.f T.law_rules.fd ["a", "b", "c"] spRules := ok_law_rules T g3 g5 j2 j6
  have m1 : FnOk P w K mg base CX0 2 T.law_ordered.f T.law_ordered.fd ["things"] spOrdered := ok_law_ordered T g6 j3 j8
  have m2 : FnOk P w K mg base CX0 5 T.law_carried.f T.law_carried.fd ["a", "b", "c", "negative"] spCarried := ok_law_carried T g6 j3 j8 j6
  exact ok_law T g1 h3 h2 j1 j2 h7 h8 j7 j9 m1 m2
end
/-! ### what the top has written, the head -/
def mkDF {K : PySem.W.Frag} {h : Heap} {mg : Str → Option Value} (X : K.In h) (G : h.Ns mainGlobals mg) {nm : Str} {st : Stmt} {ps : List Str} {f : Addr} {oc : Value} {od an : Option Addr} {osl : Array (Option Value)} {kV doc pm cdv ct : Value}
    (a : PySem.W.nsIn K mainGlobals nm = some (some (.ref f))) (l : K.lookup f = some ⟨oc, od, .func (PySem.W.fnOf nm nm (defArgs st) (defBody st) (defScope st) .none kV doc pm an cdv ct), osl⟩) (c : PySem.W.codeIn K cdv nm = true) (k : PySem.W.keepIn K (.ref f) = true)
    (hb : ∀ (kV doc pm : Value) (an : Option Addr) (cdv ct : Value) (us : List Value), us.length = ps.length → bindArgs (PySem.W.fnOf nm nm (defArgs st) (defBody st) (defScope st) .none kV doc pm an cdv ct) ⟨us, []⟩ = pure (ps.zip us)) : DF K mg nm st ps :=
  ⟨f, _, fun_mk l c k, (fun_mk l c k).binds hb, PySem.W.mg_of X G a⟩
theorem all_mk {l : PySem.W.OpenLaw} {w : World} {K : PySem.W.Frag} {h : Heap} {mg : Str → Option Value} {fa f0 f1 f2 f3 f4 f5 f6 f7 f8 f9 f10 f11 f12 f13 f14 f15 f16 f17 f18 f19 f20 f21 f22 f23 f24 f25 f26 : Addr} (X : K.In h) (G : h.Ns mainGlobals mg) (hfa : mg "law" = some (.ref fa))
    {od0 an0 od1 an1 od2 an2 od3 an3 od4 an4 od5 an5 od6 an6 od7 an7 od8 an8 od9 an9 od10 an10 od11 an11 od12 an12 od13 an13 od14 an14 od15 an15 od16 an16 od17 an17 od18 an18 od19 an19 od20 an20 od21 an21 od22 an22 od23 an23 od24 an24 od25 an25 od26 an26 : Option Addr} {sl0 sl1 sl2 sl3 sl4 sl5 sl6 sl7 sl8 sl9 sl10 sl11 sl12 sl13 sl14 sl15 sl16 sl17 sl18 sl19 sl20 sl21 sl22 sl23 sl24 sl25 sl26 : Array (Option Value)} {oc0 kV0 dc0 pm0 cd0 ct0 oc1 kV1 dc1 pm1 cd1 ct1 oc2 kV2 dc2 pm2 cd2 ct2 oc3 kV3 dc3 pm3 cd3 ct3 oc4 kV4 dc4 pm4 cd4 ct4 oc5 kV5 dc5 pm5 cd5 ct5 oc6 kV6 dc6 pm6 cd6 ct6 oc7 kV7 dc7 pm7 cd7 ct7 oc8 kV8 dc8 pm8 cd8 ct8 oc9 kV9 dc9 pm9 cd9 ct9 oc10 kV10 dc10 pm10 cd10 ct10 oc11 kV11 dc11 pm11 cd11 ct11 oc12 kV12 dc12 pm12 cd12 ct12 oc13 kV13 dc13 pm13 cd13 ct13 oc14 kV14 dc14 pm14 cd14 ct14 oc15 kV15 dc15 pm15 cd15 ct15 oc16 kV16 dc16 pm16 cd16 ct16 oc17 kV17 dc17 pm17 cd17 ct17 oc18 kV18 dc18 pm18 cd18 ct18 oc19 kV19 dc19 pm19 cd19 ct19 oc20 kV20 dc20 pm20 cd20 ct20 oc21 kV21 dc21 pm21 cd21 ct21 oc22 kV22 dc22 pm22 cd22 ct22 oc23 kV23 dc23 pm23 cd23 ct23 oc24 kV24 dc24 pm24 cd24 ct24 oc25 kV25 dc25 pm25 cd25 ct25 oc26 kV26 dc26 pm26 cd26 ct26 : Value}
    (a0 : PySem.W.nsIn K mainGlobals "ratio" = some (some (.ref f0))) (l0 : K.lookup f0 = some ⟨oc0, od0, .func (PySem.W.fnOf "ratio" "ratio" (defArgs s_ratio) (defBody s_ratio) (defScope s_ratio) .none kV0 dc0 pm0 an0 cd0 ct0), sl0⟩) (c0 : PySem.W.codeIn K cd0 "ratio" = true) (k0 : PySem.W.keepIn K (.ref f0) = true)
    (a1 : PySem.W.nsIn K mainGlobals "plus" = some (some (.ref f1))) (l1 : K.lookup f1 = some ⟨oc1, od1, .func (PySem.W.fnOf "plus" "plus" (defArgs s_plus) (defBody s_plus) (defScope s_plus) .none kV1 dc1 pm1 an1 cd1 ct1), sl1⟩) (c1 : PySem.W.codeIn K cd1 "plus" = true) (k1 : PySem.W.keepIn K (.ref f1) = true)
    (a2 : PySem.W.nsIn K mainGlobals "minus" = some (some (.ref f2))) (l2 : K.lookup f2 = some ⟨oc2, od2, .func (PySem.W.fnOf "minus" "minus" (defArgs s_minus) (defBody s_minus) (defScope s_minus) .none kV2 dc2 pm2 an2 cd2 ct2), sl2⟩) (c2 : PySem.W.codeIn K cd2 "minus" = true) (k2 : PySem.W.keepIn K (.ref f2) = true)
    (a3 : PySem.W.nsIn K mainGlobals "times" = some (some (.ref f3))) (l3 : K.lookup f3 = some ⟨oc3, od3, .func (PySem.W.fnOf "times" "times" (defArgs s_times) (defBody s_times) (defScope s_times) .none kV3 dc3 pm3 an3 cd3 ct3), sl3⟩) (c3 : PySem.W.codeIn K cd3 "times" = true) (k3 : PySem.W.keepIn K (.ref f3) = true)
    (a4 : PySem.W.nsIn K mainGlobals "over" = some (some (.ref f4))) (l4 : K.lookup f4 = some ⟨oc4, od4, .func (PySem.W.fnOf "over" "over" (defArgs s_over) (defBody s_over) (defScope s_over) .none kV4 dc4 pm4 an4 cd4 ct4), sl4⟩) (c4 : PySem.W.codeIn K cd4 "over" = true) (k4 : PySem.W.keepIn K (.ref f4) = true)
    (a5 : PySem.W.nsIn K mainGlobals "below" = some (some (.ref f5))) (l5 : K.lookup f5 = some ⟨oc5, od5, .func (PySem.W.fnOf "below" "below" (defArgs s_below) (defBody s_below) (defScope s_below) .none kV5 dc5 pm5 an5 cd5 ct5), sl5⟩) (c5 : PySem.W.codeIn K cd5 "below" = true) (k5 : PySem.W.keepIn K (.ref f5) = true)
    (a6 : PySem.W.nsIn K mainGlobals "_law_int" = some (some (.ref f6))) (l6 : K.lookup f6 = some ⟨oc6, od6, .func (PySem.W.fnOf "_law_int" "_law_int" (defArgs s_law_int) (defBody s_law_int) (defScope s_law_int) .none kV6 dc6 pm6 an6 cd6 ct6), sl6⟩) (c6 : PySem.W.codeIn K cd6 "_law_int" = true) (k6 : PySem.W.keepIn K (.ref f6) = true)
    (a7 : PySem.W.nsIn K mainGlobals "_law_state" = some (some (.ref f7))) (l7 : K.lookup f7 = some ⟨oc7, od7, .func (PySem.W.fnOf "_law_state" "_law_state" (defArgs s_law_state) (defBody s_law_state) (defScope s_law_state) .none kV7 dc7 pm7 an7 cd7 ct7), sl7⟩) (c7 : PySem.W.codeIn K cd7 "_law_state" = true) (k7 : PySem.W.keepIn K (.ref f7) = true)
    (a8 : PySem.W.nsIn K mainGlobals "_law_next" = some (some (.ref f8))) (l8 : K.lookup f8 = some ⟨oc8, od8, .func (PySem.W.fnOf "_law_next" "_law_next" (defArgs s_law_next) (defBody s_law_next) (defScope s_law_next) .none kV8 dc8 pm8 an8 cd8 ct8), sl8⟩) (c8 : PySem.W.codeIn K cd8 "_law_next" = true) (k8 : PySem.W.keepIn K (.ref f8) = true)
    (a9 : PySem.W.nsIn K mainGlobals "_law_big" = some (some (.ref f9))) (l9 : K.lookup f9 = some ⟨oc9, od9, .func (PySem.W.fnOf "_law_big" "_law_big" (defArgs s_law_big) (defBody s_law_big) (defScope s_law_big) .none kV9 dc9 pm9 an9 cd9 ct9), sl9⟩) (c9 : PySem.W.codeIn K cd9 "_law_big" = true) (k9 : PySem.W.keepIn K (.ref f9) = true)
    (a10 : PySem.W.nsIn K mainGlobals "_law_signed" = some (some (.ref f10))) (l10 : K.lookup f10 = some ⟨oc10, od10, .func (PySem.W.fnOf "_law_signed" "_law_signed" (defArgs s_law_signed) (defBody s_law_signed) (defScope s_law_signed) .none kV10 dc10 pm10 an10 cd10 ct10), sl10⟩) (c10 : PySem.W.codeIn K cd10 "_law_signed" = true) (k10 : PySem.W.keepIn K (.ref f10) = true)
    (a11 : PySem.W.nsIn K mainGlobals "_law_fraction" = some (some (.ref f11))) (l11 : K.lookup f11 = some ⟨oc11, od11, .func (PySem.W.fnOf "_law_fraction" "_law_fraction" (defArgs s_law_fraction) (defBody s_law_fraction) (defScope s_law_fraction) .none kV11 dc11 pm11 an11 cd11 ct11), sl11⟩) (c11 : PySem.W.codeIn K cd11 "_law_fraction" = true) (k11 : PySem.W.keepIn K (.ref f11) = true)
    (a12 : PySem.W.nsIn K mainGlobals "_law_fractions" = some (some (.ref f12))) (l12 : K.lookup f12 = some ⟨oc12, od12, .func (PySem.W.fnOf "_law_fractions" "_law_fractions" (defArgs s_law_fractions) (defBody s_law_fractions) (defScope s_law_fractions) .none kV12 dc12 pm12 an12 cd12 ct12), sl12⟩) (c12 : PySem.W.codeIn K cd12 "_law_fractions" = true) (k12 : PySem.W.keepIn K (.ref f12) = true)
    (a13 : PySem.W.nsIn K mainGlobals "_law_deeds" = some (some (.ref f13))) (l13 : K.lookup f13 = some ⟨oc13, od13, .func (PySem.W.fnOf "_law_deeds" "_law_deeds" (defArgs s_law_deeds) (defBody s_law_deeds) (defScope s_law_deeds) .none kV13 dc13 pm13 an13 cd13 ct13), sl13⟩) (c13 : PySem.W.codeIn K cd13 "_law_deeds" = true) (k13 : PySem.W.keepIn K (.ref f13) = true)
    (a14 : PySem.W.nsIn K mainGlobals "_law_common" = some (some (.ref f14))) (l14 : K.lookup f14 = some ⟨oc14, od14, .func (PySem.W.fnOf "_law_common" "_law_common" (defArgs s_law_common) (defBody s_law_common) (defScope s_law_common) .none kV14 dc14 pm14 an14 cd14 ct14), sl14⟩) (c14 : PySem.W.codeIn K cd14 "_law_common" = true) (k14 : PySem.W.keepIn K (.ref f14) = true)
    (a15 : PySem.W.nsIn K mainGlobals "_law_lowest" = some (some (.ref f15))) (l15 : K.lookup f15 = some ⟨oc15, od15, .func (PySem.W.fnOf "_law_lowest" "_law_lowest" (defArgs s_law_lowest) (defBody s_law_lowest) (defScope s_law_lowest) .none kV15 dc15 pm15 an15 cd15 ct15), sl15⟩) (c15 : PySem.W.codeIn K cd15 "_law_lowest" = true) (k15 : PySem.W.keepIn K (.ref f15) = true)
    (a16 : PySem.W.nsIn K mainGlobals "_law_is" = some (some (.ref f16))) (l16 : K.lookup f16 = some ⟨oc16, od16, .func (PySem.W.fnOf "_law_is" "_law_is" (defArgs s_law_is) (defBody s_law_is) (defScope s_law_is) .none kV16 dc16 pm16 an16 cd16 ct16), sl16⟩) (c16 : PySem.W.codeIn K cd16 "_law_is" = true) (k16 : PySem.W.keepIn K (.ref f16) = true)
    (a17 : PySem.W.nsIn K mainGlobals "_law_says" = some (some (.ref f17))) (l17 : K.lookup f17 = some ⟨oc17, od17, .func (PySem.W.fnOf "_law_says" "_law_says" (defArgs s_law_says) (defBody s_law_says) (defScope s_law_says) .none kV17 dc17 pm17 an17 cd17 ct17), sl17⟩) (c17 : PySem.W.codeIn K cd17 "_law_says" = true) (k17 : PySem.W.keepIn K (.ref f17) = true)
    (a18 : PySem.W.nsIn K mainGlobals "_law_value" = some (some (.ref f18))) (l18 : K.lookup f18 = some ⟨oc18, od18, .func (PySem.W.fnOf "_law_value" "_law_value" (defArgs s_law_value) (defBody s_law_value) (defScope s_law_value) .none kV18 dc18 pm18 an18 cd18 ct18), sl18⟩) (c18 : PySem.W.codeIn K cd18 "_law_value" = true) (k18 : PySem.W.keepIn K (.ref f18) = true)
    (a19 : PySem.W.nsIn K mainGlobals "_law_told" = some (some (.ref f19))) (l19 : K.lookup f19 = some ⟨oc19, od19, .func (PySem.W.fnOf "_law_told" "_law_told" (defArgs s_law_told) (defBody s_law_told) (defScope s_law_told) .none kV19 dc19 pm19 an19 cd19 ct19), sl19⟩) (c19 : PySem.W.codeIn K cd19 "_law_told" = true) (k19 : PySem.W.keepIn K (.ref f19) = true)
    (a20 : PySem.W.nsIn K mainGlobals "_law_step" = some (some (.ref f20))) (l20 : K.lookup f20 = some ⟨oc20, od20, .func (PySem.W.fnOf "_law_step" "_law_step" (defArgs s_law_step) (defBody s_law_step) (defScope s_law_step) .none kV20 dc20 pm20 an20 cd20 ct20), sl20⟩) (c20 : PySem.W.codeIn K cd20 "_law_step" = true) (k20 : PySem.W.keepIn K (.ref f20) = true)
    (a21 : PySem.W.nsIn K mainGlobals "_law_row" = some (some (.ref f21))) (l21 : K.lookup f21 = some ⟨oc21, od21, .func (PySem.W.fnOf "_law_row" "_law_row" (defArgs s_law_row) (defBody s_law_row) (defScope s_law_row) .none kV21 dc21 pm21 an21 cd21 ct21), sl21⟩) (c21 : PySem.W.codeIn K cd21 "_law_row" = true) (k21 : PySem.W.keepIn K (.ref f21) = true)
    (a22 : PySem.W.nsIn K mainGlobals "_law_less" = some (some (.ref f22))) (l22 : K.lookup f22 = some ⟨oc22, od22, .func (PySem.W.fnOf "_law_less" "_law_less" (defArgs s_law_less) (defBody s_law_less) (defScope s_law_less) .none kV22 dc22 pm22 an22 cd22 ct22), sl22⟩) (c22 : PySem.W.codeIn K cd22 "_law_less" = true) (k22 : PySem.W.keepIn K (.ref f22) = true)
    (a23 : PySem.W.nsIn K mainGlobals "_law_rules" = some (some (.ref f23))) (l23 : K.lookup f23 = some ⟨oc23, od23, .func (PySem.W.fnOf "_law_rules" "_law_rules" (defArgs s_law_rules) (defBody s_law_rules) (defScope s_law_rules) .none kV23 dc23 pm23 an23 cd23 ct23), sl23⟩) (c23 : PySem.W.codeIn K cd23 "_law_rules" = true) (k23 : PySem.W.keepIn K (.ref f23) = true)
    (a24 : PySem.W.nsIn K mainGlobals "_law_ordered" = some (some (.ref f24))) (l24 : K.lookup f24 = some ⟨oc24, od24, .func (PySem.W.fnOf "_law_ordered" "_law_ordered" (defArgs s_law_ordered) (defBody s_law_ordered) (defScope s_law_ordered) .none kV24 dc24 pm24 an24 cd24 ct24), sl24⟩) (c24 : PySem.W.codeIn K cd24 "_law_ordered" = true) (k24 : PySem.W.keepIn K (.ref f24) = true)
    (a25 : PySem.W.nsIn K mainGlobals "_law_carried" = some (some (.ref f25))) (l25 : K.lookup f25 = some ⟨oc25, od25, .func (PySem.W.fnOf "_law_carried" "_law_carried" (defArgs s_law_carried) (defBody s_law_carried) (defScope s_law_carried) .none kV25 dc25 pm25 an25 cd25 ct25), sl25⟩) (c25 : PySem.W.codeIn K cd25 "_law_carried" = true) (k25 : PySem.W.keepIn K (.ref f25) = true)
    (a26 : PySem.W.nsIn K mainGlobals "law" = some (some (.ref f26))) (l26 : K.lookup f26 = some ⟨oc26, od26, .func (PySem.W.fnOf "law" "law" (defArgs s_law) (defBody s_law) (defScope s_law) .none kV26 dc26 pm26 an26 cd26 ct26), sl26⟩) (c26 : PySem.W.codeIn K cd26 "law" = true) (k26 : PySem.W.keepIn K (.ref f26) = true)
    (z_abs : PySem.W.nsIn K mainGlobals "abs" = some none)
    (z_bool : PySem.W.nsIn K mainGlobals "bool" = some none)
    (z_enumerate : PySem.W.nsIn K mainGlobals "enumerate" = some none)
    (z_int : PySem.W.nsIn K mainGlobals "int" = some none)
    (z_isinstance : PySem.W.nsIn K mainGlobals "isinstance" = some none)
    (z_len : PySem.W.nsIn K mainGlobals "len" = some none)
    (z_list : PySem.W.nsIn K mainGlobals "list" = some none)
    (z_max : PySem.W.nsIn K mainGlobals "max" = some none)
    (z_range : PySem.W.nsIn K mainGlobals "range" = some none)
    (z_tuple : PySem.W.nsIn K mainGlobals "tuple" = some none)
    (z_gcd : PySem.W.nsIn K mainGlobals "gcd" = some (some (.builtin "math.gcd")))
    : ∃ fd : FuncData, (∀ (s : Shared) (v : Value), BindsTo s fd ⟨[v], []⟩ [("script", v)]) ∧ ∀ base : Heap, K.In base → base.Ns mainGlobals mg → FnOk l.prog w K mg base CX0 6 fa fd ["script"] (spLaw K) := by
  have e := hfa.symm.trans (PySem.W.mg_of X G a26)
  cases e
  let T : Txt K mg := {
    ratio := mkDF X G a0 l0 c0 k0 (fun _ _ _ _ _ _ us hl => match us, hl with | [_, _], _ => rfl)
    plus := mkDF X G a1 l1 c1 k1 (fun _ _ _ _ _ _ us hl => match us, hl with | [_, _], _ => rfl)
    minus := mkDF X G a2 l2 c2 k2 (fun _ _ _ _ _ _ us hl => match us, hl with | [_, _], _ => rfl)
    times := mkDF X G a3 l3 c3 k3 (fun _ _ _ _ _ _ us hl => match us, hl with | [_, _], _ => rfl)
    over := mkDF X G a4 l4 c4 k4 (fun _ _ _ _ _ _ us hl => match us, hl with | [_, _], _ => rfl)
    below := mkDF X G a5 l5 c5 k5 (fun _ _ _ _ _ _ us hl => match us, hl with | [_, _], _ => rfl)
    law_int := mkDF X G a6 l6 c6 k6 (fun _ _ _ _ _ _ us hl => match us, hl with | [_], _ => rfl)
    law_state := mkDF X G a7 l7 c7 k7 (fun _ _ _ _ _ _ us hl => match us, hl with | [_, _], _ => rfl)
    law_next := mkDF X G a8 l8 c8 k8 (fun _ _ _ _ _ _ us hl => match us, hl with | [_, _], _ => rfl)
    law_big := mkDF X G a9 l9 c9 k9 (fun _ _ _ _ _ _ us hl => match us, hl with | [_, _], _ => rfl)
    law_signed := mkDF X G a10 l10 c10 k10 (fun _ _ _ _ _ _ us hl => match us, hl with | [_, _], _ => rfl)
    law_fraction := mkDF X G a11 l11 c11 k11 (fun _ _ _ _ _ _ us hl => match us, hl with | [_, _], _ => rfl)
    law_fractions := mkDF X G a12 l12 c12 k12 (fun _ _ _ _ _ _ us hl => match us, hl with | [_, _, _], _ => rfl)
    law_deeds := mkDF X G a13 l13 c13 k13 (fun _ _ _ _ _ _ us hl => match us, hl with | [_, _, _], _ => rfl)
    law_common := mkDF X G a14 l14 c14 k14 (fun _ _ _ _ _ _ us hl => match us, hl with | [_, _], _ => rfl)
    law_lowest := mkDF X G a15 l15 c15 k15 (fun _ _ _ _ _ _ us hl => match us, hl with | [_], _ => rfl)
    law_is := mkDF X G a16 l16 c16 k16 (fun _ _ _ _ _ _ us hl => match us, hl with | [_, _], _ => rfl)
    law_says := mkDF X G a17 l17 c17 k17 (fun _ _ _ _ _ _ us hl => match us, hl with | [_, _], _ => rfl)
    law_value := mkDF X G a18 l18 c18 k18 (fun _ _ _ _ _ _ us hl => match us, hl with | [_, _, _], _ => rfl)
    law_told := mkDF X G a19 l19 c19 k19 (fun _ _ _ _ _ _ us hl => match us, hl with | [_, _, _], _ => rfl)
    law_step := mkDF X G a20 l20 c20 k20 (fun _ _ _ _ _ _ us hl => match us, hl with | [_, _, _], _ => rfl)
    law_row := mkDF X G a21 l21 c21 k21 (fun _ _ _ _ _ _ us hl => match us, hl with | [_, _], _ => rfl)
    law_less := mkDF X G a22 l22 c22 k22 (fun _ _ _ _ _ _ us hl => match us, hl with | [_, _], _ => rfl)
    law_rules := mkDF X G a23 l23 c23 k23 (fun _ _ _ _ _ _ us hl => match us, hl with | [_, _, _], _ => rfl)
    law_ordered := mkDF X G a24 l24 c24 k24 (fun _ _ _ _ _ _ us hl => match us, hl with | [_], _ => rfl)
    law_carried := mkDF X G a25 l25 c25 k25 (fun _ _ _ _ _ _ us hl => match us, hl with | [_, _, _, _], _ => rfl)
    law := mkDF X G a26 l26 c26 k26 (fun _ _ _ _ _ _ us hl => match us, hl with | [_], _ => rfl)
    z_abs := PySem.W.mg_none_of X G z_abs
    z_bool := PySem.W.mg_none_of X G z_bool
    z_enumerate := PySem.W.mg_none_of X G z_enumerate
    z_int := PySem.W.mg_none_of X G z_int
    z_isinstance := PySem.W.mg_none_of X G z_isinstance
    z_len := PySem.W.mg_none_of X G z_len
    z_list := PySem.W.mg_none_of X G z_list
    z_max := PySem.W.mg_none_of X G z_max
    z_range := PySem.W.mg_none_of X G z_range
    z_tuple := PySem.W.mg_none_of X G z_tuple
    z_gcd := PySem.W.mg_of X G z_gcd
  }
  refine ⟨T.law.fd, fun s v => .of_eq rfl, fun base _ _ => ?_⟩
  exact ok_all T
theorem walk {l : PySem.W.OpenLaw} {q : Program} {loose : List Str} {XP : (Str → Option Value) → Heap → Prop} {YP : World → Heap → Prop} {d : DefRec} {K : Params → PySem.W.Frag} (hn : l.most = some 63) (hdf : d.params.defaults = [])
    (hY : ∀ (w : World) (h : Heap), YP w h → (K w.params).In h)
    (F : ∀ (w : World) (mg : Str → Option Value) (fa : Addr) (h : Heap), (K w.params).In h → h.Ns mainGlobals mg → mg d.name = some (.ref fa) →
      ∃ fd : FuncData, (∀ (s : Shared) (u : Value), BindsTo s fd ⟨[u], []⟩ [("script", u)]) ∧ ∀ base : Heap, (K w.params).In base → base.Ns mainGlobals mg → FnOk l.prog w (K w.params) mg base CX0 6 fa fd ["script"] (spLaw (K w.params))) :
    PySem.W.WalkO q loose XP YP l.row.toRowW d [] (fun f vs => PySem.call f vs) :=
  L2.walk_of (n := 63) (k := 6) (x := "script") (CX := fun _ => CX0) (sp := fun w => spLaw (K w.params)) hn (by decide) hdf ⟨rfl, by decide, by decide⟩ hY F (fun _ _ a ns hl _ hS => ⟨a, ns, rfl, hS, hl, fun _ => rfl⟩) fun _ _ _ _ _ z => z
end K40
open PySem PySem.W PyProof.Rows in
set_option maxRecDepth 100000 in
set_option maxHeartbeats 0 in
theorem PySem.Challenge.cw_roomsfit_k40_ratio_sums_holds : PySem.Challenge.rw_roomsfit_k40_ratio_sums.Holds := by
  w_on; o_law; k_head; (case hw => w_witness2)
  k_fill
  refine K40.walk (l := PySem.Challenge.rw_roomsfit_k40_ratio_sums) rfl rfl (fun w h Y => PySem.W.kIn_of Y) ?F
  case F =>
    intro w mg fa h KX G hmg
    refine' K40.all_mk KX G hmg ?a0 ?l0 ?c0 ?k0 ?a1 ?l1 ?c1 ?k1 ?a2 ?l2 ?c2 ?k2 ?a3 ?l3 ?c3 ?k3 ?a4 ?l4 ?c4 ?k4 ?a5 ?l5 ?c5 ?k5 ?a6 ?l6 ?c6 ?k6 ?a7 ?l7 ?c7 ?k7 ?a8 ?l8 ?c8 ?k8 ?a9 ?l9 ?c9 ?k9 ?a10 ?l10 ?c10 ?k10 ?a11 ?l11 ?c11 ?k11 ?a12 ?l12 ?c12 ?k12 ?a13 ?l13 ?c13 ?k13 ?a14 ?l14 ?c14 ?k14 ?a15 ?l15 ?c15 ?k15 ?a16 ?l16 ?c16 ?k16 ?a17 ?l17 ?c17 ?k17 ?a18 ?l18 ?c18 ?k18 ?a19 ?l19 ?c19 ?k19 ?a20 ?l20 ?c20 ?k20 ?a21 ?l21 ?c21 ?k21 ?a22 ?l22 ?c22 ?k22 ?a23 ?l23 ?c23 ?k23 ?a24 ?l24 ?c24 ?k24 ?a25 ?l25 ?c25 ?k25 ?a26 ?l26 ?c26 ?k26 ?z_abs ?z_bool ?z_enumerate ?z_int ?z_isinstance ?z_len ?z_list ?z_max ?z_range ?z_tuple ?z_gcd
    (case a0 => k_is)
    (case l0 => k_is)
    (case c0 => k_is)
    (case k0 => k_is)
    (case a1 => k_is)
    (case l1 => k_is)
    (case c1 => k_is)
    (case k1 => k_is)
    (case a2 => k_is)
    (case l2 => k_is)
    (case c2 => k_is)
    (case k2 => k_is)
    (case a3 => k_is)
    (case l3 => k_is)
    (case c3 => k_is)
    (case k3 => k_is)
    (case a4 => k_is)
    (case l4 => k_is)
    (case c4 => k_is)
    (case k4 => k_is)
    (case a5 => k_is)
    (case l5 => k_is)
    (case c5 => k_is)
    (case k5 => k_is)
    (case a6 => k_is)
    (case l6 => k_is)
    (case c6 => k_is)
    (case k6 => k_is)
    (case a7 => k_is)
    (case l7 => k_is)
    (case c7 => k_is)
    (case k7 => k_is)
    (case a8 => k_is)
    (case l8 => k_is)
    (case c8 => k_is)
    (case k8 => k_is)
    (case a9 => k_is)
    (case l9 => k_is)
    (case c9 => k_is)
    (case k9 => k_is)
    (case a10 => k_is)
    (case l10 => k_is)
    (case c10 => k_is)
    (case k10 => k_is)
    (case a11 => k_is)
    (case l11 => k_is)
    (case c11 => k_is)
    (case k11 => k_is)
    (case a12 => k_is)
    (case l12 => k_is)
    (case c12 => k_is)
    (case k12 => k_is)
    (case a13 => k_is)
    (case l13 => k_is)
    (case c13 => k_is)
    (case k13 => k_is)
    (case a14 => k_is)
    (case l14 => k_is)
    (case c14 => k_is)
    (case k14 => k_is)
    (case a15 => k_is)
    (case l15 => k_is)
    (case c15 => k_is)
    (case k15 => k_is)
    (case a16 => k_is)
    (case l16 => k_is)
    (case c16 => k_is)
    (case k16 => k_is)
    (case a17 => k_is)
    (case l17 => k_is)
    (case c17 => k_is)
    (case k17 => k_is)
    (case a18 => k_is)
    (case l18 => k_is)
    (case c18 => k_is)
    (case k18 => k_is)
    (case a19 => k_is)
    (case l19 => k_is)
    (case c19 => k_is)
    (case k19 => k_is)
    (case a20 => k_is)
    (case l20 => k_is)
    (case c20 => k_is)
    (case k20 => k_is)
    (case a21 => k_is)
    (case l21 => k_is)
    (case c21 => k_is)
    (case k21 => k_is)
    (case a22 => k_is)
    (case l22 => k_is)
    (case c22 => k_is)
    (case k22 => k_is)
    (case a23 => k_is)
    (case l23 => k_is)
    (case c23 => k_is)
    (case k23 => k_is)
    (case a24 => k_is)
    (case l24 => k_is)
    (case c24 => k_is)
    (case k24 => k_is)
    (case a25 => k_is)
    (case l25 => k_is)
    (case c25 => k_is)
    (case k25 => k_is)
    (case a26 => k_is)
    (case l26 => k_is)
    (case c26 => k_is)
    (case k26 => k_is)
    (case z_abs => k_is)
    (case z_bool => k_is)
    (case z_enumerate => k_is)
    (case z_int => k_is)
    (case z_isinstance => k_is)
    (case z_len => k_is)
    (case z_list => k_is)
    (case z_max => k_is)
    (case z_range => k_is)
    (case z_tuple => k_is)
    (case z_gcd => k_is)
