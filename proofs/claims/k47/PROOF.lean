import PyProof.Rows.All
import Wide.All
import OpenK.AllK
import Wide.FinOn
import HandS.ForMost
import HandS.ForExc
import HandS.Flow
import HandS.IsInst
import HandS.Style
import HandS.NoneIn
import HandS.Conv
import HandS.More
import HandS.TryOnly
import HandS.SetFor
import HandS.SetTxt0
import HandS.Text
import PyProof.StrBlock2
import HandS.SortKw
import HandS.Flt
import KE.DatumOrd
import PyProof.MaxThree
import HandS.ExcIs
import HandS.HotCalls
import HandS.DictComp
import HandS.Small
import PySem.Challenge.RW_lesssay_k47_true_at_settings
set_option Elab.async false
set_option linter.all false
set_option maxRecDepth 100000
set_option maxHeartbeats 4000000
namespace Ls
open PySem PySem.Spec PyProof.Rows L2
inductive Sl where
  | val (d : PyData)
  | mut (ds : List PyData)
inductive W where
  | val (d : PyData)
  | tmp (ds : List PyData)
  | loc (i : Nat)
abbrev Env := List (Option Sl)
inductive Res (α : Type) where
  | stuck
  | exc (c : Str) (ρ : Env)
  | ok (a : α) (ρ : Env)
@[inline] def Res.bind {α β : Type} (r : Res α) (f : α → Env → Res β) : Res β := match r with
  | .stuck => .stuck
  | .exc c ρ => .exc c ρ
  | .ok a ρ => f a ρ
theorem Res.bind_ok {α β : Type} (a : α) (ρ : Env) (f : α → Env → Res β) : (Res.ok a ρ).bind f = f a ρ := rfl
@[simp] theorem Res.bind_exc {α β : Type} (c : Str) (ρ : Env) (f : α → Env → Res β) : (Res.exc c ρ : Res α).bind f = .exc c ρ := rfl
@[simp] theorem Res.bind_stuck {α β : Type} (f : α → Env → Res β) : (Res.stuck : Res α).bind f = .stuck := rfl

abbrev scrD (ns : List Int) : PyData := .dict [(.list (ns.map .int), .none)]
def kvD (p : Str × Bool) : PyData := .tuple [.str p.1, .bool p.2]
abbrev dctD (kvs : List (Str × Bool)) : PyData := .dict [(.tuple (kvs.map kvD), .none)]
def kvV (p : Str × Bool) : Key × V := (.inr p.1, .bl p.2)
theorem kvD_inj : ∀ {ks ls : List (Str × Bool)}, ks.map kvD = ls.map kvD → ks = ls
  | [], [], _ => rfl
  | [], _ :: _, h => by simp at h
  | _ :: _, [], h => by simp at h
  | (x, b) :: ks, (y, c) :: ls, h => by
    simp only [List.map_cons, List.cons.injEq, kvD, PyData.tuple.injEq, PyData.str.injEq, PyData.bool.injEq, and_true] at h
    obtain ⟨⟨h1, h2⟩, h3⟩ := h
    rw [h1, h2, kvD_inj h3]
mutual
inductive Rep (K : PySem.W.Frag) (F : Addr → Prop) (H : Hp) : V → PyData → Prop
  | non : Rep K F H .non .none
  | bl (b : Bool) : Rep K F H (.bl b) (.bool b)
  | int (i : Int) : Rep K F H (.int i) (.int i)
  | str (x : Str) : Rep K F H (.str x) (.str x)
  | lst {a : Addr} {xs : List V} {ds : List PyData} : F a → Rd H a (.lst xs) → RepA K F H xs ds → Rep K F H (.ref a) (.list ds)
  | tup {a : Addr} {xs : List V} {ds : List PyData} : (F a ∨ ∀ H', SqT K H' a xs) → SqT K H a xs → RepA K F H xs ds → Rep K F H (.ref a) (.tuple ds)
  | scr {a : Addr} {ns : List Int} : (F a ∨ ∀ H', SqL K H' a (ns.map V.int)) → SqL K H a (ns.map V.int) → Rep K F H (.ref a) (scrD ns)
  | dct {a : Addr} {kvs : List (Str × Bool)} : F a → H a = some (.dK (kvs.map kvV)) → Rep K F H (.ref a) (dctD kvs)
inductive RepA (K : PySem.W.Frag) (F : Addr → Prop) (H : Hp) : List V → List PyData → Prop
  | nil : RepA K F H [] []
  | cons {v : V} {vs : List V} {d : PyData} {ds : List PyData} : Rep K F H v d → RepA K F H vs ds → RepA K F H (v :: vs) (d :: ds)
end
def Stab (F : Addr → Prop) (H H' : Hp) : Prop := ∀ b o, F b → H b = some o → H' b = some o
theorem rd_stab {F : Addr → Prop} {H H' : Hp} {a : Addr} {u : HO} (s : Stab F H H') (f : F a) (h : Rd H a u) : Rd H' a u := by
  rcases h with h | ⟨o, h⟩
  · exact .inl (s a _ f h)
  · exact .inr ⟨o, s a _ f h⟩
theorem sqt_stab {K : PySem.W.Frag} {F : Addr → Prop} {H H' : Hp} {a : Addr} {xs : List V} (s : Stab F H H') (f : F a ∨ ∀ H', SqT K H' a xs) (h : SqT K H a xs) : SqT K H' a xs := by
  rcases f with f | f
  · rcases h with h | h
    · exact .inl (rd_stab s f h)
    · exact .inr h
  · exact f H'
theorem sql_stab {K : PySem.W.Frag} {F : Addr → Prop} {H H' : Hp} {a : Addr} {xs : List V} (s : Stab F H H') (f : F a ∨ ∀ H', SqL K H' a xs) (h : SqL K H a xs) : SqL K H' a xs := by
  rcases f with f | f
  · rcases h with h | h
    · exact .inl (rd_stab s f h)
    · exact .inr h
  · exact f H'
mutual
theorem Rep.mono {K : PySem.W.Frag} {F F' : Addr → Prop} {H H' : Hp} (hF : ∀ b, F b → F' b) (s : Stab F H H') : ∀ (d : PyData) (v : V), Rep K F H v d → Rep K F' H' v d
  | .none, _, h => by cases h; exact .non
  | .bool b, _, h => by cases h; exact .bl b
  | .int i, _, h => by cases h; exact .int i
  | .str x, _, h => by cases h; exact .str x
  | .list ds, _, h => by
    cases h with
    | lst f r ra => exact .lst (hF _ f) (rd_stab s f r) (RepA.mono hF s ds _ ra)
  | .tuple ds, _, h => by
    cases h with
    | tup f r ra => exact .tup (f.imp (hF _) id) (sqt_stab s f r) (RepA.mono hF s ds _ ra)
  | .dict _, _, h => by
    cases h with
    | scr f r => exact .scr (f.imp (hF _) id) (sql_stab s f r)
    | dct f r => exact .dct (hF _ f) (s _ _ f r)
theorem RepA.mono {K : PySem.W.Frag} {F F' : Addr → Prop} {H H' : Hp} (hF : ∀ b, F b → F' b) (s : Stab F H H') : ∀ (ds : List PyData) (vs : List V), RepA K F H vs ds → RepA K F' H' vs ds
  | [], _, h => by cases h; exact .nil
  | d :: ds, _, h => by
    cases h with
    | cons h1 h2 => exact .cons (Rep.mono hF s d _ h1) (RepA.mono hF s ds _ h2)
end
mutual
theorem Rep.dp {K : PySem.W.Frag} {F : Addr → Prop} {H : Hp} : ∀ (d : PyData) (v : V), Rep K F H v d → d.canLay0 = true → Dp K H v d
  | .none, _, h, _ => by cases h; exact .non
  | .bool b, _, h, _ => by cases h; exact .bl b
  | .int i, _, h, _ => by cases h; exact .int i
  | .str x, _, h, _ => by cases h; exact .str x
  | .list ds, _, h, c => by
    cases h with
    | lst f r ra => exact .lst (.inl r) (RepA.dp ds _ ra (by simpa [PyData.canLay0] using c))
  | .tuple ds, _, h, c => by
    cases h with
    | tup f r ra => exact .tup r (RepA.dp ds _ ra (by simpa [PyData.canLay0] using c))
  | .dict _, _, h, c => by simp [PyData.canLay0] at c
theorem RepA.dp {K : PySem.W.Frag} {F : Addr → Prop} {H : Hp} : ∀ (ds : List PyData) (vs : List V), RepA K F H vs ds → PyData.canLayAll0 ds = true → DpAll K H vs ds
  | [], _, h, _ => by cases h; exact .nil
  | d :: ds, _, h, c => by
    have c' : d.canLay0 = true ∧ PyData.canLayAll0 ds = true := by simpa [PyData.canLayAll0] using c
    cases h with
    | cons h1 h2 => exact .cons (Rep.dp d _ h1 c'.1) (RepA.dp ds _ h2 c'.2)
end
section
variable {K : PySem.W.Frag} {F F' : Addr → Prop} {H H' : Hp}
theorem RepA.len : ∀ {vs : List V} {ds : List PyData}, RepA K F H vs ds → vs.length = ds.length
  | _, _, .nil => rfl
  | _, _, .cons _ t => congrArg (· + 1) (RepA.len t)
theorem RepA.get : ∀ {vs : List V} {ds : List PyData} {i : Nat} {d : PyData}, RepA K F H vs ds → ds[i]? = some d → ∃ v, vs[i]? = some v ∧ Rep K F H v d
  | _, _, _, _, .nil, e => by simp at e
  | _, _, 0, _, .cons r _, e => by simp at e; subst e; exact ⟨_, rfl, r⟩
  | _, _, i + 1, _, .cons _ t, e => by
    obtain ⟨v, h1, h2⟩ := RepA.get (i := i) t (by simpa using e)
    exact ⟨v, by simpa using h1, h2⟩
theorem RepA.getV : ∀ {vs : List V} {ds : List PyData} {i : Nat} {v : V}, RepA K F H vs ds → vs[i]? = some v → ∃ d, ds[i]? = some d ∧ Rep K F H v d
  | _, _, _, _, .nil, e => by simp at e
  | _, _, 0, _, .cons r _, e => by simp at e; subst e; exact ⟨_, rfl, r⟩
  | _, _, i + 1, _, .cons _ t, e => by
    obtain ⟨v, h1, h2⟩ := RepA.getV (i := i) t (by simpa using e)
    exact ⟨v, by simpa using h1, h2⟩
theorem RepA.app : ∀ {vs ws : List V} {ds es : List PyData}, RepA K F H vs ds → RepA K F H ws es → RepA K F H (vs ++ ws) (ds ++ es)
  | _, _, _, _, .nil, s => s
  | _, _, _, _, .cons r t, s => .cons r (RepA.app t s)
theorem RepA.set {v : V} {d : PyData} (r : Rep K F H v d) : ∀ {vs : List V} {ds : List PyData} (i : Nat), RepA K F H vs ds → RepA K F H (vs.set i v) (ds.set i d)
  | _, _, _, .nil => .nil
  | _, _, 0, .cons _ t => .cons r t
  | _, _, i + 1, .cons q t => .cons q (RepA.set r i t)
theorem RepA.take : ∀ {vs : List V} {ds : List PyData} (n : Nat), RepA K F H vs ds → RepA K F H (vs.take n) (ds.take n)
  | _, _, 0, _ => .nil
  | _, _, _ + 1, .nil => .nil
  | _, _, n + 1, .cons r t => .cons r (RepA.take n t)
theorem RepA.drop : ∀ {vs : List V} {ds : List PyData} (n : Nat), RepA K F H vs ds → RepA K F H (vs.drop n) (ds.drop n)
  | _, _, 0, r => r
  | _, _, _ + 1, .nil => .nil
  | _, _, n + 1, .cons r t => RepA.drop n t
theorem RepA.rev : ∀ {vs : List V} {ds : List PyData}, RepA K F H vs ds → RepA K F H vs.reverse ds.reverse
  | _, _, .nil => .nil
  | _, _, .cons r t => by rw [List.reverse_cons, List.reverse_cons]; exact RepA.app (RepA.rev t) (.cons r .nil)
theorem RepA.erase : ∀ {vs : List V} {ds : List PyData} (i : Nat), RepA K F H vs ds → RepA K F H (vs.eraseIdx i) (ds.eraseIdx i)
  | _, _, _, .nil => .nil
  | _, _, 0, .cons _ t => t
  | _, _, i + 1, .cons q t => .cons q (RepA.erase i t)
end

structure ER (K : PySem.W.Frag) (F B : Addr → Prop) (H : Hp) (σ : L2.St) (ρ : Env) : Prop where
  len : σ.length = ρ.length
  dom : ∀ b, F b → ∃ o, H b = some o
  domB : ∀ b, B b → ∃ o, H b = some o
  sl : ∀ (i : Nat) (d : PyData), ρ[i]? = some (some (.val d)) → ∃ v, σ[i]? = some (some v) ∧ Rep K F H v d
  mt : ∀ (i : Nat) (ds : List PyData), ρ[i]? = some (some (.mut ds)) → ∃ a vs, σ[i]? = some (some (.ref a)) ∧ H a = some (.lst vs) ∧ ¬ F a ∧ ¬ B a ∧ RepA K F H vs ds
  inj : ∀ (i j : Nat) (ds es : List PyData) (a : Addr), ρ[i]? = some (some (.mut ds)) → ρ[j]? = some (some (.mut es)) → σ[i]? = some (some (.ref a)) → σ[j]? = some (some (.ref a)) → i = j
structure Gd (F B : Addr → Prop) (H : Hp) (F' : Addr → Prop) (H' : Hp) : Prop where
  sub : ∀ b, F b → F' b
  st : ∀ b o, F b ∨ B b → H b = some o → H' b = some o
  pr : ∀ b, B b → F' b → F b
theorem Gd.refl {F B : Addr → Prop} {H : Hp} : Gd F B H F H := ⟨fun _ h => h, fun _ _ _ h => h, fun _ _ h => h⟩
theorem Gd.trans {F B F1 F2 : Addr → Prop} {H H1 H2 : Hp} (a : Gd F B H F1 H1) (b : Gd F1 B H1 F2 H2) : Gd F B H F2 H2 :=
  ⟨fun x h => b.sub x (a.sub x h), fun x o h e => b.st x o (h.imp (a.sub x) id) (a.st x o h e), fun x h f => a.pr x h (b.pr x h f)⟩
theorem Gd.stab {F B F1 : Addr → Prop} {H H1 : Hp} (a : Gd F B H F1 H1) : Stab F H H1 := fun b o f e => a.st b o (.inl f) e
theorem Gd.less {F B B' F1 : Addr → Prop} {H H1 : Hp} (a : Gd F B H F1 H1) (h : ∀ b, B' b → B b) : Gd F B' H F1 H1 :=
  ⟨a.sub, fun x o z e => a.st x o (z.imp id (h x)) e, fun x z f => a.pr x (h x z) f⟩
theorem Rep.gd {K : PySem.W.Frag} {F B F1 : Addr → Prop} {H H1 : Hp} {v : V} {d : PyData} (g : Gd F B H F1 H1) (h : Rep K F H v d) : Rep K F1 H1 v d := Rep.mono g.sub g.stab d v h
theorem RepA.gd {K : PySem.W.Frag} {F B F1 : Addr → Prop} {H H1 : Hp} {vs : List V} {ds : List PyData} (g : Gd F B H F1 H1) (h : RepA K F H vs ds) : RepA K F1 H1 vs ds := RepA.mono g.sub g.stab ds vs h
def NotMut (σ : L2.St) (ρ : Env) (a : Addr) : Prop := ∀ (i : Nat) (ds : List PyData), ρ[i]? = some (some (.mut ds)) → σ[i]? ≠ some (some (.ref a))
def RW (K : PySem.W.Frag) (F B : Addr → Prop) (H : Hp) (σ : L2.St) (ρ : Env) (v : V) : W → Prop
  | .val d => Rep K F H v d
  | .tmp ds => ∃ a vs, v = .ref a ∧ H a = some (.lst vs) ∧ ¬ F a ∧ ¬ B a ∧ NotMut σ ρ a ∧ RepA K F H vs ds
  | .loc i => σ[i]? = some (some v)
def hold (B : Addr → Prop) (v : V) : W → Addr → Prop
  | .tmp _ => fun b => B b ∨ v = .ref b
  | _ => B
def RepS (K : PySem.W.Frag) (F : Addr → Prop) (H : Hp) (v : V) (d : PyData) : Prop :=
  Rep K F H v d ∨ ∃ a vs ds, v = .ref a ∧ d = .list ds ∧ H a = some (.lst vs) ∧ RepA K F H vs ds
def rdW (ρ : Env) : W → Option PyData
  | .val d => some d
  | .tmp ds => some (.list ds)
  | .loc i => match ρ[i]? with
    | some (some (.val d)) => some d
    | some (some (.mut ds)) => some (.list ds)
    | _ => none
def fzW (ρ : Env) : W → Option (PyData × Env)
  | .val d => some (d, ρ)
  | .tmp ds => some (.list ds, ρ)
  | .loc i => match ρ[i]? with
    | some (some (.val d)) => some (d, ρ)
    | some (some (.mut ds)) => some (.list ds, ρ.set i (some (.val (.list ds))))
    | _ => none

section
variable {K : PySem.W.Frag} {F F' B : Addr → Prop} {H H' : Hp} {σ : L2.St} {ρ : Env} {v : V} {w : W} {d : PyData}
theorem RepS.dp (h : RepS K F H v d) (c : d.canLay0 = true) : Dp K H v d := by
  rcases h with h | ⟨a, vs, ds, rfl, rfl, e, r⟩
  · exact h.dp _ _ c
  · exact .lst (.inl (.inl e)) (r.dp _ _ (by simpa [PyData.canLay0] using c))
theorem RepS.scr {ds : List PyData} (h : RepS K F H v (.dict [(.list ds, .none)])) : ∃ (a : Addr) (ns : List Int), v = .ref a ∧ ds = ns.map .int ∧ SqL K H a (ns.map V.int) := by
  rcases h with h | ⟨a, vs, ds', rfl, e', e, r⟩
  · generalize hd : (PyData.dict [(.list ds, .none)]) = d at h
    cases h with
    | scr f r =>
      cases hd
      exact ⟨_, _, rfl, rfl, r⟩
    | _ => cases hd
  · cases e'
theorem RepS.dct {kvs : List (Str × Bool)} (h : RepS K F H v (dctD kvs)) : ∃ a : Addr, v = .ref a ∧ F a ∧ H a = some (.dK (kvs.map kvV)) := by
  rcases h with h | ⟨a, vs, ds', rfl, e', e, r⟩
  · generalize hd : dctD kvs = d at h
    cases h with
    | dct f r =>
      simp only [PyData.dict.injEq, List.cons.injEq, Prod.mk.injEq, PyData.tuple.injEq, and_true] at hd
      rw [kvD_inj hd]
      exact ⟨_, rfl, f, r⟩
    | _ => cases hd
  · cases e'
theorem RepS.lst {ds : List PyData} (h : RepS K F H v (.list ds)) : ∃ a vs, v = .ref a ∧ Rd H a (.lst vs) ∧ RepA K F H vs ds := by
  rcases h with h | ⟨a, vs, ds', rfl, e', e, r⟩
  · cases h with
    | lst f r ra => exact ⟨_, _, rfl, r, ra⟩
  · cases e'
    exact ⟨a, vs, rfl, .inl e, r⟩
theorem RepS.tup {ds : List PyData} (h : RepS K F H v (.tuple ds)) : ∃ a vs, v = .ref a ∧ SqT K H a vs ∧ RepA K F H vs ds := by
  rcases h with h | ⟨a, vs, ds', rfl, e', e, r⟩
  · cases h with
    | tup f r ra => exact ⟨_, _, rfl, r, ra⟩
  · cases e'
theorem RepS.int {i : Int} (h : RepS K F H v (.int i)) : v = .int i := by
  rcases h with h | ⟨a, vs, ds', rfl, e', e, r⟩
  · cases h; rfl
  · cases e'
theorem RepS.bl {i : Bool} (h : RepS K F H v (.bool i)) : v = .bl i := by
  rcases h with h | ⟨a, vs, ds', rfl, e', e, r⟩
  · cases h; rfl
  · cases e'
theorem RepS.str {i : Str} (h : RepS K F H v (.str i)) : v = .str i := by
  rcases h with h | ⟨a, vs, ds', rfl, e', e, r⟩
  · cases h; rfl
  · cases e'
theorem RepS.non (h : RepS K F H v .none) : v = .non := by
  rcases h with h | ⟨a, vs, ds', rfl, e', e, r⟩
  · cases h; rfl
  · cases e'
theorem ER.hold (E : ER K F B H σ ρ) (r : RW K F B H σ ρ v w) : ER K F (Ls.hold B v w) H σ ρ := by
  cases w with
  | val d => exact E
  | loc i => exact E
  | tmp ds =>
    obtain ⟨a, vs, rfl, e, nF, nB, nM, ra⟩ := r
    refine ⟨E.len, E.dom, ?_, E.sl, ?_, E.inj⟩
    · rintro b (h | h)
      · exact E.domB b h
      · cases h; exact ⟨_, e⟩
    · intro i es hi
      obtain ⟨b, ws, h1, h2, h3, h4, h5⟩ := E.mt i es hi
      refine ⟨b, ws, h1, h2, h3, ?_, h5⟩
      rintro (z | z)
      · exact h4 z
      · cases z; exact nM i es hi h1
theorem Gd.unhold {F1 : Addr → Prop} {H1 : Hp} (g : Gd F (Ls.hold B v w) H F1 H1) : Gd F B H F1 H1 := by
  refine g.less fun b h => ?_
  cases w <;> first | exact h | exact .inl h
theorem ER.less {B' : Addr → Prop} (E : ER K F B H σ ρ) (h : ∀ b, B' b → B b) : ER K F B' H σ ρ :=
  ⟨E.len, E.dom, fun b z => E.domB b (h b z), E.sl, fun i ds hi => by
    obtain ⟨b, ws, h1, h2, h3, h4, h5⟩ := E.mt i ds hi
    exact ⟨b, ws, h1, h2, h3, fun z => h4 (h b z), h5⟩, E.inj⟩
theorem ER.unhold (E : ER K F (Ls.hold B v w) H σ ρ) : ER K F B H σ ρ := by
  refine E.less fun b h => ?_
  cases w <;> first | exact h | exact .inl h
theorem RW.keep {F1 : Addr → Prop} {H1 : Hp} {ρ' : Env} (r : RW K F B H σ ρ v w) (g : Gd F (Ls.hold B v w) H F1 H1) (E : ER K F1 (Ls.hold B v w) H1 σ ρ') : RW K F1 B H1 σ ρ' v w := by
  cases w with
  | val d => exact Rep.gd (B := B) g r
  | loc i => exact r
  | tmp ds =>
    obtain ⟨a, vs, rfl, e, nF, nB, nM, ra⟩ := r
    refine ⟨a, vs, rfl, g.st a _ (.inr (.inr rfl)) e, fun z => nF (g.pr a (.inr rfl) z), nB, fun i es hi hs => ?_, RepA.gd g ra⟩
    obtain ⟨b, ws, h1, h2, h3, h4, h5⟩ := E.mt i es hi
    rw [hs] at h1
    cases h1
    exact h4 (.inr rfl)
theorem rdW_ok (E : ER K F B H σ ρ) (r : RW K F B H σ ρ v w) (e : rdW ρ w = some d) : RepS K F H v d := by
  cases w with
  | val d' => cases e; exact .inl r
  | tmp ds =>
    cases e
    obtain ⟨a, vs, rfl, e, _, _, _, ra⟩ := r
    exact .inr ⟨a, vs, ds, rfl, rfl, e, ra⟩
  | loc i =>
    unfold rdW at e
    dsimp only at e
    have r : σ[i]? = some (some v) := r
    split at e
    · rename_i d' h
      cases e
      obtain ⟨u, h1, h2⟩ := E.sl i _ h
      rw [r] at h1; cases h1
      exact .inl h2
    · rename_i ds h
      cases e
      obtain ⟨a, vs, h1, h2, _, _, h5⟩ := E.mt i _ h
      rw [r] at h1; cases h1
      exact .inr ⟨a, vs, ds, rfl, rfl, h2, h5⟩
    · cases e
theorem Gd.freeze {a : Addr} (nB : ¬ B a) : Gd F B H (fun b => F b ∨ b = a) H :=
  ⟨fun _ h => .inl h, fun _ _ _ h => h, fun b hb z => z.elim id fun q => absurd (q ▸ hb) nB⟩
theorem getElem?_set_some {α : Type} {l : List α} {i j : Nat} {x y : α} (h : (l.set i x)[j]? = some y) : (j = i ∧ y = x) ∨ (j ≠ i ∧ l[j]? = some y) := by
  rw [List.getElem?_set] at h
  by_cases e : i = j
  · subst e
    rw [if_pos rfl] at h
    split at h
    · cases h; exact .inl ⟨rfl, rfl⟩
    · cases h
  · rw [if_neg e] at h
    exact .inr ⟨fun z => e z.symm, h⟩
theorem fzW_ok {ρ' : Env} (E : ER K F B H σ ρ) (r : RW K F B H σ ρ v w) (e : fzW ρ w = some (d, ρ')) : ∃ F', Gd F B H F' H ∧ ER K F' B H σ ρ' ∧ Rep K F' H v d := by
  cases w with
  | val d' => cases e; exact ⟨F, Gd.refl, E, r⟩
  | tmp ds =>
    cases e
    obtain ⟨a, vs, rfl, e, nF, nB, nM, ra⟩ := r
    have g : Gd F B H (fun b => F b ∨ b = a) H := Gd.freeze nB
    refine ⟨_, g, ⟨E.len, ?_, E.domB, ?_, ?_, E.inj⟩, .lst (.inr rfl) (.inl e) (RepA.gd g ra)⟩
    · rintro b (h | h)
      · exact E.dom b h
      · subst h; exact ⟨_, e⟩
    · intro i d' h
      obtain ⟨u, h1, h2⟩ := E.sl i d' h
      exact ⟨u, h1, Rep.gd g h2⟩
    · intro i es h
      obtain ⟨b, ws, h1, h2, h3, h4, h5⟩ := E.mt i es h
      refine ⟨b, ws, h1, h2, ?_, h4, RepA.gd g h5⟩
      rintro (z | z)
      · exact h3 z
      · subst z; exact nM i es h h1
  | loc i =>
    have r : σ[i]? = some (some v) := r
    unfold fzW at e
    dsimp only at e
    split at e
    · rename_i d' h
      cases e
      obtain ⟨u, h1, h2⟩ := E.sl i _ h
      rw [r] at h1; cases h1
      exact ⟨F, Gd.refl, E, h2⟩
    · rename_i ds h
      cases e
      obtain ⟨a, vs, h1, h2, nF, nB, ra⟩ := E.mt i _ h
      rw [r] at h1; cases h1
      have g : Gd F B H (fun b => F b ∨ b = a) H := Gd.freeze nB
      have hrep : Rep K (fun b => F b ∨ b = a) H (.ref a) (.list ds) := .lst (.inr rfl) (.inl h2) (RepA.gd g ra)
      refine ⟨_, g, ⟨by rw [List.length_set]; exact E.len, ?_, E.domB, ?_, ?_, ?_⟩, hrep⟩
      · rintro b (h | h)
        · exact E.dom b h
        · subst h; exact ⟨_, h2⟩
      · intro j d' hj
        rcases getElem?_set_some hj with ⟨rfl, q⟩ | ⟨_, q⟩
        · cases q
          exact ⟨_, r, hrep⟩
        · obtain ⟨u, z1, z2⟩ := E.sl j d' q
          exact ⟨u, z1, Rep.gd g z2⟩
      · intro j es hj
        rcases getElem?_set_some hj with ⟨rfl, q⟩ | ⟨ne, q⟩
        · cases q
        · obtain ⟨b, ws, z1, z2, z3, z4, z5⟩ := E.mt j es q
          refine ⟨b, ws, z1, z2, ?_, z4, RepA.gd g z5⟩
          rintro (y | y)
          · exact z3 y
          · subst y; exact ne (E.inj j i es ds b q h z1 r)
      · intro j k es fs b hj hk z1 z2
        rcases getElem?_set_some hj with ⟨rfl, q⟩ | ⟨_, q⟩
        · cases q
        · rcases getElem?_set_some hk with ⟨rfl, q'⟩ | ⟨_, q'⟩
          · cases q'
          · exact E.inj j k es fs b q q' z1 z2
    · cases e
theorem stab_new {p : Addr} {o : HO} (hp : H p = none) (b : Addr) (u : HO) (e : H b = some u) : (upd H p o) b = some u := by
  rw [upd_ne (ne_of_none e hp)]; exact e
theorem ER.nofresh {p : Addr} (E : ER K F B H σ ρ) (hp : H p = none) : ¬ F p ∧ ¬ B p ∧ NotMut σ ρ p := by
  refine ⟨fun z => ?_, fun z => ?_, fun i ds hi hs => ?_⟩
  · obtain ⟨o, e⟩ := E.dom p z; rw [hp] at e; cases e
  · obtain ⟨o, e⟩ := E.domB p z; rw [hp] at e; cases e
  · obtain ⟨a, vs, h1, h2, _⟩ := E.mt i ds hi
    rw [hs] at h1; cases h1
    rw [hp] at h2; cases h2
theorem ER.newF {p : Addr} {o : HO} (E : ER K F B H σ ρ) (hp : H p = none) : Gd F B H (fun b => F b ∨ b = p) (upd H p o) ∧ ER K (fun b => F b ∨ b = p) B (upd H p o) σ ρ := by
  obtain ⟨nF, nB, nM⟩ := E.nofresh hp
  have g : Gd F B H (fun b => F b ∨ b = p) (upd H p o) := ⟨fun _ h => .inl h, fun b u _ e => stab_new hp b u e, fun b hb z => z.elim id fun q => absurd (q ▸ hb) nB⟩
  refine ⟨g, E.len, ?_, ?_, ?_, ?_, E.inj⟩
  · rintro b (h | h)
    · obtain ⟨u, e⟩ := E.dom b h
      exact ⟨u, stab_new hp b u e⟩
    · subst h; exact ⟨_, upd_same⟩
  · intro b h
    obtain ⟨u, e⟩ := E.domB b h
    exact ⟨u, stab_new hp b u e⟩
  · intro i d h
    obtain ⟨u, h1, h2⟩ := E.sl i d h
    exact ⟨u, h1, Rep.gd g h2⟩
  · intro i ds h
    obtain ⟨a, vs, h1, h2, h3, h4, h5⟩ := E.mt i ds h
    refine ⟨a, vs, h1, stab_new hp a _ h2, ?_, h4, RepA.gd g h5⟩
    rintro (z | z)
    · exact h3 z
    · subst z; exact nM i ds h h1
theorem ER.newT {p : Addr} {o : HO} (E : ER K F B H σ ρ) (hp : H p = none) : Gd F B H F (upd H p o) ∧ ER K F B (upd H p o) σ ρ := by
  have g : Gd F B H F (upd H p o) := ⟨fun _ h => h, fun b u _ e => stab_new hp b u e, fun b _ z => z⟩
  refine ⟨g, E.len, ?_, ?_, ?_, ?_, E.inj⟩
  · intro b h
    obtain ⟨u, e⟩ := E.dom b h
    exact ⟨u, stab_new hp b u e⟩
  · intro b h
    obtain ⟨u, e⟩ := E.domB b h
    exact ⟨u, stab_new hp b u e⟩
  · intro i d h
    obtain ⟨u, h1, h2⟩ := E.sl i d h
    exact ⟨u, h1, Rep.gd g h2⟩
  · intro i ds h
    obtain ⟨a, vs, h1, h2, h3, h4, h5⟩ := E.mt i ds h
    exact ⟨a, vs, h1, stab_new hp a _ h2, h3, h4, RepA.gd g h5⟩
theorem ER.tmp {p : Addr} {vs : List V} {ds : List PyData} (E : ER K F B H σ ρ) (hp : H p = none) (r : RepA K F H vs ds) : RW K F B (upd H p (.lst vs)) σ ρ (.ref p) (.tmp ds) := by
  obtain ⟨nF, nB, nM⟩ := E.nofresh hp
  exact ⟨p, vs, rfl, upd_same, nF, nB, nM, RepA.gd (E.newT hp).1 r⟩
theorem ER.tupN {p : Addr} {vs : List V} {ds : List PyData} (E : ER K F B H σ ρ) (hp : H p = none) (r : RepA K F H vs ds) : Rep K (fun b => F b ∨ b = p) (upd H p (.tup vs)) (.ref p) (.tuple ds) :=
  .tup (.inl (.inr rfl)) (.inl (.inl upd_same)) (RepA.gd (E.newF hp).1 r)
end
end Ls
namespace Ls
open PySem PySem.Spec PyProof.Rows L2

abbrev Cof := Str → Value
abbrev EF := Env → Res W
abbrev TF := Env → Res Bool
abbrev AF := Env → Res (List W)
section
variable (X : Cx) (C : Cof) (Z : WX)
def XGo (F B : Addr → Prop) (H : Hp) (σ : L2.St) (c : Str) (ρ' : Env) : Prop := ∀ F' H', Gd F B H F' H' → ER X.K F' B H' σ ρ' → Z (C c) none σ H'
def EGo (F B : Addr → Prop) (H : Hp) (σ : L2.St) (t : (V → Hp → Prop) → Prop) : Res W → Prop
  | .stuck => True
  | .exc c ρ' => XGo X C Z F B H σ c ρ' → ∀ Q, t Q
  | .ok w ρ' => ∀ Q : VK, (∀ v F' H', Gd F B H F' H' → ER X.K F' B H' σ ρ' → RW X.K F' B H' σ ρ' v w → Q v H') → t Q
def TGo (F B : Addr → Prop) (H : Hp) (σ : L2.St) (t : (Bool → Hp → Prop) → Prop) : Res Bool → Prop
  | .stuck => True
  | .exc c ρ' => XGo X C Z F B H σ c ρ' → ∀ Q, t Q
  | .ok b ρ' => ∀ Q : Bool → Hp → Prop, (∀ F' H', Gd F B H F' H' → ER X.K F' B H' σ ρ' → Q b H') → t Q
def RWs (K : PySem.W.Frag) (F B : Addr → Prop) (H : Hp) (σ : L2.St) (ρ : Env) : List V → List W → Prop
  | [], [] => True
  | v :: vs, w :: ws => RW K F B H σ ρ v w ∧ RWs K F (hold B v w) H σ ρ vs ws
  | _, _ => False
def AGo (F B : Addr → Prop) (H : Hp) (σ : L2.St) (t : (List V → Hp → Prop) → Prop) : Res (List W) → Prop
  | .stuck => True
  | .exc c ρ' => XGo X C Z F B H σ c ρ' → ∀ Q, t Q
  | .ok ws ρ' => ∀ Q : List V → Hp → Prop, (∀ vs F' H', Gd F B H F' H' → ER X.K F' B H' σ ρ' → RWs X.K F' B H' σ ρ' vs ws → Q vs H') → t Q
structure PEr (e : Expr) (f : EF) : Prop where
  ex : ∃ t, PE X e t ∧ ∀ F B σ H ρ, ER X.K F B H σ ρ → EGo X C Z F B H σ (t σ H) (f ρ)
structure PTr (e : Expr) (f : TF) : Prop where
  ex : ∃ t, PT X e t ∧ ∀ F B σ H ρ, ER X.K F B H σ ρ → TGo X C Z F B H σ (t σ H) (f ρ)
structure PWr (e : Expr) (f : TF) : Prop where
  ex : ∃ t, PW X e t ∧ ∀ F B σ H ρ, ER X.K F B H σ ρ → TGo X C Z F B H σ (t σ H) (f ρ)
structure PAr (es : List Expr) (f : AF) : Prop where
  ex : ∃ t, PA X es t ∧ ∀ F B σ H ρ, ER X.K F B H σ ρ → AGo X C Z F B H σ (t σ H) (f ρ)
end
section
variable {X : Cx} {C : Cof} {Z : WX} {F B F1 : Addr → Prop} {H H1 : Hp} {σ : L2.St} {ρ ρ1 : Env}
theorem XGo.after {c : Str} {ρ' : Env} (g : Gd F B H F1 H1) (h : XGo X C Z F B H σ c ρ') : XGo X C Z F1 B H1 σ c ρ' := fun F' H' g' E => h F' H' (g.trans g') E
theorem XGo.hold {c : Str} {ρ' : Env} {v : V} {w : W} (h : XGo X C Z F B H σ c ρ') : XGo X C Z F (hold B v w) H σ c ρ' := fun F' H' g' E => h F' H' g'.unhold E.unhold
theorem EGo.bind {r : Res W} {t1 : (V → Hp → Prop) → Prop} {t : (V → Hp → Prop) → Prop} {k : W → Env → Res W} {T : V → Hp → (V → Hp → Prop) → Prop}
    (h : EGo X C Z F B H σ t1 r) (ht : ∀ Q, t1 (fun v H1 => T v H1 Q) → t Q)
    (hk : ∀ v w ρ' F' H', r = .ok w ρ' → Gd F B H F' H' → ER X.K F' B H' σ ρ' → RW X.K F' B H' σ ρ' v w → EGo X C Z F' B H' σ (T v H') (k w ρ')) : EGo X C Z F B H σ t (r.bind k) := by
  cases r with
  | stuck => trivial
  | exc c ρ' => exact fun x Q => ht Q (h x _)
  | ok w ρ' =>
    show EGo X C Z F B H σ t (k w ρ')
    have q : ∀ v F' H', Gd F B H F' H' → ER X.K F' B H' σ ρ' → RW X.K F' B H' σ ρ' v w → EGo X C Z F' B H' σ (T v H') (k w ρ') := fun v F' H' g E r => hk v w ρ' F' H' rfl g E r
    generalize k w ρ' = r2 at q ⊢
    cases r2 with
    | stuck => trivial
    | exc c ρ2 => exact fun x Q => ht Q (h _ fun v F' H' g E r => q v F' H' g E r (x.after g) Q)
    | ok w2 ρ2 => exact fun Q hQ => ht Q (h _ fun v F' H' g E r => q v F' H' g E r Q fun v2 F2 H2 g2 E2 r2 => hQ v2 F2 H2 (g.trans g2) E2 r2)
theorem TGo.bindE {r : Res W} {t1 : (V → Hp → Prop) → Prop} {t : (Bool → Hp → Prop) → Prop} {k : W → Env → Res Bool} {T : V → Hp → (Bool → Hp → Prop) → Prop}
    (h : EGo X C Z F B H σ t1 r) (ht : ∀ Q, t1 (fun v H1 => T v H1 Q) → t Q)
    (hk : ∀ v w ρ' F' H', r = .ok w ρ' → Gd F B H F' H' → ER X.K F' B H' σ ρ' → RW X.K F' B H' σ ρ' v w → TGo X C Z F' B H' σ (T v H') (k w ρ')) : TGo X C Z F B H σ t (r.bind k) := by
  cases r with
  | stuck => trivial
  | exc c ρ' => exact fun x Q => ht Q (h x _)
  | ok w ρ' =>
    show TGo X C Z F B H σ t (k w ρ')
    have q : ∀ v F' H', Gd F B H F' H' → ER X.K F' B H' σ ρ' → RW X.K F' B H' σ ρ' v w → TGo X C Z F' B H' σ (T v H') (k w ρ') := fun v F' H' g E r => hk v w ρ' F' H' rfl g E r
    generalize k w ρ' = r2 at q ⊢
    cases r2 with
    | stuck => trivial
    | exc c ρ2 => exact fun x Q => ht Q (h _ fun v F' H' g E r => q v F' H' g E r (x.after g) Q)
    | ok w2 ρ2 => exact fun Q hQ => ht Q (h _ fun v F' H' g E r => q v F' H' g E r Q fun F2 H2 g2 E2 => hQ F2 H2 (g.trans g2) E2)
theorem TGo.bind {r : Res Bool} {t1 : (Bool → Hp → Prop) → Prop} {t : (Bool → Hp → Prop) → Prop} {k : Bool → Env → Res Bool} {T : Bool → Hp → (Bool → Hp → Prop) → Prop}
    (h : TGo X C Z F B H σ t1 r) (ht : ∀ Q, t1 (fun v H1 => T v H1 Q) → t Q)
    (hk : ∀ b ρ' F' H', r = .ok b ρ' → Gd F B H F' H' → ER X.K F' B H' σ ρ' → TGo X C Z F' B H' σ (T b H') (k b ρ')) : TGo X C Z F B H σ t (r.bind k) := by
  cases r with
  | stuck => trivial
  | exc c ρ' => exact fun x Q => ht Q (h x _)
  | ok w ρ' =>
    show TGo X C Z F B H σ t (k w ρ')
    have q : ∀ F' H', Gd F B H F' H' → ER X.K F' B H' σ ρ' → TGo X C Z F' B H' σ (T w H') (k w ρ') := fun F' H' g E => hk w ρ' F' H' rfl g E
    generalize k w ρ' = r2 at q ⊢
    cases r2 with
    | stuck => trivial
    | exc c ρ2 => exact fun x Q => ht Q (h _ fun F' H' g E => q F' H' g E (x.after g) Q)
    | ok w2 ρ2 => exact fun Q hQ => ht Q (h _ fun F' H' g E => q F' H' g E Q fun F2 H2 g2 E2 => hQ F2 H2 (g.trans g2) E2)
theorem EGo.bindT {r : Res Bool} {t1 : (Bool → Hp → Prop) → Prop} {t : (V → Hp → Prop) → Prop} {k : Bool → Env → Res W} {T : Bool → Hp → (V → Hp → Prop) → Prop}
    (h : TGo X C Z F B H σ t1 r) (ht : ∀ Q, t1 (fun v H1 => T v H1 Q) → t Q)
    (hk : ∀ b ρ' F' H', r = .ok b ρ' → Gd F B H F' H' → ER X.K F' B H' σ ρ' → EGo X C Z F' B H' σ (T b H') (k b ρ')) : EGo X C Z F B H σ t (r.bind k) := by
  cases r with
  | stuck => trivial
  | exc c ρ' => exact fun x Q => ht Q (h x _)
  | ok w ρ' =>
    show EGo X C Z F B H σ t (k w ρ')
    have q : ∀ F' H', Gd F B H F' H' → ER X.K F' B H' σ ρ' → EGo X C Z F' B H' σ (T w H') (k w ρ') := fun F' H' g E => hk w ρ' F' H' rfl g E
    generalize k w ρ' = r2 at q ⊢
    cases r2 with
    | stuck => trivial
    | exc c ρ2 => exact fun x Q => ht Q (h _ fun F' H' g E => q F' H' g E (x.after g) Q)
    | ok w2 ρ2 => exact fun Q hQ => ht Q (h _ fun F' H' g E => q F' H' g E Q fun v2 F2 H2 g2 E2 r2 => hQ v2 F2 H2 (g.trans g2) E2 r2)
theorem EGo.bindA {r : Res (List W)} {t1 : (List V → Hp → Prop) → Prop} {t : (V → Hp → Prop) → Prop} {k : List W → Env → Res W} {T : List V → Hp → (V → Hp → Prop) → Prop}
    (h : AGo X C Z F B H σ t1 r) (ht : ∀ Q, t1 (fun v H1 => T v H1 Q) → t Q)
    (hk : ∀ vs ws ρ' F' H', r = .ok ws ρ' → Gd F B H F' H' → ER X.K F' B H' σ ρ' → RWs X.K F' B H' σ ρ' vs ws → EGo X C Z F' B H' σ (T vs H') (k ws ρ')) : EGo X C Z F B H σ t (r.bind k) := by
  cases r with
  | stuck => trivial
  | exc c ρ' => exact fun x Q => ht Q (h x _)
  | ok w ρ' =>
    show EGo X C Z F B H σ t (k w ρ')
    have q : ∀ vs F' H', Gd F B H F' H' → ER X.K F' B H' σ ρ' → RWs X.K F' B H' σ ρ' vs w → EGo X C Z F' B H' σ (T vs H') (k w ρ') := fun vs F' H' g E r => hk vs w ρ' F' H' rfl g E r
    generalize k w ρ' = r2 at q ⊢
    cases r2 with
    | stuck => trivial
    | exc c ρ2 => exact fun x Q => ht Q (h _ fun v F' H' g E r => q v F' H' g E r (x.after g) Q)
    | ok w2 ρ2 => exact fun Q hQ => ht Q (h _ fun v F' H' g E r => q v F' H' g E r Q fun v2 F2 H2 g2 E2 r2 => hQ v2 F2 H2 (g.trans g2) E2 r2)
theorem EGo.held {r : Res W} {t : (V → Hp → Prop) → Prop} {v : V} {w : W} (h : EGo X C Z F (hold B v w) H σ t r) (hw : RW X.K F B H σ ρ v w) :
    match r with
    | .stuck => True
    | .exc c ρ' => XGo X C Z F B H σ c ρ' → ∀ Q, t Q
    | .ok w' ρ' => ∀ Q : VK, (∀ u F' H', Gd F B H F' H' → ER X.K F' B H' σ ρ' → RW X.K F' B H' σ ρ' v w → RW X.K F' (hold B v w) H' σ ρ' u w' → Q u H') → t Q := by
  cases r with
  | stuck => trivial
  | exc c ρ' => exact fun x Q => h x.hold Q
  | ok w' ρ' => exact fun Q hQ => h Q fun u F' H' g E r => hQ u F' H' g.unhold E.unhold (hw.keep g E) r
end

def eFz (f : EF) : EF := fun ρ => (f ρ).bind fun w ρ1 => match fzW ρ1 w with | some (d, ρ2) => .ok (.val d) ρ2 | none => .stuck
def eFt (f : EF) : EF := fun ρ => (f ρ).bind fun w ρ1 => match w with | .tmp ds => .ok (.val (.list ds)) ρ1 | w => .ok w ρ1
def eC (d : PyData) : EF := fun ρ => .ok (.val d) ρ
def eV (i : Nat) : EF := fun ρ => match ρ[i]? with
  | some (some (.val d)) => .ok (.val d) ρ
  | some (some (.mut _)) => .ok (.loc i) ρ
  | _ => .stuck
def rdR (f : EF) : Env → Res PyData := fun ρ => (f ρ).bind fun w ρ1 => match rdW ρ1 w with | some d => .ok d ρ1 | none => .stuck
section
variable {X : Cx} {C : Cof} {Z : WX} {e e2 : Expr} {f g : EF} {pos : Pos}
theorem r_fz (h : PEr X C Z e f) : PEr X C Z e (eFz f) := by
  obtain ⟨t, ht, hs⟩ := h.ex
  refine ⟨t, ht, fun F B σ H ρ E => ?_⟩
  refine EGo.bind (T := fun v H1 Q => Q v H1) (hs F B σ H ρ E) (fun Q q => q) fun v w ρ' F' H' _ g E' r => ?_
  cases h1 : fzW ρ' w with
  | none => trivial
  | some p =>
    obtain ⟨d, ρ2⟩ := p
    obtain ⟨F2, g2, E2, r2⟩ := fzW_ok E' r h1
    exact fun Q hQ => hQ v F2 H' g2 E2 r2
theorem r_ft (h : PEr X C Z e f) : PEr X C Z e (eFt f) := by
  obtain ⟨t, ht, hs⟩ := h.ex
  refine ⟨t, ht, fun F B σ H ρ E => ?_⟩
  refine EGo.bind (T := fun v H1 Q => Q v H1) (hs F B σ H ρ E) (fun Q q => q) fun v w ρ' F' H' _ g E' r => ?_
  cases w with
  | val d => exact fun Q hQ => hQ v F' H' Gd.refl E' r
  | loc i => exact fun Q hQ => hQ v F' H' Gd.refl E' r
  | tmp ds =>
    obtain ⟨F2, g2, E2, r2⟩ := fzW_ok (d := .list ds) (ρ' := ρ') E' r rfl
    exact fun Q hQ => hQ v F2 H' g2 E2 r2
theorem r_int {i : Int} {j pos} : PEr X C Z (.Constant (.int i) j pos) (eC (.int i)) := ⟨_, pe_int, fun F B σ H ρ E Q hQ => hQ _ F H Gd.refl E (.int i)⟩
theorem r_bl {b : Bool} {j pos} : PEr X C Z (.Constant (.bool b) j pos) (eC (.bool b)) := ⟨_, pe_bl, fun F B σ H ρ E Q hQ => hQ _ F H Gd.refl E (.bl b)⟩
theorem r_non {j pos} : PEr X C Z (.Constant .none j pos) (eC .none) := ⟨_, pe_non, fun F B σ H ρ E Q hQ => hQ _ F H Gd.refl E .non⟩
theorem r_str {x : Str} {j pos} : PEr X C Z (.Constant (.str x) j pos) (eC (.str x)) := ⟨_, pe_str, fun F B σ H ρ E Q hQ => hQ _ F H Gd.refl E (.str x)⟩
theorem r_v (i : Nat) {x : Str} {pos : Pos} (hN : X.N[i]? = some x := by rfl) (hv : Vis X.env.scope x := by first | exact Or.inl rfl | exact Or.inr (Or.inl rfl) | exact Or.inr (Or.inr rfl)) (hd : (x == ("__debug__" : Str)) = false := by decide)
    (hcd : (x == ("__classdict__" : Str)) = false := by decide) : PEr X C Z (.Name x pos) (eV i) := by
  refine ⟨_, pe_var hN hv hd hcd, fun F B σ H ρ E => ?_⟩
  unfold eV
  split
  · rename_i d h
    obtain ⟨v, h1, h2⟩ := E.sl i d h
    exact fun Q hQ => ⟨v, h1, hQ v F H Gd.refl E h2⟩
  · rename_i ds h
    obtain ⟨a, vs, h1, h2, _⟩ := E.mt i ds h
    exact fun Q hQ => ⟨_, h1, hQ _ F H Gd.refl E h1⟩
  · trivial
theorem r_gC {x : Str} {v : V} {u : Value} {d : PyData} {pos : Pos} (hg : Gl X x) (hm : X.mg x = some u) (r : RelV v u) (hr : ∀ F H, Rep X.K F H v d) (hd : (x == ("__debug__" : Str)) = false := by decide) : PEr X C Z (.Name x pos) (eC d) :=
  ⟨_, pe_glob hg hm r hd, fun F B σ H ρ E Q hQ => hQ _ F H Gd.refl E (hr F H)⟩

def aNil : AF := fun ρ => .ok [] ρ
def aCons (f : EF) (g : AF) : AF := fun ρ => (f ρ).bind fun w ρ1 => (g ρ1).bind fun ws ρ2 => .ok (w :: ws) ρ2
theorem ra_nil : PAr X C Z [] aNil := ⟨_, pa_nil, fun F B σ H ρ E Q hQ => hQ [] F H Gd.refl E trivial⟩
theorem AGo.bindEA {r : Res W} {F B : Addr → Prop} {H : Hp} {σ : L2.St} {t1 : (V → Hp → Prop) → Prop} {t : (List V → Hp → Prop) → Prop} {k : W → Env → Res (List W)} {T : V → Hp → (List V → Hp → Prop) → Prop}
    (h : EGo X C Z F B H σ t1 r) (ht : ∀ Q, t1 (fun v H1 => T v H1 Q) → t Q)
    (hk : ∀ v w ρ' F' H', r = .ok w ρ' → Gd F B H F' H' → ER X.K F' B H' σ ρ' → RW X.K F' B H' σ ρ' v w → AGo X C Z F' B H' σ (T v H') (k w ρ')) : AGo X C Z F B H σ t (r.bind k) := by
  cases r with
  | stuck => trivial
  | exc c ρ' => exact fun x Q => ht Q (h x _)
  | ok w ρ' =>
    show AGo X C Z F B H σ t (k w ρ')
    have q : ∀ v F' H', Gd F B H F' H' → ER X.K F' B H' σ ρ' → RW X.K F' B H' σ ρ' v w → AGo X C Z F' B H' σ (T v H') (k w ρ') := fun v F' H' g E r => hk v w ρ' F' H' rfl g E r
    generalize k w ρ' = r2 at q ⊢
    cases r2 with
    | stuck => trivial
    | exc c ρ2 => exact fun x Q => ht Q (h _ fun v F' H' g E r => q v F' H' g E r (x.after g) Q)
    | ok w2 ρ2 => exact fun Q hQ => ht Q (h _ fun v F' H' g E r => q v F' H' g E r Q fun v2 F2 H2 g2 E2 r2 => hQ v2 F2 H2 (g.trans g2) E2 r2)
theorem ra_cons {es : List Expr} {ga : AF} (ha : PEr X C Z e f) (hr : PAr X C Z es ga) (hs : starEach (e :: es) X.env = (false, eval e X.env) :: starEach es X.env := by rfl) : PAr X C Z (e :: es) (aCons f ga) := by
  obtain ⟨t, ht, hs1⟩ := ha.ex
  obtain ⟨t2, ht2, hs2⟩ := hr.ex
  refine ⟨_, pa_cons ht ht2 hs, fun F B σ H ρ E => ?_⟩
  refine AGo.bindEA (T := fun x H1 Q => t2 σ H1 fun xs H2 => Q (x :: xs) H2) (hs1 F B σ H ρ E) (fun Q q => q) fun v w ρ' F' H' _ g E' r => ?_
  have h2 := hs2 F' (hold B v w) σ H' ρ' (E'.hold r)
  cases h3 : ga ρ' with
  | stuck => trivial
  | exc c ρ2 =>
    rw [h3] at h2
    exact fun x Q => h2 x.hold _
  | ok ws ρ2 =>
    rw [h3] at h2
    exact fun Q hQ => h2 _ fun vs F2 H2 g2 E2 r2 => hQ (v :: vs) F2 H2 g2.unhold E2.unhold ⟨r.keep g2 E2, r2⟩
def vals : List W → Option (List PyData)
  | [] => some []
  | .val d :: ws => (vals ws).map (d :: ·)
  | _ => none
theorem vals_ok {K : PySem.W.Frag} {F B : Addr → Prop} {H : Hp} {σ : L2.St} {ρ : Env} : ∀ {vs : List V} {ws : List W} {ds : List PyData}, RWs K F B H σ ρ vs ws → vals ws = some ds → RepA K F H vs ds
  | [], [], ds, _, e => by cases e; exact .nil
  | v :: vs, .val d :: ws, ds, h, e => by
    unfold vals at e
    cases h1 : vals ws with
    | none => rw [h1] at e; cases e
    | some es => rw [h1] at e; cases e; exact .cons h.1 (vals_ok h.2 h1)
  | v :: vs, .tmp _ :: ws, ds, h, e => by cases e
  | v :: vs, .loc _ :: ws, ds, h, e => by cases e
  | [], w :: ws, ds, h, e => by cases h
  | v :: vs, [], ds, h, e => by cases h
def eTup (g : AF) : EF := fun ρ => (g ρ).bind fun ws ρ1 => match vals ws with | some ds => if ds.length ≤ sizeLine then .ok (.val (.tuple ds)) ρ1 else .stuck | none => .stuck
def eLst (g : AF) : EF := fun ρ => (g ρ).bind fun ws ρ1 => match vals ws with | some ds => if ds.length ≤ sizeLine then .ok (.tmp ds) ρ1 else .stuck | none => .stuck
theorem r_tup {es : List Expr} {ga : AF} {x1} (h : PAr X C Z es ga) : PEr X C Z (.Tuple es x1 pos) (eTup ga) := by
  obtain ⟨t, ht, hs⟩ := h.ex
  refine ⟨_, pe_tup ht, fun F B σ H ρ E => ?_⟩
  refine EGo.bindA (T := fun xs H1 Q => xs.length ≤ sizeLine ∧ ∀ p, H1 p = none → Q (.ref p) (upd H1 p (.tup xs))) (hs F B σ H ρ E) (fun Q q => q) fun vs ws ρ' F' H' _ g E' r => ?_
  cases h1 : vals ws with
  | none => trivial
  | some ds =>
    dsimp only
    have ra := vals_ok r h1
    split
    · rename_i hl
      exact fun Q hQ => ⟨by rw [ra.len]; exact hl, fun p hp => hQ _ _ _ (E'.newF hp).1 (E'.newF hp).2 (E'.tupN hp ra)⟩
    · trivial
theorem r_lst {es : List Expr} {ga : AF} (h : PAr X C Z es ga) : PEr X C Z (.List es pos) (eLst ga) := by
  obtain ⟨t, ht, hs⟩ := h.ex
  refine ⟨_, pe_lst ht, fun F B σ H ρ E => ?_⟩
  refine EGo.bindA (T := fun xs H1 Q => xs.length ≤ sizeLine ∧ ∀ p, H1 p = none → Q (.ref p) (upd H1 p (.lst xs))) (hs F B σ H ρ E) (fun Q q => q) fun vs ws ρ' F' H' _ g E' r => ?_
  cases h1 : vals ws with
  | none => trivial
  | some ds =>
    dsimp only
    have ra := vals_ok r h1
    split
    · rename_i hl
      exact fun Q hQ => ⟨by rw [ra.len]; exact hl, fun p hp => hQ _ _ _ (E'.newT hp).1 (E'.newT hp).2 (E'.tmp hp ra)⟩
    · trivial
end

inductive Ans | val (d : PyData) | new (ds : List PyData)
def Ans.w : Ans → W | .val d => .val d | .new ds => .tmp ds
def BinS (K : PySem.W.Frag) (r : R2) (op : PyData → PyData → Option Ans) : Prop := ∀ F B σ H ρ x y d1 d2 a, ER K F B H σ ρ → RepS K F H x d1 → RepS K F H y d2 → op d1 d2 = some a →
  ∀ Q : VK, (∀ v F' H', Gd F B H F' H' → ER K F' B H' σ ρ → RW K F' B H' σ ρ v a.w → Q v H') → r x y H Q
def eBin (op : PyData → PyData → Option Ans) (f g : EF) : EF := fun ρ => (eFt f ρ).bind fun w1 ρ1 => (g ρ1).bind fun w2 ρ2 => match rdW ρ2 w1, rdW ρ2 w2 with
  | some d1, some d2 => match op d1 d2 with | some a => .ok a.w ρ2 | none => .stuck
  | _, _ => .stuck
theorem hold_ft {f : EF} {ρ ρ1 : Env} {w : W} (h : eFt f ρ = .ok w ρ1) : ∀ (B : Addr → Prop) (v : V), hold B v w = B := by
  unfold eFt at h
  cases h1 : f ρ with
  | stuck => rw [h1] at h; cases h
  | exc c r => rw [h1] at h; cases h
  | ok w' r =>
    rw [h1] at h
    cases w' <;> (cases h; intro B v; rfl)
section
variable {X : Cx} {C : Cof} {Z : WX} {a b : Expr} {f g : EF} {pos : Pos} {op : PyData → PyData → Option Ans} {r : R2} {ta tb : TE}
theorem binGo (hr : BinS X.K r op) (ha : ∀ F B σ H ρ, ER X.K F B H σ ρ → EGo X C Z F B H σ (ta σ H) (f ρ)) (hb : ∀ F B σ H ρ, ER X.K F B H σ ρ → EGo X C Z F B H σ (tb σ H) (g ρ)) :
    ∀ F B σ H ρ, ER X.K F B H σ ρ → EGo X C Z F B H σ (tOp r ta tb σ H) (eBin op f g ρ) := by
  intro F B σ H ρ E
  have hft : EGo X C Z F B H σ (ta σ H) (eFt f ρ) := by
    refine EGo.bind (T := fun v H1 Q => Q v H1) (ha F B σ H ρ E) (fun Q q => q) fun v w ρ' F' H' _ g E' r => ?_
    cases w with
    | val d => exact fun Q hQ => hQ v F' H' Gd.refl E' r
    | loc i => exact fun Q hQ => hQ v F' H' Gd.refl E' r
    | tmp ds =>
      obtain ⟨F2, g2, E2, r2⟩ := fzW_ok (d := .list ds) (ρ' := ρ') E' r rfl
      exact fun Q hQ => hQ v F2 H' g2 E2 r2
  refine EGo.bind (T := fun v H1 Q => tb σ H1 fun y H2 => r v y H2 Q) hft (fun Q q => q) fun v w ρ' F' H' hw g1 E' rv => ?_
  refine EGo.bind (T := fun y H2 Q => r v y H2 Q) (hb F' B σ H' ρ' E') (fun Q q => q) fun y w2 ρ2 F2 H2 _ g2 E2 ry => ?_
  have rv2 : RW X.K F2 B H2 σ ρ2 v w := by
    have e := hold_ft hw B v
    refine rv.keep ?_ ?_
    · rw [e]; exact g2
    · rw [e]; exact E2
  cases h1 : rdW ρ2 w with
  | none => trivial
  | some d1 =>
    cases h2 : rdW ρ2 w2 with
    | none => trivial
    | some d2 =>
      dsimp only
      cases h3 : op d1 d2 with
      | none => trivial
      | some a => exact fun Q hQ => hr F2 B σ H2 ρ2 v y d1 d2 a E2 (rdW_ok E2 rv2 h1) (rdW_ok E2 ry h2) h3 Q hQ
theorem r_op {o : Operator} (ho : OpR X (binaryOp o) r) (hr : BinS X.K r op) (ha : PEr X C Z a f) (hb : PEr X C Z b g) : PEr X C Z (.BinOp a o b pos) (eBin op f g) := by
  obtain ⟨t, ht, hs⟩ := ha.ex
  obtain ⟨t2, ht2, hs2⟩ := hb.ex
  exact ⟨_, pe_op ho ht ht2, binGo hr hs hs2⟩
theorem r_cmp {o : CmpOp} (ho : OpR X (compareOp o) r) (hr : BinS X.K r op) (ha : PEr X C Z a f) (hb : PEr X C Z b g) (hm : behindInMarks o b = false := by first | exact nobehind _ (by decide) (by decide) | with_unfolding_all rfl) : PEr X C Z (.Compare a [o] [b] pos) (eBin op f g) := by
  obtain ⟨t, ht, hs⟩ := ha.ex
  obtain ⟨t2, ht2, hs2⟩ := hb.ex
  exact ⟨_, pe_cmpR ho ht ht2 hm, binGo hr hs hs2⟩
def tBool (f : EF) : TF := fun ρ => (f ρ).bind fun w ρ1 => match w with | .val (.bool k) => .ok k ρ1 | _ => .stuck
theorem testGo {t : TE} (h : ∀ F B σ H ρ, ER X.K F B H σ ρ → EGo X C Z F B H σ (t σ H) (f ρ)) : ∀ F B σ H ρ, ER X.K F B H σ ρ → TGo X C Z F B H σ (tTest t σ H) (tBool f ρ) := by
  intro F B σ H ρ E
  refine TGo.bindE (T := fun x H' Q => ∃ k, x = .bl k ∧ Q k H') (h F B σ H ρ E) (fun Q q => q) fun v w ρ' F' H' _ g E' rv => ?_
  cases w with
  | val d =>
    cases d with
    | bool k =>
      have rv : Rep X.K F' H' v (.bool k) := rv
      cases rv
      exact fun Q hQ => ⟨k, rfl, hQ F' H' Gd.refl E'⟩
    | _ => trivial
  | _ => trivial
theorem rt_cmp {o : CmpOp} (ho : OpR X (compareOp o) r) (hr : BinS X.K r op) (ha : PEr X C Z a f) (hb : PEr X C Z b g) (hm : behindInMarks o b = false := by first | exact nobehind _ (by decide) (by decide) | with_unfolding_all rfl) : PTr X C Z (.Compare a [o] [b] pos) (tBool (eBin op f g)) := by
  obtain ⟨t, ht, hs⟩ := ha.ex
  obtain ⟨t2, ht2, hs2⟩ := hb.ex
  exact ⟨_, pt_cmpR ho ht ht2 hm, testGo (binGo hr hs hs2)⟩
end
end Ls
namespace Ls
open PySem PySem.Spec PyProof.Rows L2

def addOp : PyData → PyData → Option Ans
  | .int i, .int j => some (.val (.int (i + j)))
  | .str x, .str y => if x.length + y.length ≤ sizeLine then some (.val (.str (x ++ y))) else none
  | .list xs, .list ys => if xs.length + ys.length ≤ sizeLine then some (.new (xs ++ ys)) else none
  | _, _ => none
def subOp : PyData → PyData → Option Ans
  | .int i, .int j => some (.val (.int (i - j)))
  | _, _ => none
def smallI (i : Int) : Bool := decide (-(2 ^ 64) < i) && decide (i < 2 ^ 64)
def mulOp : PyData → PyData → Option Ans
  | .int i, .int j => if smallI i || smallI j then some (.val (.int (i * j))) else none
  | _, _ => none
def fdivOp : PyData → PyData → Option Ans
  | .int i, .int j => if 0 < j ∧ j < 1073741824 then some (.val (.int (i / j))) else none
  | _, _ => none
def modOp : PyData → PyData → Option Ans
  | .int i, .int j => if 0 < j then some (.val (.int (i % j))) else none
  | _, _ => none
def powOp : PyData → PyData → Option Ans
  | .int i, .int j => if 0 ≤ j ∧ j ≤ 1000000 ∧ i.natAbs < 2 ^ 64 then some (.val (.int (i ^ j.toNat))) else none
  | _, _ => none
def ltOp : PyData → PyData → Option Ans
  | .int i, .int j => some (.val (.bool (decide (i < j))))
  | _, _ => none
def leOp : PyData → PyData → Option Ans
  | .int i, .int j => some (.val (.bool (decide (i ≤ j))))
  | .str i, .str j => some (.val (.bool (!decide (j.cps.toList < i.cps.toList))))
  | _, _ => none
def gtOp : PyData → PyData → Option Ans
  | .int i, .int j => some (.val (.bool (decide (j < i))))
  | _, _ => none
def geOp : PyData → PyData → Option Ans
  | .int i, .int j => some (.val (.bool (decide (j ≤ i))))
  | _, _ => none
def eqOk (d e : PyData) : Bool := d.canLay0 && e.canLay0 && decide (min d.depth e.depth ≤ 190)
def eqOp (d e : PyData) : Option Ans := if eqOk d e = true then some (.val (.bool (PyData.eqv d e))) else none
def neOp (d e : PyData) : Option Ans := if eqOk d e = true then some (.val (.bool (!PyData.eqv d e))) else none
def isNone : PyData → Bool
  | .none => true
  | _ => false
def isOp : PyData → PyData → Option Ans
  | .none, .none => some (.val (.bool true))
  | d, .none => some (.val (.bool (isNone d)))
  | .bool a, .bool b => some (.val (.bool (decide (a = b))))
  | .none, .bool _ => some (.val (.bool false))
  | _, _ => none
def isnOp : PyData → PyData → Option Ans
  | .none, .none => some (.val (.bool false))
  | d, .none => some (.val (.bool (!isNone d)))
  | .bool a, .bool b => some (.val (.bool (!decide (a = b))))
  | .none, .bool _ => some (.val (.bool true))
  | _, _ => none
def inL (x : PyData) (es : List PyData) : Option Bool := if x.canLay0 && PyData.canLayAll0 es && decide (x.depth ≤ 190) then some (es.any fun e => PyData.eqv e x) else none
def inOp : PyData → PyData → Option Ans
  | x, .list es => (inL x es).map fun b => .val (.bool b)
  | x, .tuple es => (inL x es).map fun b => .val (.bool b)
  | .str c, .str z => if c.cps.size = 1 then some (.val (.bool (decide (c.cps.getD 0 0 ∈ z.cps.toList)))) else none
  | _, _ => none
def ninOp : PyData → PyData → Option Ans
  | x, .list es => (inL x es).map fun b => .val (.bool (!b))
  | x, .tuple es => (inL x es).map fun b => .val (.bool (!b))
  | .str c, .str z => if c.cps.size = 1 then some (.val (.bool (!decide (c.cps.getD 0 0 ∈ z.cps.toList)))) else none
  | _, _ => none

section
variable {K : PySem.W.Frag}
theorem bin_val {r : R2} {op : PyData → PyData → Option Ans} (h : ∀ F H x y d1 d2 a, RepS K F H x d1 → RepS K F H y d2 → op d1 d2 = some a → ∃ d, a = .val d ∧ ∃ v, (∀ F' H', Rep K F' H' v d) ∧ ∀ Q : VK, Q v H → r x y H Q) : BinS K r op := by
  intro F B σ H ρ x y d1 d2 a E r1 r2 e Q hQ
  obtain ⟨d, rfl, v, hv, hr⟩ := h F H x y d1 d2 a r1 r2 e
  exact hr Q (hQ v F H Gd.refl E (hv F H))
theorem rd_ok {X : Cx} {pins : List (Addr × Obj)} {σ : L2.St} {H : Hp} {s : Shared} {l : Addr} {xs : List V} (I : Inv X pins σ H s) (hH : Rd H l (.lst xs)) :
    xs.length ≤ sizeLine ∧ ∃ (its : List Value) (n : Nat), Vals xs its ∧ xs.length = its.length ∧ s.heap.get? l = some { cls := .type "list", data := .seq its.toArray n } := by
  obtain ⟨z, its, n, r, e⟩ := hH.ok I.hok
  exact ⟨z, its, n, r, r.length, e⟩
def rCatR : R2 := fun x y H Q => ∃ l b xs zs, x = .ref l ∧ y = .ref b ∧ Rd H l (.lst xs) ∧ Rd H b (.lst zs) ∧ xs.length + zs.length ≤ sizeLine ∧ ∀ p, H p = none → Q (.ref p) (upd H p (.lst (xs ++ zs)))
theorem op_catR {X : Cx} : OpR X (binaryOp .Add) rCatR := by
  intro pins s σ H x y v u Q I rx ry h
  obtain ⟨l, b, xs, zs, rfl, rfl, hH, hB, hz, q⟩ := h
  cases rx
  cases ry
  obtain ⟨z, its, n, r, hl, e⟩ := rd_ok I hH
  obtain ⟨z2, its2, n2, r2, hl2, e2⟩ := rd_ok I hB
  refine PySem.P.add_list e e2 ?_ (by rw [List.size_toArray, List.size_toArray]; omega)
  have ea : its.toArray ++ its2.toArray = (its ++ its2).toArray := by simp
  rw [ea]
  exact ⟨.ref _, _, I.lnew (t' := s.toks) (r.append r2) (by rw [List.length_append]; omega), rfl, q _ I.fresh⟩
def rAddA : R2 := fun x y H Q => rI0 (fun i j => .int (i + j)) x y H Q ∨ (∃ i j, x = .str i ∧ y = .str j ∧ i.length + j.length ≤ sizeLine ∧ Q (.str (i ++ j)) H) ∨ rCatR x y H Q
theorem op_addA {X : Cx} : OpR X (binaryOp .Add) rAddA := op_add.or (op_add_str.or op_catR)
theorem iop_addA {X : Cx} : OpR X (inplaceOp .Add) (fun x y H Q => rI0 (fun i j => .int (i + j)) x y H Q ∨ (∃ i j, x = .str i ∧ y = .str j ∧ i.length + j.length ≤ sizeLine ∧ Q (.str (i ++ j)) H)) := iop_add.or iop_add_str
theorem b_add : BinS K rAddA addOp := by
  intro F B σ H ρ x y d1 d2 a E r1 r2 e Q hQ
  unfold addOp at e
  split at e
  · cases e; exact .inl ⟨_, _, r1.int, r2.int, hQ _ F H Gd.refl E (.int _)⟩
  · split at e
    · rename_i h
      cases e; exact .inr (.inl ⟨_, _, r1.str, r2.str, h, hQ _ F H Gd.refl E (.str _)⟩)
    · cases e
  · split at e
    · rename_i h
      cases e
      obtain ⟨l, vs, rfl, h1, ra⟩ := r1.lst
      obtain ⟨b, ws, rfl, h2, rb⟩ := r2.lst
      exact .inr (.inr ⟨l, b, vs, ws, rfl, rfl, h1, h2, by rw [ra.len, rb.len]; exact h, fun p hp => hQ _ _ _ (E.newT hp).1 (E.newT hp).2 (E.tmp hp (ra.app rb))⟩)
    · cases e
  · cases e
theorem b_sub : BinS K (rI0 fun i j => .int (i - j)) subOp := bin_val fun F H x y d1 d2 a r1 r2 e => by
  unfold subOp at e
  split at e
  · cases e; exact ⟨_, rfl, _, fun F' H' => .int _, fun Q q => ⟨_, _, r1.int, r2.int, q⟩⟩
  · cases e
theorem b_mul : BinS K (rI CMul fun i j => .int (i * j)) mulOp := bin_val fun F H x y d1 d2 a r1 r2 e => by
  unfold mulOp at e
  split at e
  · split at e
    · rename_i h
      cases e
      refine ⟨_, rfl, _, fun F' H' => .int _, fun Q q => ⟨_, _, r1.int, r2.int, ?_, q⟩⟩
      rw [Bool.or_eq_true] at h
      unfold smallI at h
      simp only [Bool.and_eq_true, decide_eq_true_eq] at h
      exact h
    · cases e
  · cases e
theorem b_fdiv : BinS K (rI CDiv fun i j => .int (i / j)) fdivOp := bin_val fun F H x y d1 d2 a r1 r2 e => by
  unfold fdivOp at e
  split at e
  · split at e
    · rename_i h
      cases e; exact ⟨_, rfl, _, fun F' H' => .int _, fun Q q => ⟨_, _, r1.int, r2.int, h, q⟩⟩
    · cases e
  · cases e
theorem b_mod : BinS K (rI (fun _ j => 0 < j) fun i j => .int (i % j)) modOp := bin_val fun F H x y d1 d2 a r1 r2 e => by
  unfold modOp at e
  split at e
  · split at e
    · rename_i h
      cases e; exact ⟨_, rfl, _, fun F' H' => .int _, fun Q q => ⟨_, _, r1.int, r2.int, h, q⟩⟩
    · cases e
  · cases e
theorem b_pow : BinS K (rI CPow fun i j => .int (i ^ j.toNat)) powOp := bin_val fun F H x y d1 d2 a r1 r2 e => by
  unfold powOp at e
  split at e
  · split at e
    · rename_i h
      cases e; exact ⟨_, rfl, _, fun F' H' => .int _, fun Q q => ⟨_, _, r1.int, r2.int, h, q⟩⟩
    · cases e
  · cases e
theorem b_lt : BinS K (rI0 fun i j => .bl (decide (i < j))) ltOp := bin_val fun F H x y d1 d2 a r1 r2 e => by
  unfold ltOp at e
  split at e
  · cases e; exact ⟨_, rfl, _, fun F' H' => .bl _, fun Q q => ⟨_, _, r1.int, r2.int, q⟩⟩
  · cases e
def rLeA : R2 := fun x y H Q => rI0 (fun i j => .bl (decide (i ≤ j))) x y H Q ∨ (∃ i j, x = .str i ∧ y = .str j ∧ Q (.bl (!decide (j.cps.toList < i.cps.toList))) H)
theorem op_leA {X : Cx} : OpR X (compareOp .LtE) rLeA := op_le.or op_le_str
theorem b_le : BinS K rLeA leOp := bin_val fun F H x y d1 d2 a r1 r2 e => by
  unfold leOp at e
  split at e
  · cases e; exact ⟨_, rfl, _, fun F' H' => .bl _, fun Q q => .inl ⟨_, _, r1.int, r2.int, q⟩⟩
  · cases e; exact ⟨_, rfl, _, fun F' H' => .bl _, fun Q q => .inr ⟨_, _, r1.str, r2.str, q⟩⟩
  · cases e
theorem b_gt : BinS K (rI0 fun i j => .bl (decide (j < i))) gtOp := bin_val fun F H x y d1 d2 a r1 r2 e => by
  unfold gtOp at e
  split at e
  · cases e; exact ⟨_, rfl, _, fun F' H' => .bl _, fun Q q => ⟨_, _, r1.int, r2.int, q⟩⟩
  · cases e
theorem b_ge : BinS K (rI0 fun i j => .bl (decide (j ≤ i))) geOp := bin_val fun F H x y d1 d2 a r1 r2 e => by
  unfold geOp at e
  split at e
  · cases e; exact ⟨_, rfl, _, fun F' H' => .bl _, fun Q q => ⟨_, _, r1.int, r2.int, q⟩⟩
  · cases e

def rEqX (K : PySem.W.Frag) (n : Bool) : R2 := fun x y H Q => ∃ d e, Dp K H x d ∧ Dp K H y e ∧ eqOk d e = true ∧ Q (.bl (if n then !PyData.eqv d e else PyData.eqv d e)) H
theorem eqOk_ok {d e : PyData} (h : eqOk d e = true) : d.canLay0 = true ∧ e.canLay0 = true ∧ min d.depth e.depth ≤ 190 := by
  unfold eqOk at h
  simp only [Bool.and_eq_true, decide_eq_true_eq] at h
  exact ⟨h.1.1, h.1.2, h.2⟩
theorem op_eqX {X : Cx} (hu : X.A.units + 200 < cLine) : OpR X (compareOp .Eq) (rEqX X.K false) := by
  intro pins s σ H x y v u Q I rx ry h
  obtain ⟨d, e, hd, he, ok, q⟩ := h
  obtain ⟨h1, h2, h3⟩ := eqOk_ok ok
  obtain ⟨as, r1⟩ := Dp.reads I d x v hd rx
  obtain ⟨bs, r2⟩ := Dp.reads I e y u he ry
  exact SeqAt.compareEq_reads r1 r2 h1 h2 (by omega) ⟨.bl _, H, I, rfl, q⟩
theorem op_neX {X : Cx} (hu : X.A.units + 200 < cLine) : OpR X (compareOp .NotEq) (rEqX X.K true) := by
  intro pins s σ H x y v u Q I rx ry h
  obtain ⟨d, e, hd, he, ok, q⟩ := h
  obtain ⟨h1, h2, h3⟩ := eqOk_ok ok
  obtain ⟨as, r1⟩ := Dp.reads I d x v hd rx
  obtain ⟨bs, r2⟩ := Dp.reads I e y u he ry
  exact SeqAt.compareNe_reads r1 r2 h1 h2 (by omega) ⟨.bl _, H, I, rfl, q⟩
theorem b_eq : BinS K (rEqX K false) eqOp := bin_val fun F H x y d1 d2 a r1 r2 e => by
  unfold eqOp at e
  split at e
  · rename_i h
    cases e; exact ⟨_, rfl, _, fun F' H' => .bl _, fun Q q => ⟨_, _, r1.dp (eqOk_ok h).1, r2.dp (eqOk_ok h).2.1, h, q⟩⟩
  · cases e
theorem b_ne : BinS K (rEqX K true) neOp := bin_val fun F H x y d1 d2 a r1 r2 e => by
  unfold neOp at e
  split at e
  · rename_i h
    cases e; exact ⟨_, rfl, _, fun F' H' => .bl _, fun Q q => ⟨_, _, r1.dp (eqOk_ok h).1, r2.dp (eqOk_ok h).2.1, h, q⟩⟩
  · cases e

def rIsA (n : Bool) : R2 := fun x y H Q => (y = .non ∧ Q (.bl (if n then !decide (x = .non) else decide (x = .non))) H) ∨ (∃ a b : Bool, x = .bl a ∧ y = .bl b ∧ Q (.bl (if n then !decide (a = b) else decide (a = b))) H) ∨ (∃ b : Bool, x = .non ∧ y = .bl b ∧ Q (.bl n) H)
theorem op_isA {X : Cx} : OpR X (compareOp .Is) (rIsA false) := by
  intro pins s σ H x y v u Q I rx ry h
  rcases h with ⟨e, q⟩ | ⟨a, b, e1, e2, q⟩ | ⟨b, rfl, rfl, q⟩
  · exact op_isN pins s σ H x y v u Q I rx ry ⟨e, q⟩
  · exact op_isBl pins s σ H x y v u Q I rx ry ⟨a, b, e1, e2, q⟩
  · cases (show v = Value.none from rx)
    cases (show u = Value.bool b from ry)
    exact wpAny_is_other rfl (fun z => nomatch z) ⟨.bl false, H, I, rfl, q⟩
theorem op_isnA {X : Cx} : OpR X (compareOp .IsNot) (rIsA true) := by
  intro pins s σ H x y v u Q I rx ry h
  rcases h with ⟨e, q⟩ | ⟨a, b, e1, e2, q⟩ | ⟨b, rfl, rfl, q⟩
  · exact op_notN pins s σ H x y v u Q I rx ry ⟨e, q⟩
  · exact op_notBl pins s σ H x y v u Q I rx ry ⟨a, b, e1, e2, q⟩
  · cases (show v = Value.none from rx)
    cases (show u = Value.bool b from ry)
    exact wpAny_isNot_other rfl (fun z => nomatch z) ⟨.bl true, H, I, rfl, q⟩
theorem RepS.isNon {F : Addr → Prop} {H : Hp} {v : V} {d : PyData} (r : RepS K F H v d) : decide (v = .non) = isNone d := by
  rcases r with r | ⟨a, vs, ds, rfl, rfl, _⟩
  · cases r <;> simp [isNone]
  · simp [isNone]
theorem b_is : BinS K (rIsA false) isOp := bin_val fun F H x y d1 d2 a r1 r2 e => by
  unfold isOp at e
  split at e
  · cases e; exact ⟨_, rfl, .bl true, fun F' H' => .bl _, fun Q q => .inl ⟨r2.non, by have e1 := r1.non; subst e1; exact q⟩⟩
  · cases e; exact ⟨_, rfl, _, fun F' H' => .bl _, fun Q q => .inl ⟨r2.non, by rw [if_neg Bool.false_ne_true, r1.isNon]; exact q⟩⟩
  · cases e; exact ⟨_, rfl, _, fun F' H' => .bl _, fun Q q => .inr (.inl ⟨_, _, r1.bl, r2.bl, q⟩)⟩
  · cases e; exact ⟨_, rfl, .bl false, fun F' H' => .bl _, fun Q q => .inr (.inr ⟨_, r1.non, r2.bl, q⟩)⟩
  · cases e
theorem b_isn : BinS K (rIsA true) isnOp := bin_val fun F H x y d1 d2 a r1 r2 e => by
  unfold isnOp at e
  split at e
  · cases e; exact ⟨_, rfl, .bl false, fun F' H' => .bl _, fun Q q => .inl ⟨r2.non, by have e1 := r1.non; subst e1; exact q⟩⟩
  · cases e; exact ⟨_, rfl, _, fun F' H' => .bl _, fun Q q => .inl ⟨r2.non, by rw [if_pos rfl, r1.isNon]; exact q⟩⟩
  · cases e; exact ⟨_, rfl, _, fun F' H' => .bl _, fun Q q => .inr (.inl ⟨_, _, r1.bl, r2.bl, q⟩)⟩
  · cases e; exact ⟨_, rfl, .bl true, fun F' H' => .bl _, fun Q q => .inr (.inr ⟨_, r1.non, r2.bl, q⟩)⟩
  · cases e

open Classical in
noncomputable def eqR (h : Heap) (dx : PyData) (y : Value) : Bool := if p : ∃ d as, Reads h y d as ∧ d.canLay0 = true then PyData.eqv p.choose dx else false
theorem eqR_of {h : Heap} {dx d : PyData} {y : Value} {as : List Addr} (r : Reads h y d as) (c : d.canLay0 = true) : eqR h dx y = PyData.eqv d dx := by
  have p : ∃ d as, Reads h y d as ∧ d.canLay0 = true := ⟨d, as, r, c⟩
  unfold eqR
  rw [dif_pos p]
  obtain ⟨as', r', c'⟩ := p.choose_spec
  rw [SeqAt.Reads.unique _ _ _ _ _ c' r' r]
theorem readsAll_any {h : Heap} {dx : PyData} : ∀ {us : List Value} {ds : List PyData} {as : List Addr}, ReadsAll h us ds as → PyData.canLayAll0 ds = true → us.any (eqR h dx) = ds.any fun e => PyData.eqv e dx
  | _, _, _, .nil, _ => rfl
  | _, _, _, .cons (d := d) (ds := ds) r t, c => by
    have c' : PyData.canLay0 d = true ∧ PyData.canLayAll0 ds = true := by simpa [PyData.canLayAll0] using c
    rw [List.any_cons, List.any_cons, eqR_of r c'.1, readsAll_any t c'.2]
theorem readsAll_mem {h : Heap} : ∀ {us : List Value} {ds : List PyData} {as : List Addr}, ReadsAll h us ds as → PyData.canLayAll0 ds = true → ∀ u ∈ us, ∃ d as, Reads h u d as ∧ d.canLay0 = true ∧ d ∈ ds
  | _, _, _, .nil, _, u, hu => by cases hu
  | _, _, _, .cons (d := d) (ds := ds) r t, c, u, hu => by
    have c' : PyData.canLay0 d = true ∧ PyData.canLayAll0 ds = true := by simpa [PyData.canLayAll0] using c
    rcases List.mem_cons.mp hu with e | hu
    · subst e; exact ⟨_, _, r, c'.1, List.mem_cons_self⟩
    · obtain ⟨d, as, h1, h2, h3⟩ := readsAll_mem t c'.2 u hu
      exact ⟨d, as, h1, h2, List.mem_cons_of_mem _ h3⟩
theorem in_eqs {A : Around} {s : Shared} {us : List Value} {ds : List PyData} {as bs : List Addr} {x : Value} {dx : PyData} (r : ReadsAll s.heap us ds as) (c : PyData.canLayAll0 ds = true) (rx : Reads s.heap x dx bs) (cx : dx.canLay0 = true) (hx : dx.depth ≤ 190) (hu : A.units + 200 < cLine) :
    ∀ y, y ∈ us.toArray → SeqAt.EqAt A.in1 s y x (eqR s.heap dx y) := fun y hy => by
  obtain ⟨d, as', h1, h2, _⟩ := readsAll_mem r c y (by simpa using hy)
  rw [eqR_of h1 h2]
  have hin : A.in1.units = A.units + 1 := rfl
  exact SeqAt.eqAt_reads d dx A.in1 s y x as' bs h1 rx h2 cx (by rw [hin]; have := Nat.min_le_right d.depth dx.depth; omega)
def rInX (K : PySem.W.Frag) (n : Bool) : R2 := fun x y H Q => ∃ p xs dx ds, y = .ref p ∧ (SqL K H p xs ∨ SqT K H p xs) ∧ Dp K H x dx ∧ DpAll K H xs ds ∧ dx.canLay0 = true ∧ PyData.canLayAll0 ds = true ∧ dx.depth ≤ 190 ∧
  Q (.bl (if n then !(ds.any fun e => PyData.eqv e dx) else ds.any fun e => PyData.eqv e dx)) H
theorem op_inX {X : Cx} (hu : X.A.units + 200 < cLine) : OpR X (compareOp .In) (rInX X.K false) := by
  intro pins s σ H x y v u Q I rx ry h
  obtain ⟨p, xs, dx, ds, rfl, hq, hdx, hds, c1, c2, hd, q⟩ := h
  cases ry
  obtain ⟨bs, r1⟩ := Dp.reads I dx x v hdx rx
  rcases hq with hq | hq
  · obtain ⟨its, r, pl, hz⟩ := I.list hq
    obtain ⟨as, r2⟩ := Dp.readsAll I ds xs its hds r
    refine SeqAt.in_listAt (eqR s.heap dx) pl.isList (in_eqs r2 c2 r1 c1 hd hu) ⟨.bl _, H, I, rfl, ?_⟩
    rw [show its.toArray.any (eqR s.heap dx) = its.any (eqR s.heap dx) by simp, readsAll_any r2 c2]
    exact q
  · obtain ⟨its, r, pl, hz⟩ := I.tuple hq
    obtain ⟨as, r2⟩ := Dp.readsAll I ds xs its hds r
    refine SeqAt.in_tupleAt (eqR s.heap dx) pl (in_eqs r2 c2 r1 c1 hd hu) ⟨.bl _, H, I, rfl, ?_⟩
    rw [show its.toArray.any (eqR s.heap dx) = its.any (eqR s.heap dx) by simp, readsAll_any r2 c2]
    exact q
theorem op_ninX {X : Cx} (hu : X.A.units + 200 < cLine) : OpR X (compareOp .NotIn) (rInX X.K true) := by
  intro pins s σ H x y v u Q I rx ry h
  obtain ⟨p, xs, dx, ds, rfl, hq, hdx, hds, c1, c2, hd, q⟩ := h
  cases ry
  obtain ⟨bs, r1⟩ := Dp.reads I dx x v hdx rx
  rcases hq with hq | hq
  · obtain ⟨its, r, pl, hz⟩ := I.list hq
    obtain ⟨as, r2⟩ := Dp.readsAll I ds xs its hds r
    refine SeqAt.notIn_listAt (eqR s.heap dx) pl.isList (in_eqs r2 c2 r1 c1 hd hu) ⟨.bl _, H, I, rfl, ?_⟩
    rw [show its.toArray.any (eqR s.heap dx) = its.any (eqR s.heap dx) by simp, readsAll_any r2 c2]
    exact q
  · obtain ⟨its, r, pl, hz⟩ := I.tuple hq
    obtain ⟨as, r2⟩ := Dp.readsAll I ds xs its hds r
    refine SeqAt.notIn_tupleAt (eqR s.heap dx) pl (in_eqs r2 c2 r1 c1 hd hu) ⟨.bl _, H, I, rfl, ?_⟩
    rw [show its.toArray.any (eqR s.heap dx) = its.any (eqR s.heap dx) by simp, readsAll_any r2 c2]
    exact q
def rInA (K : PySem.W.Frag) (n : Bool) : R2 := fun x y H Q => rInX K n x y H Q ∨ ∃ (c : Nat) (z : Str), x = .str ⟨#[c]⟩ ∧ y = .str z ∧ Q (.bl (if n then !decide (c ∈ z.cps.toList) else decide (c ∈ z.cps.toList))) H
theorem op_inA {X : Cx} (hu : X.A.units + 200 < cLine) : OpR X (compareOp .In) (rInA X.K false) := (op_inX hu).or op_in_sign
theorem op_ninA {X : Cx} (hu : X.A.units + 200 < cLine) : OpR X (compareOp .NotIn) (rInA X.K true) := (op_ninX hu).or op_notIn_sign
theorem inL_ok {x : PyData} {es : List PyData} {b : Bool} (h : inL x es = some b) : x.canLay0 = true ∧ PyData.canLayAll0 es = true ∧ x.depth ≤ 190 ∧ b = es.any fun e => PyData.eqv e x := by
  unfold inL at h
  split at h
  · rename_i c
    simp only [Bool.and_eq_true, decide_eq_true_eq] at c
    cases h
    exact ⟨c.1.1, c.1.2, c.2, rfl⟩
  · cases h
theorem one_sign {c : Str} (h : c.cps.size = 1) : c = ⟨#[c.cps.getD 0 0]⟩ := by
  obtain ⟨a⟩ := c
  obtain ⟨l⟩ := a
  match l, h with
  | [x], _ => rfl
theorem b_in : BinS K (rInA K false) inOp := bin_val fun F H x y d1 d2 a r1 r2 e => by
  unfold inOp at e
  split at e
  · rename_i es
    cases h : inL d1 es with
    | none => rw [h] at e; cases e
    | some b =>
      rw [h] at e; cases e
      obtain ⟨c1, c2, c3, rfl⟩ := inL_ok h
      obtain ⟨l, vs, rfl, h1, ra⟩ := r2.lst
      exact ⟨_, rfl, _, fun F' H' => .bl _, fun Q q => .inl ⟨l, vs, _, _, rfl, .inl (.inl h1), r1.dp c1, ra.dp _ _ c2, c1, c2, c3, q⟩⟩
  · rename_i es
    cases h : inL d1 es with
    | none => rw [h] at e; cases e
    | some b =>
      rw [h] at e; cases e
      obtain ⟨c1, c2, c3, rfl⟩ := inL_ok h
      obtain ⟨l, vs, rfl, h1, ra⟩ := r2.tup
      exact ⟨_, rfl, _, fun F' H' => .bl _, fun Q q => .inl ⟨l, vs, _, _, rfl, .inr h1, r1.dp c1, ra.dp _ _ c2, c1, c2, c3, q⟩⟩
  · split at e
    · rename_i c z h
      cases e
      exact ⟨_, rfl, _, fun F' H' => .bl _, fun Q q => .inr ⟨_, _, by rw [← one_sign h]; exact r1.str, r2.str, q⟩⟩
    · cases e
  · cases e
theorem b_nin : BinS K (rInA K true) ninOp := bin_val fun F H x y d1 d2 a r1 r2 e => by
  unfold ninOp at e
  split at e
  · rename_i es
    cases h : inL d1 es with
    | none => rw [h] at e; cases e
    | some b =>
      rw [h] at e; cases e
      obtain ⟨c1, c2, c3, rfl⟩ := inL_ok h
      obtain ⟨l, vs, rfl, h1, ra⟩ := r2.lst
      exact ⟨_, rfl, _, fun F' H' => .bl _, fun Q q => .inl ⟨l, vs, _, _, rfl, .inl (.inl h1), r1.dp c1, ra.dp _ _ c2, c1, c2, c3, q⟩⟩
  · rename_i es
    cases h : inL d1 es with
    | none => rw [h] at e; cases e
    | some b =>
      rw [h] at e; cases e
      obtain ⟨c1, c2, c3, rfl⟩ := inL_ok h
      obtain ⟨l, vs, rfl, h1, ra⟩ := r2.tup
      exact ⟨_, rfl, _, fun F' H' => .bl _, fun Q q => .inl ⟨l, vs, _, _, rfl, .inr h1, r1.dp c1, ra.dp _ _ c2, c1, c2, c3, q⟩⟩
  · split at e
    · rename_i c z h
      cases e
      exact ⟨_, rfl, _, fun F' H' => .bl _, fun Q q => .inr ⟨_, _, by rw [← one_sign h]; exact r1.str, r2.str, q⟩⟩
    · cases e
  · cases e
end

def idxOp : PyData → PyData → Option Ans
  | .list xs, .int i => (atI xs i).map .val
  | .tuple xs, .int i => (atI xs i).map .val
  | .str z, .int i => if z.length ≤ sizeLine then (atI z.cps.toList i).map fun c => .val (.str ⟨#[c]⟩) else none
  | .dict [(.list xs, .none)], .int i => (atI xs i).map .val
  | _, _ => none
theorem atI_map {α β : Type} {f : α → β} {xs : List α} {i : Int} : L2.atI (xs.map f) i = (L2.atI xs i).map f := by
  unfold L2.atI
  rw [List.length_map]
  cases ixN xs.length i with
  | none => rfl
  | some j => simp
theorem RepA.atI {K : PySem.W.Frag} {F : Addr → Prop} {H : Hp} {vs : List V} {ds : List PyData} {i : Int} {d : PyData} (r : RepA K F H vs ds) (h : L2.atI ds i = some d) : ∃ v, L2.atI vs i = some v ∧ Rep K F H v d := by
  unfold L2.atI at h ⊢
  rw [r.len]
  cases e : ixN ds.length i with
  | none => rw [e] at h; cases h
  | some j =>
    rw [e] at h
    exact r.get h
theorem b_idx {K : PySem.W.Frag} : BinS K (rIx K) idxOp := by
  intro F B σ H ρ x y d1 d2 a E r1 r2 e Q hQ
  unfold idxOp at e
  split at e
  · obtain ⟨d, h, rfl⟩ := Option.map_eq_some_iff.mp e
    obtain ⟨l, vs, rfl, h1, ra⟩ := r1.lst
    obtain ⟨v, hv, rv⟩ := ra.atI h
    exact .inl ⟨l, vs, _, v, rfl, r2.int, .inl h1, hv, hQ v F H Gd.refl E rv⟩
  · obtain ⟨d, h, rfl⟩ := Option.map_eq_some_iff.mp e
    obtain ⟨l, vs, rfl, h1, ra⟩ := r1.tup
    obtain ⟨v, hv, rv⟩ := ra.atI h
    exact .inr (.inl ⟨l, vs, _, v, rfl, r2.int, h1, hv, hQ v F H Gd.refl E rv⟩)
  · split at e
    · rename_i hz
      obtain ⟨c, h, rfl⟩ := Option.map_eq_some_iff.mp e
      exact .inr (.inr ⟨_, _, c, r1.str, r2.int, hz, h, hQ _ F H Gd.refl E (.str _)⟩)
    · cases e
  · obtain ⟨d, h, rfl⟩ := Option.map_eq_some_iff.mp e
    obtain ⟨l, ns, rfl, rfl, h1⟩ := r1.scr
    rw [atI_map] at h
    obtain ⟨n, hn, rfl⟩ := Option.map_eq_some_iff.mp h
    exact .inl ⟨l, _, _, .int n, rfl, r2.int, h1, by rw [atI_map, hn]; rfl, hQ _ F H Gd.refl E (.int _)⟩
  · cases e
section
variable {X : Cx} {C : Cof} {Z : WX} {a b c e : Expr} {f g h : EF} {pos p2 : Pos}
theorem r_idx (ha : PEr X C Z a f) (hb : PEr X C Z b g) (hs : PlainIx b := by exact fun _ _ => rfl) : PEr X C Z (.Subscript a b pos) (eBin idxOp f g) := by
  obtain ⟨t, ht, hs1⟩ := ha.ex
  obtain ⟨t2, ht2, hs2⟩ := hb.ex
  exact ⟨_, pe_ix ix_seq ht ht2 hs, binGo b_idx hs1 hs2⟩
structure POr (X : Cx) (C : Cof) (Z : WX) (e : Option Expr) (f : Env → Res (Option Int)) : Prop where
  ex : ∃ t, PO X e t ∧ ∀ F B σ H ρ, ER X.K F B H σ ρ → match f ρ with
    | .stuck => True
    | .exc c ρ' => XGo X C Z F B H σ c ρ' → ∀ Q, t σ H Q
    | .ok o ρ' => ∀ Q : Option Int → Hp → Prop, (∀ F' H', Gd F B H F' H' → ER X.K F' B H' σ ρ' → Q o H') → t σ H Q
def oNone : Env → Res (Option Int) := fun ρ => .ok none ρ
def oSome (f : EF) : Env → Res (Option Int) := fun ρ => (f ρ).bind fun w ρ1 => match w with | .val (.int i) => .ok (some i) ρ1 | _ => .stuck
theorem ro_none : POr X C Z none oNone := ⟨_, po_none, fun F B σ H ρ E Q hQ => hQ F H Gd.refl E⟩
theorem ro_some (he : PEr X C Z e f) : POr X C Z (some e) (oSome f) := by
  obtain ⟨t, ht, hs⟩ := he.ex
  refine ⟨_, po_some ht, fun F B σ H ρ E => ?_⟩
  have h1 := hs F B σ H ρ E
  unfold oSome
  cases h2 : f ρ with
  | stuck => trivial
  | exc c ρ' => rw [h2] at h1; exact fun x Q => h1 x _
  | ok w ρ' =>
    rw [h2] at h1
    show match (match w with | .val (.int i) => Res.ok (some i) ρ' | _ => .stuck) with | .stuck => True | .exc c ρ' => _ | .ok o ρ' => _
    cases w with
    | val d =>
      cases d with
      | int i =>
        exact fun Q hQ => h1 _ fun v F' H' g E' r => by
          have r : Rep X.K F' H' v (.int i) := r
          cases r
          exact ⟨i, rfl, hQ F' H' g E'⟩
      | _ => trivial
    | _ => trivial
def cutD {α : Type} (xs : List α) (lo hi : Option Int) : List α := (xs.drop (HT.sIx xs.length 0 lo)).take (HT.sIx xs.length xs.length hi - HT.sIx xs.length 0 lo)
def slOp (lo hi : Option Int) : PyData → Option Ans
  | .list xs => some (.new (cutD xs lo hi))
  | .str z => if z.length ≤ sizeLine then some (.val (.str (cutS z lo hi))) else none
  | .tuple xs => if HT.sIx xs.length 0 lo = 0 ∧ HT.sIx xs.length xs.length hi = xs.length then none else some (.val (.tuple (cutD xs lo hi)))
  | _ => none
def eSl (f : EF) (l u : Env → Res (Option Int)) : EF := fun ρ => (eFt f ρ).bind fun w ρ1 => (l ρ1).bind fun lo ρ2 => (u ρ2).bind fun hi ρ3 => match rdW ρ3 w with
  | some d => match slOp lo hi d with | some a => .ok a.w ρ3 | none => .stuck
  | none => .stuck
theorem EGo.bindO {F B : Addr → Prop} {H : Hp} {σ : L2.St} {r : Res (Option Int)} {t1 : (Option Int → Hp → Prop) → Prop} {t : (V → Hp → Prop) → Prop} {k : Option Int → Env → Res W} {T : Option Int → Hp → (V → Hp → Prop) → Prop}
    (h : match r with
    | .stuck => True
    | .exc c ρ' => XGo X C Z F B H σ c ρ' → ∀ Q, t1 Q
    | .ok o ρ' => ∀ Q : Option Int → Hp → Prop, (∀ F' H', Gd F B H F' H' → ER X.K F' B H' σ ρ' → Q o H') → t1 Q) (ht : ∀ Q, t1 (fun v H1 => T v H1 Q) → t Q)
    (hk : ∀ b ρ' F' H', r = .ok b ρ' → Gd F B H F' H' → ER X.K F' B H' σ ρ' → EGo X C Z F' B H' σ (T b H') (k b ρ')) : EGo X C Z F B H σ t (r.bind k) := by
  cases r with
  | stuck => trivial
  | exc c ρ' => exact fun x Q => ht Q (h x _)
  | ok w ρ' =>
    show EGo X C Z F B H σ t (k w ρ')
    have q : ∀ F' H', Gd F B H F' H' → ER X.K F' B H' σ ρ' → EGo X C Z F' B H' σ (T w H') (k w ρ') := fun F' H' g E => hk w ρ' F' H' rfl g E
    generalize k w ρ' = r2 at q ⊢
    cases r2 with
    | stuck => trivial
    | exc c ρ2 => exact fun x Q => ht Q (h _ fun F' H' g E => q F' H' g E (x.after g) Q)
    | ok w2 ρ2 => exact fun Q hQ => ht Q (h _ fun F' H' g E => q F' H' g E Q fun v2 F2 H2 g2 E2 r2 => hQ v2 F2 H2 (g.trans g2) E2 r2)
theorem ftGo {t : TE} (h : ∀ F B σ H ρ, ER X.K F B H σ ρ → EGo X C Z F B H σ (t σ H) (f ρ)) : ∀ F B σ H ρ, ER X.K F B H σ ρ → EGo X C Z F B H σ (t σ H) (eFt f ρ) := by
  intro F B σ H ρ E
  refine EGo.bind (T := fun v H1 Q => Q v H1) (h F B σ H ρ E) (fun Q q => q) fun v w ρ' F' H' _ g E' r => ?_
  cases w with
  | val d => exact fun Q hQ => hQ v F' H' Gd.refl E' r
  | loc i => exact fun Q hQ => hQ v F' H' Gd.refl E' r
  | tmp ds =>
    obtain ⟨F2, g2, E2, r2⟩ := fzW_ok (d := .list ds) (ρ' := ρ') E' r rfl
    exact fun Q hQ => hQ v F2 H' g2 E2 r2
theorem RepA.cut {K : PySem.W.Frag} {F : Addr → Prop} {H : Hp} {vs : List V} {ds : List PyData} {lo hi : Option Int} (r : RepA K F H vs ds) : RepA K F H (cutV vs lo hi) (cutD ds lo hi) := by
  unfold cutV cutD
  rw [r.len]
  exact (r.drop _).take _
theorem r_sl {lo hi : Option Expr} {l u : Env → Res (Option Int)} (ha : PEr X C Z a f) (hl : POr X C Z lo l) (hu : POr X C Z hi u) : PEr X C Z (.Subscript a (.Slice lo hi none p2) pos) (eSl f l u) := by
  obtain ⟨t, ht, hs⟩ := ha.ex
  obtain ⟨tl, htl, hsl⟩ := hl.ex
  obtain ⟨tu, htu, hsu⟩ := hu.ex
  refine ⟨_, pe_slice (sl_list.or (sl_str.or sl_tup)) ht htl htu, fun F B σ H ρ E => ?_⟩
  refine EGo.bind (T := fun v H1 Q => tl σ H1 fun l H2 => tu σ H2 fun u H3 => (rSlL X.K v l u H3 Q ∨ rSlS v l u H3 Q ∨ rSlT X.K v l u H3 Q)) (ftGo hs F B σ H ρ E) (fun Q q => q) fun v w ρ' F' H' hw g1 E' rv => ?_
  refine EGo.bindO (T := fun l H2 Q => tu σ H2 fun u H3 => (rSlL X.K v l u H3 Q ∨ rSlS v l u H3 Q ∨ rSlT X.K v l u H3 Q)) (hsl F' B σ H' ρ' E') (fun Q q => q) fun lo ρ2 F2 H2 _ g2 E2 => ?_
  refine EGo.bindO (T := fun u H3 Q => (rSlL X.K v lo u H3 Q ∨ rSlS v lo u H3 Q ∨ rSlT X.K v lo u H3 Q)) (hsu F2 B σ H2 ρ2 E2) (fun Q q => q) fun hi ρ3 F3 H3 _ g3 E3 => ?_
  have rv3 : RW X.K F3 B H3 σ ρ3 v w := by
    have e := hold_ft hw B v
    refine rv.keep (B := B) ?_ ?_
    · rw [e]; exact g2.trans g3
    · rw [e]; exact E3
  cases h1 : rdW ρ3 w with
  | none => trivial
  | some d =>
    dsimp only
    have rs := rdW_ok E3 rv3 h1
    cases h2 : slOp lo hi d with
    | none => trivial
    | some a =>
      refine fun Q hQ => ?_
      unfold slOp at h2
      split at h2
      · cases h2
        obtain ⟨l, vs, rfl, hh, ra⟩ := rs.lst
        exact .inl ⟨l, vs, rfl, .inl hh, fun p hp => hQ _ _ _ (E3.newT hp).1 (E3.newT hp).2 (E3.tmp hp ra.cut)⟩
      · split at h2
        · rename_i hz
          cases h2
          exact .inr (.inl ⟨_, rs.str, hz, hQ _ F3 H3 Gd.refl E3 (.str _)⟩)
        · cases h2
      · split at h2
        · cases h2
        · rename_i hz
          cases h2
          obtain ⟨l, vs, rfl, hh, ra⟩ := rs.tup
          refine .inr (.inr ⟨l, vs, rfl, hh, by rw [ra.len]; exact hz, fun p hp => hQ _ _ _ (E3.newF hp).1 (E3.newF hp).2 (E3.tupN hp ra.cut)⟩)
      · cases h2

def truD : PyData → Option Bool
  | .none => some false
  | .bool b => some b
  | .int i => some (i != 0)
  | .str x => if x.length ≤ sizeLine then some ((x.length : Int) != 0) else none
  | .list xs => some (!xs.isEmpty)
  | .tuple xs => some (!xs.isEmpty)
  | .dict _ => none
theorem isEmpty_rep {K : PySem.W.Frag} {F : Addr → Prop} {H : Hp} {vs : List V} {ds : List PyData} (r : RepA K F H vs ds) : vs.isEmpty = ds.isEmpty := by cases r <;> rfl
theorem truD_ok {K : PySem.W.Frag} {F : Addr → Prop} {H : Hp} {v : V} {d : PyData} {k : Bool} (r : RepS K F H v d) (h : truD d = some k) : TruV K v H k := by
  unfold truD at h
  split at h
  · cases h; rw [r.non]; exact rfl
  · cases h; rw [r.bl]; exact rfl
  · cases h; rw [r.int]; exact rfl
  · split at h
    · rename_i hz
      cases h; rw [r.str]; exact ⟨hz, rfl⟩
    · cases h
  · cases h
    obtain ⟨l, vs, rfl, hh, ra⟩ := r.lst
    exact .inl ⟨vs, .inl hh, by rw [isEmpty_rep ra]⟩
  · cases h
    obtain ⟨l, vs, rfl, hh, ra⟩ := r.tup
    exact .inr (.inl ⟨vs, hh, by rw [isEmpty_rep ra]⟩)
  · cases h
def truW (ρ : Env) (w : W) : Option Bool := (rdW ρ w).bind truD
theorem truW_ok {K : PySem.W.Frag} {F B : Addr → Prop} {H : Hp} {σ : L2.St} {ρ : Env} {v : V} {w : W} {k : Bool} (E : ER K F B H σ ρ) (r : RW K F B H σ ρ v w) (h : truW ρ w = some k) : TruV K v H k := by
  unfold truW at h
  cases h1 : rdW ρ w with
  | none => rw [h1] at h; cases h
  | some d => rw [h1] at h; exact truD_ok (rdW_ok E r h1) h
def tTru (f : EF) : TF := fun ρ => (f ρ).bind fun w ρ1 => match truW ρ1 w with | some k => .ok k ρ1 | none => .stuck
theorem rt_tru (ha : PEr X C Z a f) (he : ∀ whole, isTrue a X.env whole = (do let v ← whole; standAt a.pos; holding [v] (truthy v)) := by intro _; rfl) : PTr X C Z a (tTru f) := by
  obtain ⟨t, ht, hs⟩ := ha.ex
  refine ⟨_, pt_truth ht he, fun F B σ H ρ E => ?_⟩
  refine TGo.bindE (T := fun x H' Q => ∃ k, TruV X.K x H' k ∧ Q k H') (hs F B σ H ρ E) (fun Q q => q) fun v w ρ' F' H' _ g E' rv => ?_
  cases h1 : truW ρ' w with
  | none => trivial
  | some k => exact fun Q hQ => ⟨k, truW_ok E' rv h1, hQ F' H' Gd.refl E'⟩
def eAnd (f g : EF) : EF := fun ρ => (f ρ).bind fun w ρ1 => match truW ρ1 w with | some true => g ρ1 | some false => .ok w ρ1 | none => .stuck
def eOr (f g : EF) : EF := fun ρ => (f ρ).bind fun w ρ1 => match truW ρ1 w with | some true => .ok w ρ1 | some false => g ρ1 | none => .stuck
def eNot (f : EF) : EF := fun ρ => (f ρ).bind fun w ρ1 => match truW ρ1 w with | some k => .ok (.val (.bool (!k))) ρ1 | none => .stuck
theorem r_one {op} (h : PEr X C Z a f) : PEr X C Z (.BoolOp op [a] pos) f := by
  obtain ⟨t, ht, hs⟩ := h.ex
  exact ⟨t, pe_one ht, hs⟩
theorem r_and {rest : List Expr} (ha : PEr X C Z a f) (hb : PEr X C Z (.BoolOp .And (b :: rest) pos) g) : PEr X C Z (.BoolOp .And (a :: b :: rest) pos) (eAnd f g) := by
  obtain ⟨t, ht, hs⟩ := ha.ex
  obtain ⟨t2, ht2, hs2⟩ := hb.ex
  refine ⟨_, pe_andT ht ht2, fun F B σ H ρ E => ?_⟩
  refine EGo.bind (T := fun x H1 Q => ∃ k, TruV X.K x H1 k ∧ if k = true then t2 σ H1 Q else Q x H1) (hs F B σ H ρ E) (fun Q q => q) fun v w ρ' F' H' _ g1 E' rv => ?_
  cases h1 : truW ρ' w with
  | none => trivial
  | some k =>
    have tv := truW_ok E' rv h1
    cases k with
    | false => exact fun Q hQ => ⟨false, tv, iteF (hQ v F' H' Gd.refl E' rv)⟩
    | true =>
      have h2 := hs2 F' B σ H' ρ' E'
      dsimp only
      cases h3 : g ρ' with
      | stuck => trivial
      | exc c ρ2 => rw [h3] at h2; exact fun x Q => ⟨true, tv, iteT (h2 x Q)⟩
      | ok w2 ρ2 => rw [h3] at h2; exact fun Q hQ => ⟨true, tv, iteT (h2 Q hQ)⟩
theorem r_or {rest : List Expr} (ha : PEr X C Z a f) (hb : PEr X C Z (.BoolOp .Or (b :: rest) pos) g) : PEr X C Z (.BoolOp .Or (a :: b :: rest) pos) (eOr f g) := by
  obtain ⟨t, ht, hs⟩ := ha.ex
  obtain ⟨t2, ht2, hs2⟩ := hb.ex
  refine ⟨_, pe_orT ht ht2, fun F B σ H ρ E => ?_⟩
  refine EGo.bind (T := fun x H1 Q => ∃ k, TruV X.K x H1 k ∧ if k = true then Q x H1 else t2 σ H1 Q) (hs F B σ H ρ E) (fun Q q => q) fun v w ρ' F' H' _ g1 E' rv => ?_
  cases h1 : truW ρ' w with
  | none => trivial
  | some k =>
    have tv := truW_ok E' rv h1
    cases k with
    | true => exact fun Q hQ => ⟨true, tv, iteT (hQ v F' H' Gd.refl E' rv)⟩
    | false =>
      have h2 := hs2 F' B σ H' ρ' E'
      dsimp only
      cases h3 : g ρ' with
      | stuck => trivial
      | exc c ρ2 => rw [h3] at h2; exact fun x Q => ⟨false, tv, iteF (h2 x Q)⟩
      | ok w2 ρ2 => rw [h3] at h2; exact fun Q hQ => ⟨false, tv, iteF (h2 Q hQ)⟩
theorem r_not (ha : PEr X C Z a f) : PEr X C Z (.UnaryOp .Not a pos) (eNot f) := by
  obtain ⟨t, ht, hs⟩ := ha.ex
  refine ⟨_, pe_notT ht, fun F B σ H ρ E => ?_⟩
  refine EGo.bind (T := fun x H1 Q => ∃ k, TruV X.K x H1 k ∧ Q (.bl (!k)) H1) (hs F B σ H ρ E) (fun Q q => q) fun v w ρ' F' H' _ g1 E' rv => ?_
  cases h1 : truW ρ' w with
  | none => trivial
  | some k => exact fun Q hQ => ⟨k, truW_ok E' rv h1, hQ _ F' H' Gd.refl E' (.bl _)⟩
def eNeg (f : EF) : EF := fun ρ => (f ρ).bind fun w ρ1 => match w with | .val (.int i) => .ok (.val (.int (-i))) ρ1 | _ => .stuck
theorem r_neg (ha : PEr X C Z a f) : PEr X C Z (.UnaryOp .USub a pos) (eNeg f) := by
  obtain ⟨t, ht, hs⟩ := ha.ex
  refine ⟨_, pe_un un_neg ht, fun F B σ H ρ E => ?_⟩
  refine EGo.bind (T := fun x H1 Q => ∃ i, x = .int i ∧ Q (.int (-i)) H1) (hs F B σ H ρ E) (fun Q q => q) fun v w ρ' F' H' _ g1 E' rv => ?_
  cases w with
  | val d =>
    cases d with
    | int i =>
      have rv : Rep X.K F' H' v (.int i) := rv
      cases rv
      exact fun Q hQ => ⟨i, rfl, hQ _ F' H' Gd.refl E' (.int _)⟩
    | _ => trivial
  | _ => trivial
def tBothT (f g : TF) : TF := fun ρ => (f ρ).bind fun b ρ1 => if b = true then g ρ1 else .ok false ρ1
def tEitherT (f g : TF) : TF := fun ρ => (f ρ).bind fun b ρ1 => if b = true then .ok true ρ1 else g ρ1
def tNegT (f : TF) : TF := fun ρ => (f ρ).bind fun b ρ1 => .ok (!b) ρ1
theorem rw_and1 {f : TF} (ha : PTr X C Z a f) : PWr X C Z (.BoolOp .And [a] pos) f := by
  obtain ⟨t, ht, hs⟩ := ha.ex
  exact ⟨t, pw_and1 ht, hs⟩
theorem rw_or1 {f : TF} (ha : PTr X C Z a f) : PWr X C Z (.BoolOp .Or [a] pos) f := by
  obtain ⟨t, ht, hs⟩ := ha.ex
  exact ⟨t, pw_or1 ht, hs⟩
theorem rw_and {f g : TF} {rest : List Expr} (ha : PTr X C Z a f) (hb : PWr X C Z (.BoolOp .And (b :: rest) pos) g) : PWr X C Z (.BoolOp .And (a :: b :: rest) pos) (tBothT f g) := by
  obtain ⟨t, ht, hs⟩ := ha.ex
  obtain ⟨t2, ht2, hs2⟩ := hb.ex
  refine ⟨_, pw_and ht ht2, fun F B σ H ρ E => ?_⟩
  refine TGo.bind (T := fun c H1 Q => if c = true then t2 σ H1 Q else Q false H1) (hs F B σ H ρ E) (fun Q q => q) fun b ρ' F' H' _ g1 E' => ?_
  cases b with
  | false =>
    rw [if_neg Bool.false_ne_true]
    exact fun Q hQ => iteF (hQ F' H' Gd.refl E')
  | true =>
    rw [if_pos rfl]
    have h2 := hs2 F' B σ H' ρ' E'
    cases h3 : g ρ' with
    | stuck => trivial
    | exc c ρ2 => rw [h3] at h2; exact fun x Q => iteT (h2 x Q)
    | ok w2 ρ2 => rw [h3] at h2; exact fun Q hQ => iteT (h2 Q hQ)
theorem rw_or {f g : TF} {rest : List Expr} (ha : PTr X C Z a f) (hb : PWr X C Z (.BoolOp .Or (b :: rest) pos) g) : PWr X C Z (.BoolOp .Or (a :: b :: rest) pos) (tEitherT f g) := by
  obtain ⟨t, ht, hs⟩ := ha.ex
  obtain ⟨t2, ht2, hs2⟩ := hb.ex
  refine ⟨_, pw_or ht ht2, fun F B σ H ρ E => ?_⟩
  refine TGo.bind (T := fun c H1 Q => if c = true then Q true H1 else t2 σ H1 Q) (hs F B σ H ρ E) (fun Q q => q) fun b ρ' F' H' _ g1 E' => ?_
  cases b with
  | true =>
    rw [if_pos rfl]
    exact fun Q hQ => iteT (hQ F' H' Gd.refl E')
  | false =>
    rw [if_neg Bool.false_ne_true]
    have h2 := hs2 F' B σ H' ρ' E'
    cases h3 : g ρ' with
    | stuck => trivial
    | exc c ρ2 => rw [h3] at h2; exact fun x Q => iteF (h2 x Q)
    | ok w2 ρ2 => rw [h3] at h2; exact fun Q hQ => iteF (h2 Q hQ)
theorem rt_w {f : TF} (h : PWr X C Z a f) : PTr X C Z a f := by
  obtain ⟨t, ht, hs⟩ := h.ex
  exact ⟨t, ht.pt, hs⟩
theorem rt_not {f : TF} (h : PTr X C Z a f) : PTr X C Z (.UnaryOp .Not a pos) (tNegT f) := by
  obtain ⟨t, ht, hs⟩ := h.ex
  refine ⟨_, pt_not ht, fun F B σ H ρ E => ?_⟩
  refine TGo.bind (T := fun c H1 Q => Q (!c) H1) (hs F B σ H ρ E) (fun Q q => q) fun b ρ' F' H' _ g1 E' => ?_
  exact fun Q hQ => hQ F' H' Gd.refl E'
def eChain (op op' : PyData → PyData → Option Ans) (f g h : EF) : EF := fun ρ => (eFz f ρ).bind fun w1 ρ1 => (eFz g ρ1).bind fun w2 ρ2 => match w1, w2 with
  | .val d1, .val d2 => match op d1 d2 with
    | some (.val (.bool true)) => (h ρ2).bind fun w3 ρ3 => match rdW ρ3 w3 with
      | some d3 => match op' d2 d3 with | some a => .ok a.w ρ3 | none => .stuck
      | none => .stuck
    | some (.val (.bool false)) => .ok (.val (.bool false)) ρ2
    | _ => .stuck
  | _, _ => .stuck
theorem fzGo {t : TE} (h : ∀ F B σ H ρ, ER X.K F B H σ ρ → EGo X C Z F B H σ (t σ H) (f ρ)) : ∀ F B σ H ρ, ER X.K F B H σ ρ → EGo X C Z F B H σ (t σ H) (eFz f ρ) := by
  intro F B σ H ρ E
  refine EGo.bind (T := fun v H1 Q => Q v H1) (h F B σ H ρ E) (fun Q q => q) fun v w ρ' F' H' _ g E' r => ?_
  cases h1 : fzW ρ' w with
  | none => trivial
  | some p =>
    obtain ⟨d, ρ2⟩ := p
    obtain ⟨F2, g2, E2, r2⟩ := fzW_ok E' r h1
    exact fun Q hQ => hQ v F2 H' g2 E2 r2
theorem chainGo {r r' : R2} {op op' : PyData → PyData → Option Ans} {ta tb tc : TE} (hr : BinS X.K r op) (hr' : BinS X.K r' op')
    (ha : ∀ F B σ H ρ, ER X.K F B H σ ρ → EGo X C Z F B H σ (ta σ H) (f ρ)) (hb : ∀ F B σ H ρ, ER X.K F B H σ ρ → EGo X C Z F B H σ (tb σ H) (g ρ)) (hc : ∀ F B σ H ρ, ER X.K F B H σ ρ → EGo X C Z F B H σ (tc σ H) (h ρ)) :
    ∀ F B σ H ρ, ER X.K F B H σ ρ → EGo X C Z F B H σ (tChain r r' ta tb tc σ H) (eChain op op' f g h ρ) := by
  intro F B σ H ρ E
  refine EGo.bind (T := fun x H1 Q => tb σ H1 fun y H2 => r x y H2 fun z H3 => ∃ k, z = .bl k ∧ (if k = true then tc σ H3 fun w' H4 => r' y w' H4 Q else Q (.bl false) H3)) (fzGo ha F B σ H ρ E) (fun Q q => q) fun x w1 ρ1 F1 H1 _ g1 E1 rx => ?_
  refine EGo.bind (T := fun y H2 Q => r x y H2 fun z H3 => ∃ k, z = .bl k ∧ (if k = true then tc σ H3 fun w' H4 => r' y w' H4 Q else Q (.bl false) H3)) (fzGo hb F1 B σ H1 ρ1 E1) (fun Q q => q) fun y w2 ρ2 F2 H2 _ g2 E2 ry => ?_
  cases w1 with
  | val d1 =>
    cases w2 with
    | val d2 =>
      dsimp only
      have rx2 : Rep X.K F2 H2 x d1 := Rep.gd g2 rx
      have ry2 : Rep X.K F2 H2 y d2 := ry
      cases h1 : op d1 d2 with
      | none => trivial
      | some an =>
        cases an with
        | new ds => trivial
        | val dv =>
          cases dv with
          | bool k =>
            cases k with
            | false =>
              exact fun Q hQ => hr F2 B σ H2 ρ2 x y d1 d2 _ E2 (.inl rx2) (.inl ry2) h1 _ fun v F3 H3 g3 E3 r3 => by
                have r3 : Rep X.K F3 H3 v (.bool false) := r3
                cases r3
                exact ⟨false, rfl, iteF (hQ _ F3 H3 g3 E3 (.bl _))⟩
            | true =>
              dsimp only
              -- the first comparison, then the rest
              have step : ∀ Q' : VK, (∀ F3 H3, Gd F2 B H2 F3 H3 → ER X.K F3 B H3 σ ρ2 → Q' (.bl true) H3) → r x y H2 Q' := fun Q' hQ' =>
                hr F2 B σ H2 ρ2 x y d1 d2 _ E2 (.inl rx2) (.inl ry2) h1 _ fun v F3 H3 g3 E3 r3 => by
                  have r3 : Rep X.K F3 H3 v (.bool true) := r3
                  cases r3
                  exact hQ' F3 H3 g3 E3
              have rest : ∀ F3 H3, Gd F2 B H2 F3 H3 → ER X.K F3 B H3 σ ρ2 → EGo X C Z F3 B H3 σ (fun Q => tc σ H3 fun w' H4 => r' y w' H4 Q) ((h ρ2).bind fun w3 ρ3 => match rdW ρ3 w3 with
                  | some d3 => match op' d2 d3 with | some a => .ok a.w ρ3 | none => .stuck
                  | none => .stuck) := fun F3 H3 g3 E3 => by
                refine EGo.bind (T := fun w' H4 Q => r' y w' H4 Q) (hc F3 B σ H3 ρ2 E3) (fun Q q => q) fun z w3 ρ3 F4 H4 _ g4 E4 rz => ?_
                cases h3 : rdW ρ3 w3 with
                | none => trivial
                | some d3 =>
                  dsimp only
                  cases h4 : op' d2 d3 with
                  | none => trivial
                  | some a => exact fun Q hQ => hr' F4 B σ H4 ρ3 y z d2 d3 a E4 (.inl (Rep.gd (g3.trans g4) ry2)) (rdW_ok E4 rz h3) h4 Q hQ
              generalize ((h ρ2).bind fun w3 ρ3 => match rdW ρ3 w3 with
                  | some d3 => match op' d2 d3 with | some a => .ok a.w ρ3 | none => .stuck
                  | none => .stuck) = R at rest ⊢
              cases R with
              | stuck => trivial
              | exc c ρ3 => exact fun xx Q => step _ fun F3 H3 g3 E3 => ⟨true, rfl, iteT (rest F3 H3 g3 E3 (xx.after g3) Q)⟩
              | ok w4 ρ4 => exact fun Q hQ => step _ fun F3 H3 g3 E3 => ⟨true, rfl, iteT (rest F3 H3 g3 E3 Q fun v F5 H5 g5 E5 r5 => hQ v F5 H5 (g3.trans g5) E5 r5)⟩
          | _ => trivial
    | _ => trivial
  | _ => trivial
theorem r_chain {o o' : CmpOp} {r r' : R2} {op op' : PyData → PyData → Option Ans} (ho : OpR X (compareOp o) r) (ho' : OpR X (compareOp o') r') (hr : BinS X.K r op) (hr' : BinS X.K r' op') (ha : PEr X C Z a f) (hb : PEr X C Z b g) (hc : PEr X C Z c h)
    (hm : lastMarks [o, o'] [b, c] = false := by with_unfolding_all rfl) : PEr X C Z (.Compare a [o, o'] [b, c] pos) (eChain op op' f g h) := by
  obtain ⟨t, ht, hs⟩ := ha.ex
  obtain ⟨t2, ht2, hs2⟩ := hb.ex
  obtain ⟨t3, ht3, hs3⟩ := hc.ex
  exact ⟨_, pe_chain ho ho' ht ht2 ht3 hm, chainGo hr hr' hs hs2 hs3⟩
theorem rt_chain {o o' : CmpOp} {r r' : R2} {op op' : PyData → PyData → Option Ans} (ho : OpR X (compareOp o) r) (ho' : OpR X (compareOp o') r') (hr : BinS X.K r op) (hr' : BinS X.K r' op') (ha : PEr X C Z a f) (hb : PEr X C Z b g) (hc : PEr X C Z c h)
    (hm : lastMarks [o, o'] [b, c] = false := by with_unfolding_all rfl) : PTr X C Z (.Compare a [o, o'] [b, c] pos) (tBool (eChain op op' f g h)) := by
  obtain ⟨t, ht, hs⟩ := ha.ex
  obtain ⟨t2, ht2, hs2⟩ := hb.ex
  obtain ⟨t3, ht3, hs3⟩ := hc.ex
  exact ⟨_, pt_chain ho ho' ht ht2 ht3 hm, testGo (chainGo hr hr' hs hs2 hs3)⟩
end
end Ls
namespace Ls
open PySem PySem.Spec PyProof.Rows L2

def CallS (K : PySem.W.Frag) (r : List V → Hp → VK → Prop) (fn : PyData → Option Ans) : Prop := ∀ F B σ H ρ x d a, ER K F B H σ ρ → RepS K F H x d → fn d = some a →
  ∀ Q : VK, (∀ v F' H', Gd F B H F' H' → ER K F' B H' σ ρ → RW K F' B H' σ ρ v a.w → Q v H') → r [x] H Q
def eCall1 (fn : PyData → Option Ans) (f : EF) : EF := fun ρ => (f ρ).bind fun w ρ1 => match rdW ρ1 w with
  | some d => match fn d with | some a => .ok a.w ρ1 | none => .stuck
  | none => .stuck
def CallS2 (K : PySem.W.Frag) (r : List V → Hp → VK → Prop) (fn : PyData → PyData → Option Ans) : Prop := ∀ F B σ H ρ x y d1 d2 a, ER K F B H σ ρ → RepS K F H x d1 → RepS K F H y d2 → fn d1 d2 = some a →
  ∀ Q : VK, (∀ v F' H', Gd F B H F' H' → ER K F' B H' σ ρ → RW K F' B H' σ ρ v a.w → Q v H') → r [x, y] H Q
section
variable {X : Cx} {C : Cof} {Z : WX} {a b e : Expr} {f g : EF} {pos p : Pos} {x : Str} {id T : String} {r : List V → Hp → VK → Prop} {fn : PyData → Option Ans} {fn2 : PyData → PyData → Option Ans}
theorem call1Go {t : TE} (hr : CallS X.K r fn) (h : ∀ F B σ H ρ, ER X.K F B H σ ρ → EGo X C Z F B H σ (t σ H) (f ρ)) : ∀ F B σ H ρ, ER X.K F B H σ ρ → EGo X C Z F B H σ (tCB r (tCons t tNil) σ H) (eCall1 fn f ρ) := by
  intro F B σ H ρ E
  refine EGo.bind (T := fun x H1 Q => r [x] H1 Q) (h F B σ H ρ E) (fun Q q => q) fun v w ρ' F' H' _ g1 E' rv => ?_
  cases h1 : rdW ρ' w with
  | none => trivial
  | some d =>
    dsimp only
    cases h2 : fn d with
    | none => trivial
    | some an => exact fun Q hQ => hr F' B σ H' ρ' v d an E' (rdW_ok E' rv h1) h2 Q hQ
theorem r_callB (hc : CallR X (.builtin id) r) (hr : CallS X.K r fn) (hm : X.mg x = none) (ha : PEr X C Z a f) (hg : Gl X x := by rfl) (hv : bootBuiltins x = some (.builtin id) := by decide +kernel) (hn : x ≠ "__name__" := by decide) (hdb : (x == ("__debug__" : Str)) = false := by decide)
    (he : starEach [a] X.env = (false, eval a X.env) :: starEach [] X.env := by rfl) (hpl : (backTo pos (starEach [] X.env)).any (·.1) = false := by rfl) : PEr X C Z (.Call (.Name x p) [a] [] pos) (eCall1 fn f) := by
  obtain ⟨t, ht, hs⟩ := ha.ex
  exact ⟨_, pe_callB hc hg hm hv (pa_cons ht pa_nil he) hn hdb he hpl, call1Go hr hs⟩
theorem r_callT (hc : CallR X (.type T) r) (hr : CallS X.K r fn) (hm : X.mg x = none) (ha : PEr X C Z a f) (hg : Gl X x := by rfl) (hv : bootBuiltins x = some (.type T) := by decide +kernel) (hn : x ≠ "__name__" := by decide) (hdb : (x == ("__debug__" : Str)) = false := by decide)
    (he : starEach [a] X.env = (false, eval a X.env) :: starEach [] X.env := by rfl) (hpl : (backTo pos (starEach [] X.env)).any (·.1) = false := by rfl) : PEr X C Z (.Call (.Name x p) [a] [] pos) (eCall1 fn f) := by
  obtain ⟨t, ht, hs⟩ := ha.ex
  exact ⟨_, pe_callTy hc hg hm hv (pa_cons ht pa_nil he) hn hdb he hpl, call1Go hr hs⟩
theorem call2Go {ta tb : TE} (hr : CallS2 X.K r fn2) (ha : ∀ F B σ H ρ, ER X.K F B H σ ρ → EGo X C Z F B H σ (ta σ H) (f ρ)) (hb : ∀ F B σ H ρ, ER X.K F B H σ ρ → EGo X C Z F B H σ (tb σ H) (g ρ)) :
    ∀ F B σ H ρ, ER X.K F B H σ ρ → EGo X C Z F B H σ (tCB r (tCons ta (tCons tb tNil)) σ H) (eBin fn2 f g ρ) :=
  binGo (r := fun x y H Q => r [x, y] H Q) hr ha hb
theorem r_callB2 (hc : CallR X (.builtin id) r) (hr : CallS2 X.K r fn2) (hm : X.mg x = none) (ha : PEr X C Z a f) (hb : PEr X C Z b g) (hg : Gl X x := by rfl) (hv : bootBuiltins x = some (.builtin id) := by decide +kernel) (hn : x ≠ "__name__" := by decide) (hdb : (x == ("__debug__" : Str)) = false := by decide)
    (he : starEach [a, b] X.env = (false, eval a X.env) :: starEach [b] X.env := by rfl) (he2 : starEach [b] X.env = (false, eval b X.env) :: starEach [] X.env := by rfl) (hpl : (backTo pos (starEach [b] X.env)).any (·.1) = false := by rfl) : PEr X C Z (.Call (.Name x p) [a, b] [] pos) (eBin fn2 f g) := by
  obtain ⟨t, ht, hs⟩ := ha.ex
  obtain ⟨t2, ht2, hs2⟩ := hb.ex
  exact ⟨_, pe_callB hc hg hm hv (pa_cons ht (pa_cons ht2 pa_nil he2) he) hn hdb he hpl, call2Go hr hs hs2⟩
end
def lenFn : PyData → Option Ans
  | .list xs => some (.val (.int xs.length))
  | .tuple xs => some (.val (.int xs.length))
  | .str z => if z.length ≤ sizeLine then some (.val (.int z.length)) else none
  | .dict [(.list xs, .none)] => some (.val (.int xs.length))
  | _ => none
def listFn : PyData → Option Ans
  | .list xs => some (.new xs)
  | .tuple xs => some (.new xs)
  | _ => none
def tupleFn : PyData → Option Ans
  | .list xs => some (.val (.tuple xs))
  | .tuple xs => some (.val (.tuple xs))
  | _ => none
def intFn : PyData → Option Ans
  | .int i => some (.val (.int i))
  | .bool b => some (.val (.int (if b then 1 else 0)))
  | _ => none
def boolsOf : List PyData → Option (List Bool)
  | [] => some []
  | .bool b :: ds => (boolsOf ds).map (b :: ·)
  | _ => none
def intsOf : List PyData → Option (List Int)
  | [] => some []
  | .int b :: ds => (intsOf ds).map (b :: ·)
  | _ => none
def strsOf : List PyData → Option (List Str)
  | [] => some []
  | .str b :: ds => (strsOf ds).map (b :: ·)
  | _ => none
def allFn : PyData → Option Ans
  | .list xs => (boolsOf xs).map fun bs => .val (.bool (bs.all id))
  | _ => none
def anyFn : PyData → Option Ans
  | .list xs => (boolsOf xs).map fun bs => .val (.bool (bs.any id))
  | _ => none
def sumFn : PyData → Option Ans
  | .list xs => (intsOf xs).map fun ns => .val (.int ns.sum)
  | _ => none
def maxFn2 : PyData → PyData → Option Ans
  | .int i, .int j => some (.val (.int (if j > i then j else i)))
  | _, _ => none
def minFn2 : PyData → PyData → Option Ans
  | .int i, .int j => some (.val (.int (if j < i then j else i)))
  | _, _ => none
section
variable {K : PySem.W.Frag}
theorem boolsOf_ok {F : Addr → Prop} {H : Hp} : ∀ {vs : List V} {ds : List PyData} {bs : List Bool}, RepA K F H vs ds → boolsOf ds = some bs → vs = bs.map V.bl
  | _, _, _, .nil, e => by cases e; rfl
  | _, _, _, .cons (d := d) (ds := ds) r t, e => by
    cases r <;> try (cases e; done)
    unfold boolsOf at e
    obtain ⟨cs, h, rfl⟩ := Option.map_eq_some_iff.mp e
    rw [boolsOf_ok t h]; rfl
theorem intsOf_ok {F : Addr → Prop} {H : Hp} : ∀ {vs : List V} {ds : List PyData} {bs : List Int}, RepA K F H vs ds → intsOf ds = some bs → vs = bs.map V.int
  | _, _, _, .nil, e => by cases e; rfl
  | _, _, _, .cons (d := d) (ds := ds) r t, e => by
    cases r <;> try (cases e; done)
    unfold intsOf at e
    obtain ⟨cs, h, rfl⟩ := Option.map_eq_some_iff.mp e
    rw [intsOf_ok t h]; rfl
theorem strsOf_ok {F : Addr → Prop} {H : Hp} : ∀ {vs : List V} {ds : List PyData} {bs : List Str}, RepA K F H vs ds → strsOf ds = some bs → vs = bs.map V.str
  | _, _, _, .nil, e => by cases e; rfl
  | _, _, _, .cons (d := d) (ds := ds) r t, e => by
    cases r <;> try (cases e; done)
    unfold strsOf at e
    obtain ⟨cs, h, rfl⟩ := Option.map_eq_some_iff.mp e
    rw [strsOf_ok t h]; rfl
theorem call_val {r : List V → Hp → VK → Prop} {fn : PyData → Option Ans} (h : ∀ F H x d a, RepS K F H x d → fn d = some a → ∃ d', a = .val d' ∧ ∃ v, (∀ F' H', Rep K F' H' v d') ∧ ∀ Q : VK, Q v H → r [x] H Q) : CallS K r fn := by
  intro F B σ H ρ x d a E r1 e Q hQ
  obtain ⟨d', rfl, v, hv, hr⟩ := h F H x d a r1 e
  exact hr Q (hQ v F H Gd.refl E (hv F H))
def rLenA (K : PySem.W.Frag) : List V → Hp → VK → Prop := fun xs H Q => (∃ p ys, xs = [.ref p] ∧ (SqL K H p ys ∨ SqT K H p ys) ∧ Q (.int ys.length) H) ∨ (∃ z, xs = [.str z] ∧ z.length ≤ sizeLine ∧ Q (.int z.length) H)
theorem CallR.or {X : Cx} {f : Value} {r r' : List V → Hp → VK → Prop} (h : CallR X f r) (h' : CallR X f r') : CallR X f (fun xs H Q => r xs H Q ∨ r' xs H Q) := by
  intro pins s σ H xs us Q I rx q
  rcases q with q | q
  · exact h pins s σ H xs us Q I rx q
  · exact h' pins s σ H xs us Q I rx q
theorem c_lenA {X : Cx} : CallR X (.builtin "len") (rLenA X.K) := CallR.or call_len_seq call_len_str
theorem k_len : CallS K (rLenA K) lenFn := call_val fun F H x d a r e => by
  unfold lenFn at e
  split at e
  · cases e
    obtain ⟨l, vs, rfl, h1, ra⟩ := r.lst
    exact ⟨_, rfl, _, fun F' H' => .int _, fun Q q => .inl ⟨l, vs, rfl, .inl (.inl h1), by rw [ra.len]; exact q⟩⟩
  · cases e
    obtain ⟨l, vs, rfl, h1, ra⟩ := r.tup
    exact ⟨_, rfl, _, fun F' H' => .int _, fun Q q => .inl ⟨l, vs, rfl, .inr h1, by rw [ra.len]; exact q⟩⟩
  · split at e
    · rename_i hz
      cases e
      exact ⟨_, rfl, _, fun F' H' => .int _, fun Q q => .inr ⟨_, by rw [r.str], hz, q⟩⟩
    · cases e
  · cases e
    obtain ⟨l, ns, rfl, rfl, h1⟩ := r.scr
    exact ⟨_, rfl, _, fun F' H' => .int _, fun Q q => .inl ⟨l, _, rfl, .inl h1, by simpa using q⟩⟩
  · cases e
theorem k_list : CallS K (fun xs H Q => ∃ p ys, xs = [.ref p] ∧ (SqL K H p ys ∨ SqT K H p ys) ∧ ∀ l, H l = none → Q (.ref l) (upd H l (.lst ys))) listFn := by
  intro F B σ H ρ x d a E r e Q hQ
  unfold listFn at e
  split at e
  · cases e
    obtain ⟨l, vs, rfl, h1, ra⟩ := r.lst
    exact ⟨l, vs, rfl, .inl (.inl h1), fun p hp => hQ _ _ _ (E.newT hp).1 (E.newT hp).2 (E.tmp hp ra)⟩
  · cases e
    obtain ⟨l, vs, rfl, h1, ra⟩ := r.tup
    exact ⟨l, vs, rfl, .inr h1, fun p hp => hQ _ _ _ (E.newT hp).1 (E.newT hp).2 (E.tmp hp ra)⟩
  · cases e
theorem k_int : CallS K (fun xs H Q => (∃ i, xs = [.int i] ∧ Q (.int i) H) ∨ ∃ k, xs = [.bl k] ∧ Q (.int (if k then 1 else 0)) H) intFn := call_val fun F H x d a r e => by
  unfold intFn at e
  split at e
  · cases e; exact ⟨_, rfl, _, fun F' H' => .int _, fun Q q => .inl ⟨_, by rw [r.int], q⟩⟩
  · cases e; exact ⟨_, rfl, _, fun F' H' => .int _, fun Q q => .inr ⟨_, by rw [r.bl], q⟩⟩
  · cases e
theorem k_all : CallS K (rAll K) allFn := call_val fun F H x d a r e => by
  unfold allFn at e
  split at e
  · obtain ⟨bs, h, rfl⟩ := Option.map_eq_some_iff.mp e
    obtain ⟨l, vs, rfl, h1, ra⟩ := r.lst
    have := boolsOf_ok ra h
    subst this
    exact ⟨_, rfl, _, fun F' H' => .bl _, fun Q q => ⟨l, bs, rfl, .inl h1, q⟩⟩
  · cases e
theorem k_any : CallS K (rAny K) anyFn := call_val fun F H x d a r e => by
  unfold anyFn at e
  split at e
  · obtain ⟨bs, h, rfl⟩ := Option.map_eq_some_iff.mp e
    obtain ⟨l, vs, rfl, h1, ra⟩ := r.lst
    have := boolsOf_ok ra h
    subst this
    exact ⟨_, rfl, _, fun F' H' => .bl _, fun Q q => ⟨l, bs, rfl, .inl h1, q⟩⟩
  · cases e
theorem k_sum : CallS K (rSum K) sumFn := call_val fun F H x d a r e => by
  unfold sumFn at e
  split at e
  · obtain ⟨bs, h, rfl⟩ := Option.map_eq_some_iff.mp e
    obtain ⟨l, vs, rfl, h1, ra⟩ := r.lst
    have := intsOf_ok ra h
    subst this
    exact ⟨_, rfl, _, fun F' H' => .int _, fun Q q => ⟨l, bs, rfl, .inl h1, q⟩⟩
  · cases e
theorem k_max2 : CallS2 K (fun xs H Q => ∃ i j, xs = [.int i, .int j] ∧ Q (.int (if j > i then j else i)) H) maxFn2 := by
  intro F B σ H ρ x y d1 d2 a E r1 r2 e Q hQ
  unfold maxFn2 at e
  split at e
  · cases e; exact ⟨_, _, by rw [r1.int, r2.int], hQ _ F H Gd.refl E (.int _)⟩
  · cases e
theorem k_min2 : CallS2 K (fun xs H Q => ∃ i j, xs = [.int i, .int j] ∧ Q (.int (if j < i then j else i)) H) minFn2 := by
  intro F B σ H ρ x y d1 d2 a E r1 r2 e Q hQ
  unfold minFn2 at e
  split at e
  · cases e; exact ⟨_, _, by rw [r1.int, r2.int], hQ _ F H Gd.refl E (.int _)⟩
  · cases e
end

def tyName : PyData → Option String
  | .none => some "NoneType"
  | .bool _ => some "bool"
  | .int _ => some "int"
  | .str _ => some "str"
  | .list _ => some "list"
  | .tuple _ => some "tuple"
  | .dict _ => none
def isiFn (T : String) (d : PyData) : Option Ans := (tyName d).bind fun n => (kitB n T).map fun b => .val (.bool b)
theorem tyX_ok {K : PySem.W.Frag} {F : Addr → Prop} {H : Hp} {v : V} {d : PyData} {n : String} (r : RepS K F H v d) (h : tyName d = some n) : TyX K H v (.type n) := by
  cases d with
  | none => cases h; rw [r.non]; exact .base .non
  | bool b => cases h; rw [r.bl]; exact .base (.bl b)
  | int i => cases h; rw [r.int]; exact .base (.int i)
  | str x => cases h; rw [r.str]; exact .base (.str x)
  | list ds =>
    cases h
    obtain ⟨l, vs, rfl, h1, ra⟩ := r.lst
    rcases h1 with h1 | ⟨o, h1⟩
    · exact .base (.lst h1)
    · exact .base (.frz h1)
  | tuple ds =>
    cases h
    obtain ⟨l, vs, rfl, h1, ra⟩ := r.tup
    rcases h1 with (h1 | ⟨o, h1⟩) | ⟨o, its, n, h1, h2, _⟩
    · exact .base (.tup h1)
    · exact .fTuple h1
    · exact .kTuple h1 h2
  | dict _ => cases h
section
variable {X : Cx} {C : Cof} {Z : WX} {a : Expr} {f : EF} {pos p p2 : Pos} {x : Str} {T : String}
theorem r_isi (hm : X.mg "isinstance" = none) (ha : PEr X C Z a f) (hmT : X.mg x = none) (hg : Gl X "isinstance" := by rfl) (hgT : Gl X x := by rfl) (hvT : bootBuiltins x = some (.type T) := by decide +kernel) (hn : x ≠ "__name__" := by decide) (hdb : (x == ("__debug__" : Str)) = false := by decide)
    (he : starEach [a, .Name x p2] X.env = (false, eval a X.env) :: starEach [.Name x p2] X.env := by rfl) (he2 : starEach [.Name x p2] X.env = (false, eval (.Name x p2) X.env) :: starEach [] X.env := by rfl) (hpl : (backTo pos (starEach [.Name x p2] X.env)).any (·.1) = false := by rfl) :
    PEr X C Z (.Call (.Name "isinstance" p) [a, .Name x p2] [] pos) (eCall1 (isiFn T) f) := by
  obtain ⟨t, ht, hs⟩ := ha.ex
  refine ⟨_, pe_callB call_isi hg hm (by decide +kernel) (pa_cons ht (pa_cons (pe_bltn (v := .ty T) hgT hmT hvT rfl hn hdb) pa_nil he2) he) (by decide) (by decide) he hpl, fun F B σ H ρ E => ?_⟩
  refine EGo.bind (T := fun x H1 Q => rIsi X.K [x, .ty T] H1 Q) (hs F B σ H ρ E) (fun Q q => q) fun v w ρ' F' H' _ g1 E' rv => ?_
  cases h1 : rdW ρ' w with
  | none => trivial
  | some d =>
    dsimp only
    have rs := rdW_ok E' rv h1
    cases h2 : isiFn T d with
    | none => trivial
    | some an =>
      unfold isiFn at h2
      cases h3 : tyName d with
      | none => rw [h3] at h2; cases h2
      | some n =>
        rw [h3] at h2
        obtain ⟨b, h4, rfl⟩ := Option.map_eq_some_iff.mp h2
        exact fun Q hQ => ⟨v, .ty T, _, _, b, rfl, .ty T, tyX_ok rs h3, kit_ty h4, hQ _ F' H' Gd.refl E' (.bl b)⟩
end

section
variable {K : PySem.W.Frag} {F B : Addr → Prop} {H : Hp} {σ : L2.St} {ρ : Env}
theorem ER.write {i : Nat} {ds ds' : List PyData} {a : Addr} {vs' : List V} (E : ER K F B H σ ρ) (hi : ρ[i]? = some (some (.mut ds))) (hs : σ[i]? = some (some (.ref a))) (r : RepA K F H vs' ds') :
    Gd F B H F (upd H a (.lst vs')) ∧ ER K F B (upd H a (.lst vs')) σ (ρ.set i (some (.mut ds'))) := by
  obtain ⟨a', vs, h1, h2, nF, nB, ra⟩ := E.mt i ds hi
  rw [hs] at h1; cases h1
  have keep : ∀ b o, b ≠ a → H b = some o → upd H a (.lst vs') b = some o := fun b o hb e => by rw [upd_ne hb]; exact e
  have g : Gd F B H F (upd H a (.lst vs')) := ⟨fun _ h => h, fun b o h e => keep b o (fun z => by subst z; exact h.elim nF nB) e, fun _ _ z => z⟩
  refine ⟨g, by rw [List.length_set]; exact E.len, ?_, ?_, ?_, ?_, ?_⟩
  · intro b h
    obtain ⟨o, e⟩ := E.dom b h
    exact ⟨o, g.st b o (.inl h) e⟩
  · intro b h
    obtain ⟨o, e⟩ := E.domB b h
    exact ⟨o, g.st b o (.inr h) e⟩
  · intro j d h
    rcases getElem?_set_some h with ⟨rfl, q⟩ | ⟨_, q⟩
    · cases q
    · obtain ⟨u, z1, z2⟩ := E.sl j d q
      exact ⟨u, z1, Rep.gd g z2⟩
  · intro j es h
    rcases getElem?_set_some h with ⟨rfl, q⟩ | ⟨ne, q⟩
    · cases q
      exact ⟨a, vs', hs, upd_same, nF, nB, RepA.gd g r⟩
    · obtain ⟨b, ws, z1, z2, z3, z4, z5⟩ := E.mt j es q
      exact ⟨b, ws, z1, keep b _ (fun z => by subst z; exact ne (E.inj j i es ds b q hi z1 hs)) z2, z3, z4, RepA.gd g z5⟩
  · intro j k es fs b hj hk z1 z2
    rcases getElem?_set_some hj with ⟨rfl, q⟩ | ⟨n1, q⟩ <;> rcases getElem?_set_some hk with ⟨rfl, q'⟩ | ⟨n2, q'⟩
    · rfl
    · exact E.inj _ _ _ _ b hi q' z1 z2
    · exact E.inj _ _ _ _ b q hi z1 z2
    · exact E.inj j k es fs b q q' z1 z2
end
abbrev MutF := List PyData → List PyData → Option (PyData × List PyData)
def MutS (K : PySem.W.Frag) (r : V → List V → Hp → VK → Prop) (m : MutF) : Prop := ∀ F H l vs ds args dargs res ds', H l = some (.lst vs) → RepA K F H vs ds → RepA K F H args dargs → m ds dargs = some (res, ds') →
  ∀ Q : VK, (∀ v vs', Rep K F H v res → RepA K F H vs' ds' → Q v (upd H l (.lst vs'))) → r (.ref l) args H Q
def eMut (i : Nat) (m : MutF) (ga : AF) : EF := fun ρ => match ρ[i]? with
  | some (some (.mut _)) => (ga ρ).bind fun ws ρ1 => match vals ws, ρ1[i]? with
    | some args, some (some (.mut ds)) => match m ds args with
      | some (res, ds') => .ok (.val res) (ρ1.set i (some (.mut ds')))
      | none => .stuck
    | _, _ => .stuck
  | _ => .stuck
section
variable {X : Cx} {C : Cof} {Z : WX} {e : Expr} {es : List Expr} {ga : AF} {pos apos cpos : Pos} {x name : Str} {id : String} {r : V → List V → Hp → VK → Prop} {m : MutF}
theorem mutGo {i : Nat} {ta : TA} (hm : MutS X.K r m) (h : ∀ F B σ H ρ, ER X.K F B H σ ρ → AGo X C Z F B H σ (ta σ H) (ga ρ)) : ∀ F B σ H ρ, ER X.K F B H σ ρ → EGo X C Z F B H σ (tBM X.K "list" r (tVar i) ta σ H) (eMut i m ga ρ) := by
  intro F B σ H ρ E
  unfold eMut
  split
  · rename_i ds0 h0
    obtain ⟨a0, vs0, s0, hh0, _⟩ := E.mt i ds0 h0
    refine EGo.bindA (T := fun xs H2 Q => r (.ref a0) xs H2 Q) (h F B σ H ρ E) (fun Q q => ⟨_, s0, .inl ⟨rfl, _, .inl (.inl hh0)⟩, q⟩) fun args ws ρ' F' H' _ g1 E' ra => ?_
    cases h1 : vals ws with
    | none => trivial
    | some dargs =>
      split
      · rename_i args' ds he h2
        cases he
        cases h3 : m ds dargs with
        | none => trivial
        | some p =>
          obtain ⟨res, ds'⟩ := p
          dsimp only
          obtain ⟨a, vs, s1, hh, nF, nB, rl⟩ := E'.mt i ds h2
          rw [s0] at s1; cases s1
          refine fun Q hQ => hm F' H' a0 vs ds args dargs res ds' hh rl (vals_ok ra h1) h3 Q fun v vs' rv rl' => ?_
          obtain ⟨g2, E2⟩ := E'.write h2 s0 rl'
          exact hQ v F' _ g2 E2 (Rep.gd g2 rv)
      · trivial
  · trivial
theorem r_mut (i : Nat) (slot : Slot "list" name id) (hty : typeOf (.builtin id) = pure (.type "method_descriptor")) (hmt : MtR X id r) (hm : MutS X.K r m) (hn : X.N[i]? = some x) (hv : Vis X.env.scope x) (ha : PAr X C Z (e :: es) ga)
    (hd : (x == ("__debug__" : Str)) = false := by decide) (hcd : (x == ("__classdict__" : Str)) = false := by decide)
    (hbase : attributeBase (.Name x pos) name X.env (eval (.Name x pos) X.env) = eval (.Name x pos) X.env := by rfl)
    (hfew : ((backTo cpos (starEach (e :: es) X.env)).all (fun x => !x.1) && (backToKw cpos (keywordEach [] X.env)).all (fun x => x.1.isSome)
      && decide ((e :: es).length + ([] : List Keyword).length + (if ([] : List Keyword).isEmpty then 0 else 1) < 30)) = true := by rfl)
    (hline : (apos.endLine == cpos.line) = true := by rfl) (hs : starEach (e :: es) X.env = (false, eval e X.env) :: starEach es X.env := by rfl) (hplain : (backTo cpos (starEach es X.env)).any (·.1) = false := by rfl) :
    PEr X C Z (.Call (.Attribute (.Name x pos) name apos) (e :: es) [] cpos) (eMut i m ga) := by
  obtain ⟨t, ht, hs1⟩ := ha.ex
  exact ⟨_, pe_bm PySem.F.plainAttrs_list slot hty hmt (pe_var hn hv hd hcd) ht hbase hfew hline hs hplain, mutGo hm hs1⟩
theorem r_mut0 (i : Nat) (slot : Slot "list" name id) (hty : typeOf (.builtin id) = pure (.type "method_descriptor")) (hmt : MtR X id r) (hm : MutS X.K r m) (hn : X.N[i]? = some x) (hv : Vis X.env.scope x)
    (hd : (x == ("__debug__" : Str)) = false := by decide) (hcd : (x == ("__classdict__" : Str)) = false := by decide)
    (hbase : attributeBase (.Name x pos) name X.env (eval (.Name x pos) X.env) = eval (.Name x pos) X.env := by rfl) (hline : (apos.endLine == cpos.line) = true := by rfl) :
    PEr X C Z (.Call (.Attribute (.Name x pos) name apos) [] [] cpos) (eMut i m aNil) := by
  refine ⟨_, pe_bm0 PySem.F.plainAttrs_list slot hty hmt (pe_var hn hv hd hcd) hbase hline, fun F B σ H ρ E => ?_⟩
  have h := mutGo (X := X) (C := C) (Z := Z) (i := i) (ta := tNil) (ga := aNil) hm (fun F B σ H ρ E Q hQ => hQ [] F H Gd.refl E trivial) F B σ H ρ E
  exact h
end
def appendM : MutF
  | ds, [d] => if ds.length < sizeLine then some (.none, ds ++ [d]) else none
  | _, _ => none
def extendM : MutF
  | ds, [.list es] => if ds.length + es.length ≤ sizeLine then some (.none, ds ++ es) else none
  | _, _ => none
def popM : MutF
  | ds, [] => (ds[ds.length - 1]?).map fun d => (d, ds.dropLast)
  | _, _ => none
def popAtM : MutF
  | ds, [.int i] => if -(2 ^ 63) ≤ i ∧ i < 2 ^ 63 then (seqIndex? i ds.length).bind fun k => (ds[k]?).map fun d => (d, ds.eraseIdx k) else none
  | _, _ => none
def reverseM : MutF
  | ds, [] => some (.none, ds.reverse)
  | _, _ => none
def clearM : MutF
  | _, [] => some (.none, [])
  | _, _ => none
section
variable {K : PySem.W.Frag}
theorem RepA.one {F : Addr → Prop} {H : Hp} {vs : List V} {d : PyData} (r : RepA K F H vs [d]) : ∃ v, vs = [v] ∧ Rep K F H v d := by
  cases r with
  | cons r1 r2 => cases r2; exact ⟨_, rfl, r1⟩
theorem RepA.zero {F : Addr → Prop} {H : Hp} {vs : List V} (r : RepA K F H vs []) : vs = [] := by cases r; rfl
theorem RepA.dropLast {F : Addr → Prop} {H : Hp} {vs : List V} {ds : List PyData} (r : RepA K F H vs ds) : RepA K F H vs.dropLast ds.dropLast := by
  rw [List.dropLast_eq_take, List.dropLast_eq_take, r.len]
  exact r.take _
theorem m_append : MutS K rAppend appendM := by
  intro F H l vs ds args dargs res ds' hl rl ra e Q hQ
  unfold appendM at e
  split at e
  · split at e
    · rename_i d hz
      cases e
      obtain ⟨v, rfl, rv⟩ := ra.one
      exact ⟨l, vs, v, rfl, rfl, hl, by rw [rl.len]; exact hz, hQ _ _ .non (rl.app (.cons rv .nil))⟩
    · cases e
  · cases e
def rExtendR : V → List V → Hp → VK → Prop := fun x vs H Q => ∃ l b xs zs, x = .ref l ∧ vs = [.ref b] ∧ H l = some (.lst xs) ∧ Rd H b (.lst zs) ∧ xs.length + zs.length ≤ sizeLine ∧ Q .non (upd H l (.lst (xs ++ zs)))
theorem mt_extendR {X : Cx} : MtM X "list.extend" rExtendR := by
  intro pins s σ H x vs v us Q I rx rv h
  obtain ⟨l, b, xs, zs, rfl, rfl, hH, hB, hz, q⟩ := h
  cases rx
  obtain ⟨u, rfl, ru⟩ := rv.one
  cases ru
  obtain ⟨z, its, n, r, hl, e⟩ := I.lstM hH
  obtain ⟨z2, its2, n2, r2, hl2, e2⟩ := rd_ok I hB
  have hsz : its.toArray.size + its2.toArray.size ≤ sizeLine := by rw [List.size_toArray, List.size_toArray]; omega
  have hlong : ¬ (!its.toArray.isEmpty && Builtin.List.listTooLong (its.toArray.size + its2.toArray.size)) = true := by
    rw [notLongL hsz, Bool.and_false]
    exact Bool.false_ne_true
  refine call_meets F.slot_list_extend ⟨_, e, rfl⟩ F.entry_list_extend (F.args_list_extend_2 _ _)
    (AutoSeq1.list_extend_list_list_0 l its.toArray n b its2.toArray n2 hlong (by rw [List.size_toArray]; omega) (by omega)) ⟨e, e2, ?_⟩
  refine ⟨.non, _, I.lset (its' := its ++ its2) hH e (by simp) (r.append r2) ?_, rfl, q⟩
  rw [List.length_append]
  omega
theorem m_extend : MutS K rExtendR extendM := by
  intro F H l vs ds args dargs res ds' hl rl ra e Q hQ
  unfold extendM at e
  split at e
  · split at e
    · rename_i es hz
      cases e
      obtain ⟨v, rfl, rv⟩ := ra.one
      cases rv with
      | lst f r re => exact ⟨l, _, vs, _, rfl, rfl, hl, r, by rw [rl.len, re.len]; exact hz, hQ _ _ .non (rl.app re)⟩
    · cases e
  · cases e
theorem m_pop : MutS K rPop popM := by
  intro F H l vs ds args dargs res ds' hl rl ra e Q hQ
  unfold popM at e
  split at e
  · obtain ⟨d, h, e⟩ := Option.map_eq_some_iff.mp e
    cases e
    have := ra.zero
    subst this
    obtain ⟨v, hv, rv⟩ := rl.get h
    exact ⟨l, vs, v, rfl, rfl, hl, by rw [rl.len]; exact hv, hQ v _ rv rl.dropLast⟩
  · cases e
theorem m_popAt : MutS K rPopAt popAtM := by
  intro F H l vs ds args dargs res ds' hl rl ra e Q hQ
  unfold popAtM at e
  split at e
  · split at e
    · rename_i i hz
      obtain ⟨v, rfl, rv⟩ := ra.one
      cases rv
      cases hk : seqIndex? i ds.length with
      | none => rw [hk] at e; cases e
      | some k =>
        rw [hk] at e
        obtain ⟨d, h, e⟩ := Option.map_eq_some_iff.mp e
        cases e
        obtain ⟨u, hu, ru⟩ := rl.get h
        exact ⟨l, vs, i, k, u, rfl, rfl, hl, hz.1, hz.2, by rw [rl.len]; exact hk, hu, hQ u _ ru (rl.erase k)⟩
    · cases e
  · cases e
theorem m_reverse : MutS K rReverse reverseM := by
  intro F H l vs ds args dargs res ds' hl rl ra e Q hQ
  unfold reverseM at e
  split at e
  · cases e
    have := ra.zero
    subst this
    exact ⟨l, vs, rfl, rfl, hl, hQ _ _ .non rl.rev⟩
  · cases e
theorem m_clear : MutS K rClear clearM := by
  intro F H l vs ds args dargs res ds' hl rl ra e Q hQ
  unfold clearM at e
  split at e
  · cases e
    have := ra.zero
    subst this
    exact ⟨l, vs, rfl, rfl, hl, hQ _ _ .non .nil⟩
  · cases e
end
section
variable {X : Cx} {C : Cof} {Z : WX} {e : Expr} {es : List Expr} {ga : AF} {pos apos cpos : Pos} {x : Str}
theorem mtR_of {id : String} {r : V → List V → Hp → VK → Prop} (h : MtM X id r) : MtR X id r := h
end
end Ls
namespace Ls
open PySem PySem.Spec PyProof.Rows L2

section
variable {K : PySem.W.Frag} {F B : Addr → Prop} {H : Hp} {σ : L2.St} {ρ : Env}
theorem ER.setV {i : Nat} {v : V} {d : PyData} (E : ER K F B H σ ρ) (r : Rep K F H v d) : ER K F B H (σ.set i (some v)) (ρ.set i (some (.val d))) := by
  have lt : ∀ {x : Option Sl}, (ρ.set i x)[i]? ≠ none → i < σ.length := fun {x} h => by
    rw [E.len]
    rw [List.getElem?_set] at h
    simp only [if_true] at h
    split at h
    · assumption
    · exact absurd rfl h
  refine ⟨by rw [List.length_set, List.length_set]; exact E.len, E.dom, E.domB, ?_, ?_, ?_⟩
  · intro j d' h
    rcases getElem?_set_some h with ⟨rfl, q⟩ | ⟨ne, q⟩
    · cases q
      exact ⟨v, List.getElem?_set_self (lt (by rw [h]; exact fun z => nomatch z)), r⟩
    · obtain ⟨u, z1, z2⟩ := E.sl j d' q
      exact ⟨u, by rw [List.getElem?_set_ne (Ne.symm ne)]; exact z1, z2⟩
  · intro j es h
    rcases getElem?_set_some h with ⟨rfl, q⟩ | ⟨ne, q⟩
    · cases q
    · obtain ⟨b, ws, z1, z2⟩ := E.mt j es q
      exact ⟨b, ws, by rw [List.getElem?_set_ne (Ne.symm ne)]; exact z1, z2⟩
  · intro j k es fs b hj hk z1 z2
    rcases getElem?_set_some hj with ⟨rfl, q⟩ | ⟨n1, q⟩
    · cases q
    · rcases getElem?_set_some hk with ⟨rfl, q'⟩ | ⟨n2, q'⟩
      · cases q'
      · rw [List.getElem?_set_ne (Ne.symm n1)] at z1
        rw [List.getElem?_set_ne (Ne.symm n2)] at z2
        exact E.inj j k es fs b q q' z1 z2
theorem ER.setM {i : Nat} {v : V} {ds : List PyData} (E : ER K F B H σ ρ) (r : RW K F B H σ ρ v (.tmp ds)) : ER K F B H (σ.set i (some v)) (ρ.set i (some (.mut ds))) := by
  obtain ⟨a, vs, rfl, hh, nF, nB, nM, ra⟩ := r
  have lt : ∀ {x : Option Sl}, (ρ.set i x)[i]? ≠ none → i < σ.length := fun {x} h => by
    rw [E.len]
    rw [List.getElem?_set] at h
    simp only [if_true] at h
    split at h
    · assumption
    · exact absurd rfl h
  refine ⟨by rw [List.length_set, List.length_set]; exact E.len, E.dom, E.domB, ?_, ?_, ?_⟩
  · intro j d' h
    rcases getElem?_set_some h with ⟨rfl, q⟩ | ⟨ne, q⟩
    · cases q
    · obtain ⟨u, z1, z2⟩ := E.sl j d' q
      exact ⟨u, by rw [List.getElem?_set_ne (Ne.symm ne)]; exact z1, z2⟩
  · intro j es h
    rcases getElem?_set_some h with ⟨rfl, q⟩ | ⟨ne, q⟩
    · cases q
      exact ⟨a, vs, List.getElem?_set_self (lt (by rw [h]; exact fun z => nomatch z)), hh, nF, nB, ra⟩
    · obtain ⟨b, ws, z1, z2⟩ := E.mt j es q
      exact ⟨b, ws, by rw [List.getElem?_set_ne (Ne.symm ne)]; exact z1, z2⟩
  · intro j k es fs b hj hk z1 z2
    rcases getElem?_set_some hj with ⟨rfl, q⟩ | ⟨n1, q⟩ <;> rcases getElem?_set_some hk with ⟨rfl, q'⟩ | ⟨n2, q'⟩
    · rfl
    · rw [List.getElem?_set_self (lt (by rw [hj]; exact fun z => nomatch z))] at z1
      cases z1
      rw [List.getElem?_set_ne (Ne.symm n2)] at z2
      exact absurd z2 (nM k fs q')
    · rw [List.getElem?_set_self (lt (by rw [hk]; exact fun z => nomatch z))] at z2
      cases z2
      rw [List.getElem?_set_ne (Ne.symm n1)] at z1
      exact absurd z1 (nM j es q)
    · rw [List.getElem?_set_ne (Ne.symm n1)] at z1
      rw [List.getElem?_set_ne (Ne.symm n2)] at z2
      exact E.inj j k es fs b q q' z1 z2
theorem ER.unset {i : Nat} (E : ER K F B H σ ρ) : ER K F B H σ (ρ.set i none) := by
  refine ⟨by rw [List.length_set]; exact E.len, E.dom, E.domB, fun j d h => ?_, fun j ds h => ?_, fun j k es fs b hj hk => ?_⟩
  · rcases getElem?_set_some h with ⟨rfl, q⟩ | ⟨ne, q⟩
    · cases q
    · exact E.sl j d q
  · rcases getElem?_set_some h with ⟨rfl, q⟩ | ⟨ne, q⟩
    · cases q
    · exact E.mt j ds q
  · rcases getElem?_set_some hj with ⟨rfl, q⟩ | ⟨n1, q⟩
    · cases q
    · rcases getElem?_set_some hk with ⟨rfl, q'⟩ | ⟨n2, q'⟩
      · cases q'
      · exact E.inj j k es fs b q q'
end
abbrev GF := PyData → Env → Option Env
structure PGr (X : Cx) (vs : List Nat) (tg : Expr) (g : GF) : Prop where
  ex : ∃ t, PG X tg t ∧ ∀ F B σ H ρ v d ρ', ER X.K F B H σ ρ → Rep X.K F H v d → g d ρ = some ρ' → ∀ Q : L2.St → Hp → Prop, (∀ σ', ER X.K F B H σ' ρ' → wipe σ' vs = wipe σ vs → Q σ' H) → t v σ H Q
structure PGsr (X : Cx) (vs : List Nat) (tg : List Expr) (g : List PyData → Env → Option Env) : Prop where
  ex : ∃ t, PGs X tg t ∧ ∀ F B σ H ρ us ds ρ', ER X.K F B H σ ρ → RepA X.K F H us ds → g ds ρ = some ρ' → ∀ Q : L2.St → Hp → Prop, (∀ σ', ER X.K F B H σ' ρ' → wipe σ' vs = wipe σ vs → Q σ' H) → t us σ H Q
theorem wipe_set {σ : L2.St} {i : Nat} {x : Option V} : ∀ {vs : List Nat}, i ∈ vs → wipe (σ.set i x) vs = wipe σ vs
  | [], h => by cases h
  | v :: vs, h => by
    unfold wipe
    by_cases e : i ∈ vs
    · rw [wipe_set e]
    · have hv : i = v := by
        rcases List.mem_cons.mp h with h | h
        · exact h
        · exact absurd h e
      subst hv
      have comm : ∀ vs : List Nat, wipe (σ.set i x) vs = if i ∈ vs then wipe σ vs else (wipe σ vs).set i x := by
        intro vs
        induction vs with
        | nil => simp [wipe]
        | cons u us ih =>
          unfold wipe
          rw [ih]
          by_cases h1 : i ∈ us
          · rw [if_pos h1, if_pos (List.mem_cons_of_mem _ h1)]
          · rw [if_neg h1]
            by_cases h2 : i = u
            · subst h2
              rw [if_pos List.mem_cons_self, List.set_set]
            · rw [if_neg (by simp [h1, h2]), List.set_comm _ _ h2]
      rw [comm, if_neg e, List.set_set]
theorem wipe_get {σ σ' : L2.St} : ∀ {vs : List Nat} {j : Nat}, wipe σ' vs = wipe σ vs → σ'.length = σ.length → j ∉ vs → σ'[j]? = σ[j]? := by
  have get : ∀ (vs : List Nat) (σ : L2.St) (j : Nat), j ∉ vs → (wipe σ vs)[j]? = σ[j]? := by
    intro vs
    induction vs with
    | nil => intros; rfl
    | cons v vs ih =>
      intro σ j h
      unfold wipe
      rw [List.getElem?_set_ne (fun z => h (by simp [z])), ih σ j fun z => h (List.mem_cons_of_mem _ z)]
  intro vs j h hl hj
  rw [← get vs σ' j hj, h, get vs σ j hj]
def gN (i : Nat) : GF := fun d ρ => some (ρ.set i (some (.val d)))
def gsNil : List PyData → Env → Option Env := fun ds ρ => match ds with | [] => some ρ | _ => none
def gsCons (g : GF) (gs : List PyData → Env → Option Env) : List PyData → Env → Option Env := fun ds ρ => match ds with | d :: ds => (g d ρ).bind (gs ds) | [] => none
def gT (n : Nat) (gs : List PyData → Env → Option Env) : GF := fun d ρ => match d with | .tuple ds => if ds.length = n then gs ds ρ else none | .list ds => if ds.length = n then gs ds ρ else none | _ => none
section
variable {X : Cx} {vs : List Nat} {e : Expr} {es : List Expr} {pos : Pos} {x : Str} {g : GF} {gs : List PyData → Env → Option Env}
theorem rg_n {i : Nat} (hN : X.N.Nodup) (hi : X.N[i]? = some x) (hx : Loc X.env.scope x) (hv : i ∈ vs := by decide) (hf : X.fn x = true ∨ X.env.scope.names.lookup x = some .local := by first | exact .inl rfl | exact .inr rfl | assumption) : PGr X vs (.Name x pos) (gN i) :=
  ⟨_, pg_name hN hi hx hf, fun F B σ H ρ v d ρ' E r e Q hQ => by cases e; exact hQ _ (E.setV r) (wipe_set hv)⟩
theorem rgs_nil : PGsr X vs [] gsNil := ⟨_, pgs_nil, fun F B σ H ρ us ds ρ' E r e Q hQ => by
  cases r with
  | nil => cases e; exact ⟨rfl, hQ σ E rfl⟩
  | cons r t => cases e⟩
theorem rgs_cons (h1 : PGr X vs e g) (h2 : PGsr X vs es gs) (hs : (assignEach (e :: es) X.env).map (·.2) = assign e X.env :: (assignEach es X.env).map (·.2) := by rfl) : PGsr X vs (e :: es) (gsCons g gs) := by
  have ha := hs
  obtain ⟨t, ht, hs⟩ := h1.ex
  obtain ⟨t2, ht2, hs2⟩ := h2.ex
  refine ⟨_, pgs_cons ht ht2 ha, fun F B σ H ρ us ds ρ' E r e Q hQ => ?_⟩
  cases r with
  | nil => cases e
  | @cons v us d ds r t =>
    have e : (g d ρ).bind (gs ds) = some ρ' := e
    cases h : g d ρ with
    | none => rw [h] at e; cases e
    | some ρ1 =>
      rw [h] at e
      exact ⟨v, us, rfl, hs F B σ H ρ v d ρ1 E r h _ fun σ1 E1 w1 => hs2 F B σ1 H ρ1 us ds ρ' E1 t e _ fun σ2 E2 w2 => hQ σ2 E2 (w2.trans w1)⟩
theorem pg_or {t1 t2 : TG} (h1 : PG X e t1) (h2 : PG X e t2) : PG X e (fun v σ H Q => t1 v σ H Q ∨ t2 v σ H Q) :=
  ⟨fun pins s σ H v u Q I r hw => hw.elim (h1.run pins s σ H v u Q I r) (h2.run pins s σ H v u Q I r)⟩
theorem rg_t {k : Nat} {n : Nat} (hc : X.calm = true) (h : PGsr X vs es gs) (hn : (assignEach es X.env).length = n := by rfl) (hst : (assignEach es X.env).findIdx? (·.1) = none := by rfl) : PGr X vs (.Tuple es k pos) (gT n gs) := by
  obtain ⟨t, ht, hs⟩ := h.ex
  refine ⟨_, pg_or (pg_tup hc ht hn hst) (pg_unl hc ht hn hst), fun F B σ H ρ v d ρ' E r e Q hQ => ?_⟩
  unfold gT at e
  split at e
  · split at e
    · rename_i ds hl
      cases r with
      | tup f hq ra => exact .inl ⟨_, _, rfl, hq, by rw [ra.len]; exact hl, hs F B σ H ρ _ ds ρ' E ra e Q hQ⟩
    · cases e
  · split at e
    · rename_i ds hl
      cases r with
      | lst f hq ra => exact .inr ⟨_, _, rfl, .inl hq, by rw [ra.len]; exact hl, hs F B σ H ρ _ ds ρ' E ra e Q hQ⟩
    · cases e
  · cases e
end

def YL (K : PySem.W.Frag) (F : Addr → Prop) (H : Hp) (x : V) (H2 : Hp) (d : PyData) : Prop :=
  (H2 = H ∧ Rep K F H x d) ∨ ∃ T vs es, H T = none ∧ x = .ref T ∧ H2 = upd H T (.tup vs) ∧ d = .tuple es ∧ RepA K F H vs es
def ItF (K : PySem.W.Frag) (J : It) (F : Addr → Prop) (H : Hp) (ds : List PyData) : Prop := ∀ F' H', (∀ b, F b → F' b) → Stab F H H' →
  (∀ i d, ds[i]? = some d → J.go i H' ∧ ∀ x H2, J.yld i H' x H2 → YL K F' H' x H2 d) ∧ J.stop ds.length H'
abbrev IF := Env → Res (List PyData)
structure PIr (X : Cx) (C : Cof) (Z : WX) (tg e : Expr) (f : IF) : Prop where
  ex : ∃ wi, PI X tg e wi ∧ ∀ F B σ H ρ, ER X.K F B H σ ρ → match f ρ with
    | .stuck => True
    | .exc c ρ' => XGo X C Z F B H σ c ρ' → ∀ R, wi σ H R
    | .ok ds ρ' => ∀ R : It → Hp → Prop, (∀ J F' H', Gd F B H F' H' → ER X.K F' B H' σ ρ' → ItF X.K J F' H' ds → R J H') → wi σ H R
def seqOf : PyData → Option (List PyData)
  | .list ds => some ds
  | .tuple ds => some ds
  | .str z => some (z.cps.toList.map fun c => .str ⟨#[c]⟩)
  | _ => none
def iSeq (f : EF) : IF := fun ρ => (eFz f ρ).bind fun w ρ1 => match w with | .val d => (match seqOf d with | some ds => .ok ds ρ1 | none => .stuck) | _ => .stuck
section
variable {X : Cx} {C : Cof} {Z : WX} {tg e e1 e2 e3 : Expr} {f f1 f2 f3 : EF} {pos p : Pos}
theorem PI.or {w1 w2 : TI} (h1 : PI X tg e w1) (h2 : PI X tg e w2) : PI X tg e (fun σ H R => w1 σ H R ∨ w2 σ H R) := ⟨fun pins s σ H R I h => by
  rcases h with h | h
  · exact h1.run pins s σ H R I h
  · exact h2.run pins s σ H R I h⟩
theorem itf_list {K : PySem.W.Frag} {F : Addr → Prop} {H : Hp} {a : Addr} {vs : List V} {ds : List PyData} (f : F a) (hr : Rd H a (.lst vs)) (ra : RepA K F H vs ds) (uq : ∀ H' xs, SqL K H' a xs → Rd H' a (.lst vs) → xs = vs) : ItF K (Itl K a) F H ds := by
  intro F' H' hF st
  have hr' := rd_stab st f hr
  refine ⟨fun i d hd => ?_, vs, .inl hr', by rw [ra.len]; exact Nat.le_refl _⟩
  obtain ⟨v, hv, rv⟩ := ra.get hd
  refine ⟨⟨vs, v, .inl hr', hv⟩, fun x H2 y => ?_⟩
  obtain ⟨e, y⟩ := y
  have e1 := y vs (.inl hr')
  rw [hv] at e1; cases e1
  exact .inl ⟨e, Rep.mono hF st _ _ rv⟩
theorem itf_tup {K : PySem.W.Frag} {F : Addr → Prop} {H : Hp} {a : Addr} {vs : List V} {ds : List PyData} (f : F a ∨ ∀ H', SqT K H' a vs) (hr : SqT K H a vs) (ra : RepA K F H vs ds) : ItF K (Itt K a) F H ds := by
  intro F' H' hF st
  have hr' := sqt_stab st f hr
  refine ⟨fun i d hd => ?_, vs, hr', by rw [ra.len]; exact Nat.le_refl _⟩
  obtain ⟨v, hv, rv⟩ := ra.get hd
  refine ⟨⟨vs, v, hr', hv⟩, fun x H2 y => ?_⟩
  obtain ⟨e, y⟩ := y
  have e1 := y vs hr'
  rw [hv] at e1; cases e1
  exact .inl ⟨e, Rep.mono hF st _ _ rv⟩
theorem itf_str {K : PySem.W.Frag} {F : Addr → Prop} {H : Hp} {z : Str} : ItF K (Its z) F H (z.cps.toList.map fun c => .str ⟨#[c]⟩) := by
  intro F' H' hF st
  have sz : z.cps.size = z.cps.toList.length := by simp
  refine ⟨fun i d hd => ?_, by show z.cps.size ≤ _; rw [List.length_map, ← sz]; exact Nat.le_refl _⟩
  rw [List.getElem?_map] at hd
  obtain ⟨c, hc, rfl⟩ := Option.map_eq_some_iff.mp hd
  have hlt : i < z.cps.size := by rw [sz]; exact (List.getElem?_eq_some_iff.mp hc).1
  refine ⟨hlt, fun x H2 y => ?_⟩
  obtain ⟨e, c', hc', rfl⟩ := y
  have : c' = c := by
    rw [← Array.getElem?_toList] at hc'
    rw [hc] at hc'; cases hc'; rfl
  subst this
  exact .inl ⟨e, .str _⟩
theorem itf_range {K : PySem.W.Frag} {F : Addr → Prop} {H : Hp} {lo : Int} {n : Nat} : ItF K (Itr lo n) F H ((List.range n).map fun (i : Nat) => .int (lo + (i : Int))) := by
  intro F' H' hF st
  refine ⟨fun i d hd => ?_, by show n ≤ _; simp⟩
  rw [List.getElem?_map] at hd
  obtain ⟨c, hc, rfl⟩ := Option.map_eq_some_iff.mp hd
  obtain ⟨h1, h2⟩ := List.getElem?_eq_some_iff.mp hc
  rw [List.getElem_range] at h2
  subst h2
  have hlt : i < n := by simpa using h1
  refine ⟨hlt, fun x H2 y => ?_⟩
  obtain ⟨e, rfl⟩ := y
  exact .inl ⟨e, .int _⟩
theorem pir_of {wi : TI} (hi : PI X tg e wi) {f : IF} (h : ∀ F B σ H ρ, ER X.K F B H σ ρ → match f ρ with
    | .stuck => True
    | .exc c ρ' => XGo X C Z F B H σ c ρ' → ∀ R, wi σ H R
    | .ok ds ρ' => ∀ R : It → Hp → Prop, (∀ J F' H', Gd F B H F' H' → ER X.K F' B H' σ ρ' → ItF X.K J F' H' ds → R J H') → wi σ H R) : PIr X C Z tg e f := ⟨wi, hi, h⟩
theorem ri_seq (ha : PEr X C Z e f) : PIr X C Z tg e (iSeq f) := by
  obtain ⟨t, ht, hs⟩ := ha.ex
  refine pir_of (PI.or (pi_list ht) (PI.or (pi_tup ht) (pi_str ht))) fun F B σ H ρ E => ?_
  have h1 := fzGo hs F B σ H ρ E
  unfold iSeq
  cases h2 : eFz f ρ with
  | stuck => trivial
  | exc c ρ' => rw [h2] at h1; exact fun x R => .inl (h1 x _)
  | ok w ρ' =>
    rw [h2] at h1
    cases w with
    | tmp ds => trivial
    | loc i => trivial
    | val d =>
      dsimp only [Res.bind]
      cases h3 : seqOf d with
      | none => trivial
      | some ds =>
        dsimp only
        refine fun R hR => ?_
        unfold seqOf at h3
        split at h3
        · cases h3
          refine .inl (h1 _ fun v F' H' g E' r => ?_)
          have r : Rep X.K F' H' v (.list ds) := r
          cases r with
          | lst ff hr ra =>
            refine ⟨_, rfl, ⟨_, .inl hr⟩, hR _ F' H' g E' ?_⟩
            intro F2 H2 hF st
            have hr' := rd_stab st ff hr
            refine ⟨fun i d hd => ?_, _, .inl hr', by rw [ra.len]; exact Nat.le_refl _⟩
            obtain ⟨v, hv, rv⟩ := ra.get hd
            refine ⟨⟨_, v, .inl hr', hv⟩, fun x H3 y => ?_⟩
            obtain ⟨e, y⟩ := y
            have e1 := y _ (.inl hr')
            rw [hv] at e1; cases e1
            exact .inl ⟨e, Rep.mono hF st _ _ rv⟩
        · cases h3
          refine .inr (.inl (h1 _ fun v F' H' g E' r => ?_))
          have r : Rep X.K F' H' v (.tuple ds) := r
          cases r with
          | tup ff hr ra => exact ⟨_, rfl, ⟨_, hr⟩, hR _ F' H' g E' (itf_tup ff hr ra)⟩
        · cases h3
          refine .inr (.inr (h1 _ fun v F' H' g E' r => ?_))
          rename_i z
          have r : Rep X.K F' H' v (.str z) := r
          cases r
          exact ⟨_, rfl, hR _ F' H' g E' itf_str⟩
        · cases h3
def rgOk (i : Int) : Bool := decide (-(2 ^ 62) ≤ i) && decide (i < 2 ^ 62)
def rangeL (lo hi : Int) : List PyData := (List.range (hi - lo).toNat).map fun (i : Nat) => .int (lo + (i : Int))
def iRange1 (f : EF) : IF := fun ρ => (f ρ).bind fun w ρ1 => match w with | .val (.int j) => if rgOk j then .ok (rangeL 0 j) ρ1 else .stuck | _ => .stuck
def iRange2 (f g : EF) : IF := fun ρ => (eFz f ρ).bind fun w ρ1 => (g ρ1).bind fun w2 ρ2 => match w, w2 with | .val (.int i), .val (.int j) => if rgOk i && rgOk j then .ok (rangeL i j) ρ2 else .stuck | _, _ => .stuck
theorem rgOk_ok {i : Int} (h : rgOk i = true) : -(2 ^ 62) ≤ i ∧ i < 2 ^ 62 := by
  unfold rgOk at h
  simpa only [Bool.and_eq_true, decide_eq_true_eq] using h
theorem ri_range1 (hm : X.mg "range" = none) (ha : PEr X C Z e1 f1) (hg : Gl X "range" := by rfl) (hs : starEach [e1] X.env = [(false, eval e1 X.env)] := by rfl) (hs' : starEach [e1] X.env = (false, eval e1 X.env) :: starEach [] X.env := by rfl) :
    PIr X C Z tg (.Call (.Name "range" p) [e1] [] pos) (iRange1 f1) := by
  obtain ⟨t, ht, h⟩ := ha.ex
  refine pir_of (pi_range1 hg hm (pa_cons ht pa_nil hs') hs) fun F B σ H ρ E => ?_
  have h1 := h F B σ H ρ E
  unfold iRange1
  cases h2 : f1 ρ with
  | stuck => trivial
  | exc c ρ' => rw [h2] at h1; exact fun x R => h1 x _
  | ok w ρ' =>
    rw [h2] at h1
    dsimp only [Res.bind]
    split
    · trivial
    · rename_i h3
      split at h3
      · split at h3 <;> cases h3
      · cases h3
    · rename_i ds ρ2 h3
      split at h3
      · rename_i j
        split at h3
        · rename_i hj
          cases h3
          refine fun R hR => h1 _ fun v F' H' g E' r => ?_
          have r : Rep X.K F' H' v (.int j) := r
          cases r
          refine ⟨j, rfl, (rgOk_ok hj).1, (rgOk_ok hj).2, hR _ F' H' g E' ?_⟩
          have := itf_range (K := X.K) (F := F') (H := H') (lo := 0) (n := j.toNat)
          unfold rangeL
          rw [Int.sub_zero]
          exact this
        · cases h3
      · cases h3
theorem ri_range2 (hm : X.mg "range" = none) (ha : PEr X C Z e1 f1) (hb : PEr X C Z e2 f2) (hg : Gl X "range" := by rfl) (hs : starEach [e1, e2] X.env = [(false, eval e1 X.env), (false, eval e2 X.env)] := by rfl) (hs2 : starEach [e2] X.env = [(false, eval e2 X.env)] := by rfl)
    (hs' : starEach [e1, e2] X.env = (false, eval e1 X.env) :: starEach [e2] X.env := by rfl) (hs2' : starEach [e2] X.env = (false, eval e2 X.env) :: starEach [] X.env := by rfl) (hp : (backTo pos (starEach [e2] X.env)).any (·.1) = false := by rfl) :
    PIr X C Z tg (.Call (.Name "range" p) [e1, e2] [] pos) (iRange2 f1 f2) := by
  obtain ⟨t, ht, h⟩ := ha.ex
  obtain ⟨t2, ht2, hh⟩ := hb.ex
  refine pir_of (pi_range2 hg hm (pa_cons ht (pa_cons ht2 pa_nil hs2') hs') hs hs2) fun F B σ H ρ E => ?_
  have h1 := fzGo h F B σ H ρ E
  unfold iRange2
  cases h2 : eFz f1 ρ with
  | stuck => trivial
  | exc c ρ' => rw [h2] at h1; exact fun x R => h1 x _
  | ok w ρ1 =>
    rw [h2] at h1
    dsimp only [Res.bind]
    cases h3 : f2 ρ1 with
    | stuck => trivial
    | exc c ρ2 =>
      refine fun x R => h1 _ fun v F' H' g E' r => ?_
      have h4 := hh F' B σ H' ρ1 E'
      rw [h3] at h4
      exact h4 (x.after g) _
    | ok w2 ρ2 =>
      dsimp only
      split
      · trivial
      · rename_i h4
        split at h4
        · split at h4 <;> cases h4
        · cases h4
      · rename_i ds ρ3 h4
        split at h4
        · rename_i i j
          split at h4
          · rename_i hij
            cases h4
            rw [Bool.and_eq_true] at hij
            refine fun R hR => h1 _ fun v F' H' g E' r => ?_
            have h5 := hh F' B σ H' ρ1 E'
            rw [h3] at h5
            have r : Rep X.K F' H' v (.int i) := r
            cases r
            refine h5 _ fun v2 F2 H2 g2 E2 r2 => ?_
            have r2 : Rep X.K F2 H2 v2 (.int j) := r2
            cases r2
            exact ⟨i, j, rfl, ⟨(rgOk_ok hij.1).1, (rgOk_ok hij.1).2, (rgOk_ok hij.2).1, (rgOk_ok hij.2).2⟩, hR _ F2 H2 (g.trans g2) E2 itf_range⟩
          · cases h4
        · cases h4
def iRev (f : EF) : IF := fun ρ => (eFz f ρ).bind fun w ρ1 => match w with | .val (.list ds) => .ok ds.reverse ρ1 | _ => .stuck
theorem ri_rev (hm : X.mg "reversed" = none) (ha : PEr X C Z e1 f1) (hg : Gl X "reversed" := by rfl) (hs : starEach [e1] X.env = [(false, eval e1 X.env)] := by rfl) (hs' : starEach [e1] X.env = (false, eval e1 X.env) :: starEach [] X.env := by rfl) :
    PIr X C Z tg (.Call (.Name "reversed" p) [e1] [] pos) (iRev f1) := by
  obtain ⟨t, ht, h⟩ := ha.ex
  refine pir_of (pi_reversed hg hm (pa_cons ht pa_nil hs') hs) fun F B σ H ρ E => ?_
  have h1 := fzGo h F B σ H ρ E
  unfold iRev
  cases h2 : eFz f1 ρ with
  | stuck => trivial
  | exc c ρ' => rw [h2] at h1; exact fun x R => h1 x _
  | ok w ρ' =>
    rw [h2] at h1
    dsimp only [Res.bind]
    split
    · trivial
    · rename_i h3
      split at h3 <;> cases h3
    · rename_i ds ρ2 h3
      split at h3
      · rename_i es
        cases h3
        refine fun R hR => h1 _ fun v F' H' g E' r => ?_
        have r : Rep X.K F' H' v (.list es) := r
        cases r with
        | @lst a vs _ ff hr ra =>
          refine ⟨a, vs, rfl, .inl hr, hR _ F' H' g E' ?_⟩
          intro F2 H2 hF st
          have hr' := rd_stab st ff hr
          have hl := ra.len
          refine ⟨fun i d hd => ?_, by show vs.length ≤ _; rw [List.length_reverse, hl]; exact Nat.le_refl _⟩
          have hlt : i < es.length := by
            have := (List.getElem?_eq_some_iff.mp hd).1
            simpa using this
          rw [List.getElem?_reverse hlt] at hd
          obtain ⟨v, hv, rv⟩ := ra.get hd
          rw [← hl] at hv
          have hv' : vs[vs.length - 1 - i]? = some v := hv
          refine ⟨⟨by rw [hl]; exact hlt, vs, v, .inl hr', hv'⟩, fun x H3 y => ?_⟩
          obtain ⟨e, y⟩ := y
          have e1 := y _ (.inl hr')
          rw [hv'] at e1; cases e1
          exact .inl ⟨e, Rep.mono hF st _ _ rv⟩
      · cases h3
def zipL : List PyData → List PyData → List PyData
  | d :: ds, e :: es => .tuple [d, e] :: zipL ds es
  | _, _ => []
def iZip (f g : EF) : IF := fun ρ => (eFz f ρ).bind fun w ρ1 => (eFz g ρ1).bind fun w2 ρ2 => match w, w2 with | .val (.list ds), .val (.list es) => .ok (zipL ds es) ρ2 | _, _ => .stuck
theorem zipL_get : ∀ {ds es : List PyData} {i : Nat} {d : PyData}, (zipL ds es)[i]? = some d → ∃ x y, ds[i]? = some x ∧ es[i]? = some y ∧ d = .tuple [x, y]
  | [], _, _, _, h => by simp [zipL] at h
  | _ :: _, [], _, _, h => by simp [zipL] at h
  | d :: ds, e :: es, 0, _, h => by simp [zipL] at h; exact ⟨d, e, rfl, rfl, h.symm⟩
  | d :: ds, e :: es, i + 1, d', h => by
    have h : (zipL ds es)[i]? = some d' := by simpa [zipL] using h
    obtain ⟨x, y, h1, h2, h3⟩ := zipL_get h
    exact ⟨x, y, by simpa using h1, by simpa using h2, h3⟩
theorem zipL_len : ∀ {ds es : List PyData}, (zipL ds es).length = min ds.length es.length
  | [], _ => by simp [zipL]
  | _ :: _, [] => by simp [zipL]
  | d :: ds, e :: es => by
    show (zipL ds es).length + 1 = _
    rw [zipL_len]
    simp only [List.length_cons]
    omega
theorem ri_zip {elts : List Expr} {kk : Nat} {tpos : Pos} (hm : X.mg "zip" = none) (ha : PEr X C Z e1 f1) (hb : PEr X C Z e2 f2) (hg : Gl X "zip" := by rfl) (hs : starEach [e1, e2] X.env = (false, eval e1 X.env) :: starEach [e2] X.env := by rfl)
    (hs2 : starEach [e2] X.env = (false, eval e2 X.env) :: starEach [] X.env := by rfl) (hpl : (backTo pos (starEach [e2] X.env)).any (·.1) = false := by rfl) :
    PIr X C Z (.Tuple elts kk tpos) (.Call (.Name "zip" p) [e1, e2] [] pos) (iZip f1 f2) := by
  obtain ⟨t, ht, h⟩ := ha.ex
  obtain ⟨t2, ht2, hh⟩ := hb.ex
  refine pir_of (pi_zip hg hm (pa_cons ht (pa_cons ht2 pa_nil hs2) hs) hs hpl) fun F B σ H ρ E => ?_
  have h1 := fzGo h F B σ H ρ E
  unfold iZip
  cases h2 : eFz f1 ρ with
  | stuck => trivial
  | exc c ρ' => rw [h2] at h1; exact fun x R => h1 x _
  | ok w ρ1 =>
    rw [h2] at h1
    dsimp only [Res.bind]
    cases h3 : eFz f2 ρ1 with
    | stuck => trivial
    | exc c ρ2 =>
      refine fun x R => h1 _ fun v F' H' g E' r => ?_
      have h4 := fzGo hh F' B σ H' ρ1 E'
      rw [h3] at h4
      exact h4 (x.after g) _
    | ok w2 ρ2 =>
      dsimp only
      split
      · trivial
      · rename_i h4
        split at h4 <;> cases h4
      · rename_i ds ρ3 h4
        split at h4
        · rename_i d1 d2
          cases h4
          refine fun R hR => h1 _ fun v F' H' g E' r => ?_
          have h5 := fzGo hh F' B σ H' ρ1 E'
          rw [h3] at h5
          have r : Rep X.K F' H' v (.list d1) := r
          refine h5 _ fun v2 F2 H2 g2 E2 r2 => ?_
          have r := Rep.gd g2 r
          have r2 : Rep X.K F2 H2 v2 (.list d2) := r2
          cases r with
          | @lst a vs _ ff hr ra =>
            cases r2 with
            | @lst b ws _ ff2 hr2 rb =>
              refine ⟨a, b, vs, ws, rfl, .inl hr, .inl hr2, hR _ F2 H2 (g.trans g2) E2 ?_⟩
              intro F3 H3 hF st
              have q1 := rd_stab st ff hr
              have q2 := rd_stab st ff2 hr2
              refine ⟨fun i d hd => ?_, vs, ws, .inl q1, .inl q2, ?_⟩
              · obtain ⟨x, y, hx, hy, rfl⟩ := zipL_get hd
                obtain ⟨vx, hvx, rx⟩ := ra.get hx
                obtain ⟨vy, hvy, ry⟩ := rb.get hy
                refine ⟨⟨vs, ws, vx, vy, .inl q1, .inl q2, hvx, hvy⟩, fun z H4 yy => ?_⟩
                obtain ⟨T, x', y', rfl, hT, rfl, y1, y2⟩ := yy
                have e1 := y1 _ (.inl q1)
                have e2 := y2 _ (.inl q2)
                rw [hvx] at e1; cases e1
                rw [hvy] at e2; cases e2
                exact .inr ⟨T, _, _, hT, rfl, rfl, rfl, .cons (Rep.mono hF st _ _ rx) (.cons (Rep.mono hF st _ _ ry) .nil)⟩
              · rw [zipL_len, ra.len, rb.len]
                omega
        · cases h4
end

def wipeE (ρ : Env) : List Nat → Env
  | [] => ρ
  | v :: vs => (wipeE ρ vs).set v none
def noMut (ρ : Env) (vs : List Nat) : Bool := vs.all fun v => match ρ[v]? with | some (some (.mut _)) => false | _ => true
def backE (ρ ρ' : Env) : List Nat → Env
  | [] => ρ'
  | v :: vs => (backE ρ ρ' vs).set v (match ρ[v]? with | some (some (.val d)) => some (.val d) | _ => none)
section
variable {K : PySem.W.Frag} {F B F1 : Addr → Prop} {H H1 : Hp} {σ σ' : L2.St} {ρ ρ' : Env}
theorem ER.wipe (E : ER K F B H σ ρ) : ∀ vs : List Nat, ER K F B H (L2.wipe σ vs) (wipeE ρ vs)
  | [] => E
  | v :: vs => by
    have E1 := ER.wipe E vs
    unfold L2.wipe wipeE
    have lt : v < (L2.wipe σ vs).length ∨ ¬ v < (L2.wipe σ vs).length := Nat.lt_or_ge _ _ |>.imp id Nat.not_lt_of_ge
    refine ⟨by rw [List.length_set, List.length_set]; exact E1.len, E1.dom, E1.domB, fun j d h => ?_, fun j ds h => ?_, fun j k es fs b hj hk z1 z2 => ?_⟩
    · rcases getElem?_set_some h with ⟨rfl, q⟩ | ⟨ne, q⟩
      · cases q
      · obtain ⟨u, h1, h2⟩ := E1.sl j d q
        exact ⟨u, by rw [List.getElem?_set_ne (Ne.symm ne)]; exact h1, h2⟩
    · rcases getElem?_set_some h with ⟨rfl, q⟩ | ⟨ne, q⟩
      · cases q
      · obtain ⟨a, us, h1, h2⟩ := E1.mt j ds q
        exact ⟨a, us, by rw [List.getElem?_set_ne (Ne.symm ne)]; exact h1, h2⟩
    · rcases getElem?_set_some hj with ⟨rfl, q⟩ | ⟨n1, q⟩
      · cases q
      · rcases getElem?_set_some hk with ⟨rfl, q'⟩ | ⟨n2, q'⟩
        · cases q'
        · rw [List.getElem?_set_ne (Ne.symm n1)] at z1
          rw [List.getElem?_set_ne (Ne.symm n2)] at z2
          exact E1.inj j k es fs b q q' z1 z2
theorem ER.back (E0 : ER K F B H σ ρ) (g : Gd F B H F1 H1) (E1 : ER K F1 B H1 σ' ρ') (vs : List Nat) (hw : L2.wipe σ' vs = L2.wipe σ vs) : ER K F1 B H1 σ (backE ρ ρ' vs) := by
  have hl : σ'.length = σ.length := by
    have := congrArg List.length hw
    rwa [wipe_length, wipe_length] at this
  -- a slot of backE: an own one is as it was (a value), another one as behind
  have look : ∀ (us : List Nat) (j : Nat) (s : Sl), (backE ρ ρ' us)[j]? = some (some s) → (j ∈ us ∧ ∃ d, s = .val d ∧ ρ[j]? = some (some (.val d))) ∨ (j ∉ us ∧ ρ'[j]? = some (some s)) := by
    intro us
    induction us with
    | nil => intro j s h; exact .inr ⟨by simp, h⟩
    | cons u us ih =>
      intro j s h
      unfold backE at h
      rcases getElem?_set_some h with ⟨rfl, q⟩ | ⟨ne, q⟩
      · refine .inl ⟨List.mem_cons_self, ?_⟩
        split at q
        · rename_i d hd
          cases q; exact ⟨d, rfl, hd⟩
        · cases q
      · rcases ih j s q with ⟨h1, h2⟩ | ⟨h1, h2⟩
        · exact .inl ⟨List.mem_cons_of_mem _ h1, h2⟩
        · exact .inr ⟨by simp [ne, h1], h2⟩
  have hlen : ∀ us : List Nat, (backE ρ ρ' us).length = ρ'.length := by
    intro us
    induction us with
    | nil => rfl
    | cons u us ih => unfold backE; rw [List.length_set, ih]
  refine ⟨by rw [hlen, ← E1.len, hl], E1.dom, E1.domB, fun j d h => ?_, fun j ds h => ?_, fun j k es fs b hj hk z1 z2 => ?_⟩
  · rcases look vs j _ h with ⟨h1, d', e, h2⟩ | ⟨h1, h2⟩
    · cases e
      obtain ⟨u, q1, q2⟩ := E0.sl j d h2
      exact ⟨u, q1, Rep.gd g q2⟩
    · obtain ⟨u, q1, q2⟩ := E1.sl j d h2
      exact ⟨u, by rw [← wipe_get hw hl h1]; exact q1, q2⟩
  · rcases look vs j _ h with ⟨h1, d', e, h2⟩ | ⟨h1, h2⟩
    · cases e
    · obtain ⟨a, us, q1, q2⟩ := E1.mt j ds h2
      exact ⟨a, us, by rw [← wipe_get hw hl h1]; exact q1, q2⟩
  · rcases look vs j _ hj with ⟨h1, d', e, h2⟩ | ⟨h1, h2⟩
    · cases e
    · rcases look vs k _ hk with ⟨k1, d', e, k2⟩ | ⟨k1, k2⟩
      · cases e
      · rw [← wipe_get hw hl h1] at z1
        rw [← wipe_get hw hl k1] at z2
        exact E1.inj j k es fs b h2 k2 z1 z2
end
def lcL (vs : List Nat) (g : GF) (ft : TF) (fe : EF) : List PyData → Env → List PyData → Res (List PyData)
  | [], ρ, acc => .ok acc ρ
  | d :: ds, ρ, acc => match g d (wipeE ρ vs) with
    | none => .stuck
    | some ρ1 => match ft ρ1 with
      | .ok false ρ2 => lcL vs g ft fe ds (backE ρ ρ2 vs) acc
      | .ok true ρ2 => match eFz fe ρ2 with
        | .ok (.val e) ρ3 => if acc.length < sizeLine then lcL vs g ft fe ds (backE ρ ρ3 vs) (acc ++ [e]) else .stuck
        | _ => .stuck
      | _ => .stuck
def eLc (vs : List Nat) (fi : IF) (g : GF) (ft : TF) (fe : EF) : EF := fun ρ => (fi ρ).bind fun ds ρ1 => match lcL vs g ft fe ds ρ1 [] with | .ok acc ρ2 => .ok (.tmp acc) ρ2 | _ => .stuck
def tYesT : TF := fun ρ => .ok true ρ
abbrev Z0 : WX := fun _ _ _ _ => False
structure PTsr (X : Cx) (C : Cof) (Z : WX) (es : List Expr) (f : TF) : Prop where
  ex : ∃ t, PTs X es t ∧ ∀ F B σ H ρ, ER X.K F B H σ ρ → TGo X C Z F B H σ (t σ H) (f ρ)
theorem rts_nil {X : Cx} {C : Cof} {Z : WX} : PTsr X C Z [] tYesT := ⟨_, pts_nil, fun F B σ H ρ E Q hQ => hQ F H Gd.refl E⟩
theorem rts_one {X : Cx} {C : Cof} {Z : WX} {e : Expr} {f : TF} (h : PTr X C Z e f) : PTsr X C Z [e] f := by
  obtain ⟨t, ht, hs⟩ := h.ex
  exact ⟨_, pts_one ht, hs⟩
section
variable {X : Cx} {C : Cof} {Z : WX} {elt tg iter : Expr} {ifs : List Expr} {scope : Scope} {own : List (Str × Nat)} {pos : Pos} {fi : IF} {g : GF} {ft : TF} {fe : EF}
structure BlkR (X : Cx) (C : Cof) (scope : Scope) (tg elt : Expr) (ifs : List Expr) (vs : List Nat) (g : GF) (ft : TF) (fe : EF) : Prop where
  ex : ∃ (tg' : TG) (tt : TT) (te : TE),
    (∀ (s : Shared) (H : Hp) (C : Addr) (cl : List (Str × Addr)) (fp : List Addr), PG (X.blk s H scope (compEnvC scope cl C X.env) fp) tg tg') ∧
    (∀ (s : Shared) (H : Hp) (C : Addr) (cl : List (Str × Addr)) (fp : List Addr), PTs (X.blk s H scope (compEnvC scope cl C X.env) fp) ifs tt) ∧
    (∀ (s : Shared) (H : Hp) (C : Addr) (cl : List (Str × Addr)) (fp : List Addr), PE (X.blk s H scope (compEnvC scope cl C X.env) fp) elt te) ∧
    (∀ F B σ H ρ v d ρ', ER X.K F B H σ ρ → Rep X.K F H v d → g d ρ = some ρ' → ∀ Q : L2.St → Hp → Prop, (∀ σ', ER X.K F B H σ' ρ' → wipe σ' vs = wipe σ vs → Q σ' H) → tg' v σ H Q) ∧
    (∀ F B σ H ρ, ER X.K F B H σ ρ → TGo X C Z0 F B H σ (tt σ H) (ft ρ)) ∧
    (∀ F B σ H ρ, ER X.K F B H σ ρ → EGo X C Z0 F B H σ (te σ H) (fe ρ))
theorem wipe_wipe {σ : L2.St} {vs : List Nat} : wipe (wipe σ vs) vs = wipe σ vs := by
  have go : ∀ (us : List Nat) (σ : L2.St), (∀ u ∈ us, u ∈ vs) → wipe (wipe σ us) vs = wipe σ vs := by
    intro us
    induction us with
    | nil => intro σ _; rfl
    | cons u us ih =>
      intro σ h
      show wipe ((wipe σ us).set u none) vs = _
      rw [wipe_set (h u List.mem_cons_self), ih σ fun x hx => h x (List.mem_cons_of_mem _ hx)]
  exact go vs σ fun _ h => h
theorem lc_go {wi : TI} {tg' : TG} {tt : TT} {te : TE} {vs : List Nat}
    (hi : ∀ F B σ H ρ, ER X.K F B H σ ρ → match fi ρ with
      | .stuck => True
      | .exc c ρ' => XGo X C Z F B H σ c ρ' → ∀ R, wi σ H R
      | .ok ds ρ' => ∀ R : It → Hp → Prop, (∀ J F' H', Gd F B H F' H' → ER X.K F' B H' σ ρ' → ItF X.K J F' H' ds → R J H') → wi σ H R)
    (hg : ∀ F B σ H ρ v d ρ', ER X.K F B H σ ρ → Rep X.K F H v d → g d ρ = some ρ' → ∀ Q : L2.St → Hp → Prop, (∀ σ', ER X.K F B H σ' ρ' → wipe σ' vs = wipe σ vs → Q σ' H) → tg' v σ H Q)
    (ht : ∀ F B σ H ρ, ER X.K F B H σ ρ → TGo X C Z0 F B H σ (tt σ H) (ft ρ)) (he : ∀ F B σ H ρ, ER X.K F B H σ ρ → EGo X C Z0 F B H σ (te σ H) (fe ρ)) :
    ∀ F B σ H ρ, ER X.K F B H σ ρ → EGo X C Z F B H σ (tLc wi tg' tt te vs σ H) (eLc vs fi g ft fe ρ) := by
  intro F B σ H ρ E
  have h1 := hi F B σ H ρ E
  unfold eLc
  cases h2 : fi ρ with
  | stuck => trivial
  | exc c ρ' => rw [h2] at h1; exact fun x Q => h1 x _
  | ok ds ρ1 =>
    rw [h2] at h1
    dsimp only [Res.bind]
    cases h3 : lcL vs g ft fe ds ρ1 [] with
    | stuck => trivial
    | exc c ρ' => trivial
    | ok acc ρ2 =>
      refine fun Q hQ => h1 _ fun J F1 H1 g1 E1 it D hD => ?_
      -- the list at D stands apart
      have EB : ER X.K F1 (fun b => B b ∨ b = D) (upd H1 D (.lst [])) σ ρ1 := by
        obtain ⟨gN, EN⟩ := E1.newT (o := .lst []) hD
        obtain ⟨nF, nB, nM⟩ := E1.nofresh hD
        refine ⟨EN.len, EN.dom, ?_, EN.sl, ?_, EN.inj⟩
        · rintro b (h | h)
          · exact EN.domB b h
          · subst h; exact ⟨_, upd_same⟩
        · intro i es hi
          obtain ⟨a, us, q1, q2, q3, q4, q5⟩ := EN.mt i es hi
          exact ⟨a, us, q1, q2, q3, fun z => z.elim q4 fun z => by subst z; exact nM i es hi q1, q5⟩
      refine ⟨fun i m H2 => m = ds.length - i ∧ i ≤ ds.length ∧ ∃ F2 ρi acci us, Gd F1 B (upd H1 D (.lst [])) F2 H2 ∧ ER X.K F2 B H2 σ ρi ∧ H2 D = some (.lst us) ∧ RepA X.K F2 H2 us acci ∧ ¬ F2 D ∧ NotMut σ ρi D ∧ lcL vs g ft fe (ds.drop i) ρi acci = .ok acc ρ2,
        ⟨ds.length, by simp, Nat.zero_le _, F1, ρ1, [], [], Gd.refl, (EB.less fun b h => .inl h), upd_same, .nil, fun z => (E1.nofresh hD).1 z, (E1.nofresh hD).2.2, h3⟩, ?_⟩
      rintro i m H2 ⟨rfl, hil, F2, ρi, acci, us, g2, E2, hD2, ra, nF2, nM2, hl⟩
      have itH := it F2 H2 (fun b h => g2.sub b h) (fun b o hb e => g2.st b o (.inl hb) (stab_new hD b o e))
      by_cases hlt : i < ds.length
      · have hget : ds[i]? = some ds[i] := List.getElem?_eq_getElem hlt
        obtain ⟨hgo, hy⟩ := itH.1 i _ hget
        rw [List.drop_eq_getElem_cons hlt] at hl
        unfold lcL at hl
        cases q1 : g ds[i] (wipeE ρi vs) with
        | none => rw [q1] at hl; cases hl
        | some ρa =>
          rw [q1] at hl
          dsimp only at hl
          refine .inr ⟨hgo, fun H3 => ∃ F3 ρ3 acc3 us3, Gd F1 B (upd H1 D (.lst [])) F3 H3 ∧ ER X.K F3 B H3 σ ρ3 ∧ H3 D = some (.lst us3) ∧ RepA X.K F3 H3 us3 acc3 ∧ ¬ F3 D ∧ NotMut σ ρ3 D ∧ lcL vs g ft fe (ds.drop (i + 1)) ρ3 acc3 = .ok acc ρ2,
            fun H3 ⟨F3, ρ3, acc3, us3, z⟩ => ⟨ds.length - (i + 1), by omega, rfl, hlt, F3, ρ3, acc3, us3, z⟩, fun x H3 yy => ?_⟩
          -- what is yielded
          have EB2 : ER X.K F2 (fun b => B b ∨ b = D) H2 σ ρi := by
            refine ⟨E2.len, E2.dom, ?_, E2.sl, ?_, E2.inj⟩
            · rintro b (h | h)
              · exact E2.domB b h
              · subst h; exact ⟨_, hD2⟩
            · intro i es hi
              obtain ⟨a, us, q1, q2, q3, q4, q5⟩ := E2.mt i es hi
              exact ⟨a, us, q1, q2, q3, fun z => z.elim q4 fun z => by subst z; exact nM2 i es hi q1, q5⟩
          have hyld : ∃ F3, Gd F2 (fun b => B b ∨ b = D) H2 F3 H3 ∧ ER X.K F3 (fun b => B b ∨ b = D) H3 σ ρi ∧ Rep X.K F3 H3 x ds[i] := by
            rcases hy x H3 yy with ⟨rfl, rx⟩ | ⟨T, tv, es, hT, rfl, rfl, e, rx⟩
            · exact ⟨F2, Gd.refl, EB2, rx⟩
            · rw [e]
              exact ⟨_, (EB2.newF hT).1, (EB2.newF hT).2, EB2.tupN hT rx⟩
          obtain ⟨F3, g3, E3, rx⟩ := hyld
          refine hg F3 _ _ H3 _ x _ ρa (E3.wipe vs) rx q1 _ fun σa Ea hwa => ?_
          have hwa' : wipe σa vs = wipe σ vs := by rw [hwa, wipe_wipe]
          refine ⟨hwa', ?_⟩
          have tgo := ht F3 _ σa H3 ρa Ea
          cases q2 : ft ρa with
          | stuck => rw [q2] at hl; cases hl
          | exc c r => rw [q2] at hl; cases hl
          | ok b ρb =>
            rw [q2] at hl tgo
            refine tgo _ fun F4 H4 g4 E4 => ?_
            have stD : ∀ {F' H'}, Gd F3 (fun b => B b ∨ b = D) H3 F' H' → H' D = some (.lst us) ∧ ¬ F' D := fun {F' H'} gg => by
              have h3 : H3 D = some (.lst us) := g3.st D _ (.inr (.inr rfl)) hD2
              refine ⟨gg.st D _ (.inr (.inr rfl)) h3, fun z => nF2 (g3.pr D (.inr rfl) (gg.pr D (.inr rfl) z))⟩
            have notm : ∀ {F' H' σ' ρ'}, ER X.K F' (fun b => B b ∨ b = D) H' σ' ρ' → NotMut σ' ρ' D := fun {F' H' σ' ρ'} EE j es hj hs => by
              obtain ⟨a, us, q1, q2, q3, q4, q5⟩ := EE.mt j es hj
              rw [hs] at q1; cases q1
              exact q4 (.inr rfl)
            cases b with
            | false =>
              refine iteF ?_
              have Eb := ER.back E3 g4 E4 vs hwa'
              obtain ⟨d1, d2⟩ := stD g4
              exact ⟨F4, _, acci, us, g2.trans ((g3.trans g4).less fun b h => .inl h), Eb.less fun b h => .inl h, d1, RepA.gd (g3.trans g4) ra, d2, notm Eb, hl⟩
            | true =>
              refine iteT ?_
              have ego := fzGo he F4 _ σa H4 ρb E4
              dsimp only at hl
              cases q3 : eFz fe ρb with
              | stuck => rw [q3] at hl; cases hl
              | exc c r => rw [q3] at hl; cases hl
              | ok w ρc =>
                rw [q3] at hl ego
                cases w with
                | tmp es => cases hl
                | loc j => cases hl
                | val e =>
                  dsimp only at hl
                  split at hl
                  · rename_i hsz
                    refine ego _ fun y F5 H5 g5 E5 ry => ?_
                    have g45 := g4.trans g5
                    have Eb := ER.back E3 g45 E5 vs hwa'
                    obtain ⟨d1, d2⟩ := stD g45
                    have ry : Rep X.K F5 H5 y e := ry
                    have ra5 : RepA X.K F5 H5 us acci := RepA.gd (g3.trans g45) ra
                    refine ⟨us, d1, by rw [ra5.len]; exact hsz, ?_⟩
                    -- D grows
                    have keep : ∀ b o, b ≠ D → H5 b = some o → upd H5 D (.lst (us ++ [y])) b = some o := fun b o hb e => by rw [upd_ne hb]; exact e
                    have gD : ∀ B' : Addr → Prop, (¬ B' D) → Gd F5 B' H5 F5 (upd H5 D (.lst (us ++ [y]))) := fun B' hb => ⟨fun _ h => h, fun b o h e => keep b o (fun z => by subst z; exact h.elim d2 hb) e, fun _ _ z => z⟩
                    have nBD : ¬ B D := (E1.nofresh hD).2.1
                    refine ⟨F5, _, acci ++ [e], us ++ [y], (g2.trans ((g3.trans g45).less fun b h => .inl h)).trans (gD B nBD), ?_, upd_same, RepA.gd (gD B nBD) (ra5.app (.cons ry .nil)), d2, notm Eb, hl⟩
                    have Eb' := Eb.less (B' := B) fun b h => .inl h
                    refine ⟨Eb'.len, fun b h => ?_, fun b h => ?_, fun j d h => ?_, fun j es h => ?_, Eb'.inj⟩
                    · obtain ⟨o, e⟩ := Eb'.dom b h
                      exact ⟨o, (gD B nBD).st b o (.inl h) e⟩
                    · obtain ⟨o, e⟩ := Eb'.domB b h
                      exact ⟨o, (gD B nBD).st b o (.inr h) e⟩
                    · obtain ⟨u, z1, z2⟩ := Eb'.sl j d h
                      exact ⟨u, z1, Rep.gd (gD B nBD) z2⟩
                    · obtain ⟨a, vs', z1, z2, z3, z4, z5⟩ := Eb'.mt j es h
                      exact ⟨a, vs', z1, keep a _ (fun z => by subst z; exact notm Eb j es h z1) z2, z3, z4, RepA.gd (gD B nBD) z5⟩
                  · cases hl
      · have e : i = ds.length := by omega
        subst e
        rw [List.drop_length] at hl
        cases hl
        refine .inl ⟨itH.2, hQ (.ref D) F2 H2 ?_ E2 ⟨D, us, rfl, hD2, nF2, fun z => (E1.nofresh hD).2.1 z, nM2, ra⟩⟩
        exact g1.trans ((E1.newT hD).1.trans g2)
theorem r_lc (hc : X.calm = true) (hN : X.N.Nodup) (hi : PIr X C Z tg iter fi) (ok : BlkOk X.N X.env.scope scope own) (hb : BlkR X C scope tg elt ifs (own.map (·.2)) g ft fe) (hs : ∀ x, foldedSetIterable iter X.env x = pure x := by intro _; rfl) :
    PEr X C Z (.ListComp elt [⟨tg, iter, ifs, 0⟩] scope pos) (eLc (own.map (·.2)) fi g ft fe) := by
  obtain ⟨wi, hwi, hsi⟩ := hi.ex
  obtain ⟨tg', tt, te, h1, h2, h3, h4, h5, h6⟩ := hb.ex
  exact ⟨_, pe_lc hc hN hwi ok h1 h2 h3 hs, lc_go hsi h4 h5 h6⟩
end
end Ls
namespace Ls
open PySem PySem.Spec PyProof.Rows L2

inductive SRes where
  | stuck
  | exc (c : Str) (ρ : Env)
  | nx (ρ : Env)
  | ret (r : Sl) (ρ : Env)
  | brk (ρ : Env)
  | cnt (ρ : Env)
abbrev SF := Env → SRes
def Sl.w : Sl → W | .val d => .val d | .mut ds => .tmp ds
@[inline] def Res.bindS {α : Type} (r : Res α) (f : α → Env → SRes) : SRes := match r with
  | .stuck => .stuck
  | .exc c ρ => .exc c ρ
  | .ok a ρ => f a ρ
theorem Res.bindS_ok {α : Type} (a : α) (ρ : Env) (f : α → Env → SRes) : (Res.ok a ρ).bindS f = f a ρ := rfl
@[simp] theorem Res.bindS_exc {α : Type} (c : Str) (ρ : Env) (f : α → Env → SRes) : (Res.exc c ρ : Res α).bindS f = .exc c ρ := rfl
@[simp] theorem Res.bindS_stuck {α : Type} (f : α → Env → SRes) : (Res.stuck : Res α).bindS f = .stuck := rfl
@[inline] def SRes.then (r : SRes) (f : SF) : SRes := match r with
  | .nx ρ => f ρ
  | r => r
def PinEq (pin : List Nat) (σ σ' : L2.St) : Prop := ∀ j ∈ pin, σ'[j]? = σ[j]?
theorem PinEq.refl {pin : List Nat} {σ : L2.St} : PinEq pin σ σ := fun _ _ => rfl
theorem PinEq.trans {pin : List Nat} {σ σ1 σ2 : L2.St} (a : PinEq pin σ σ1) (b : PinEq pin σ1 σ2) : PinEq pin σ σ2 := fun j h => (b j h).trans (a j h)
theorem PinEq.set {pin : List Nat} {σ : L2.St} {i : Nat} {x : Option V} (h : i ∉ pin) : PinEq pin σ (σ.set i x) := fun j hj => by
  rw [List.getElem?_set_ne (fun z => h (by subst z; exact hj))]
section
variable (X : Cx) (C : Cof) (Z : WX) (pin : List Nat)
def SPost (F B : Addr → Prop) (H : Hp) (σ : L2.St) (D : Ends) : SRes → Prop
  | .stuck => False
  | .exc c ρ' => ∀ σ' F' H', Gd F B H F' H' → PinEq pin σ σ' → ER X.K F' B H' σ' ρ' → Z (C c) none σ' H'
  | .nx ρ' => ∀ σ' F' H', Gd F B H F' H' → PinEq pin σ σ' → ER X.K F' B H' σ' ρ' → D.nx σ' H'
  | .ret r ρ' => ∀ v σ' F' H', Gd F B H F' H' → PinEq pin σ σ' → ER X.K F' B H' σ' ρ' → RW X.K F' B H' σ' ρ' v r.w → D.rt v H'
  | .brk ρ' => ∀ σ' F' H', Gd F B H F' H' → PinEq pin σ σ' → ER X.K F' B H' σ' ρ' → D.bk σ' H'
  | .cnt ρ' => ∀ σ' F' H', Gd F B H F' H' → PinEq pin σ σ' → ER X.K F' B H' σ' ρ' → D.ct σ' H'
structure PSr (st : Stmt) (f : SF) : Prop where
  ex : ∃ t, PS X st t ∧ ∀ F B σ H ρ D, ER X.K F B H σ ρ → SPost X C Z pin F B H σ D (f ρ) → t D σ H
structure PSsr (st : List Stmt) (f : SF) : Prop where
  ex : ∃ t, PSs X st t ∧ ∀ F B σ H ρ D, ER X.K F B H σ ρ → SPost X C Z pin F B H σ D (f ρ) → t D σ H
end
section
variable {X : Cx} {C : Cof} {Z : WX} {pin : List Nat} {F B F1 : Addr → Prop} {H H1 : Hp} {σ σ1 : L2.St} {ρ ρ1 : Env} {D : Ends}
theorem SPost.after {r : SRes} (g : Gd F B H F1 H1) (p : PinEq pin σ σ1) (h : SPost X C Z pin F B H σ D r) : SPost X C Z pin F1 B H1 σ1 D r := by
  cases r with
  | stuck => exact h
  | exc c ρ' => exact fun σ' F' H' g' p' E => h σ' F' H' (g.trans g') (p.trans p') E
  | nx ρ' => exact fun σ' F' H' g' p' E => h σ' F' H' (g.trans g') (p.trans p') E
  | ret r ρ' => exact fun v σ' F' H' g' p' E rr => h v σ' F' H' (g.trans g') (p.trans p') E rr
  | brk ρ' => exact fun σ' F' H' g' p' E => h σ' F' H' (g.trans g') (p.trans p') E
  | cnt ρ' => exact fun σ' F' H' g' p' E => h σ' F' H' (g.trans g') (p.trans p') E
theorem stE {r : Res W} {t1 : (V → Hp → Prop) → Prop} {k : W → Env → SRes} {R : V → Hp → Prop} (h : EGo X C Z F B H σ t1 r) (hp : SPost X C Z pin F B H σ D (r.bindS k))
    (hk : ∀ v w ρ' F' H', r = .ok w ρ' → Gd F B H F' H' → ER X.K F' B H' σ ρ' → RW X.K F' B H' σ ρ' v w → SPost X C Z pin F' B H' σ D (k w ρ') → R v H') : t1 R := by
  cases r with
  | stuck => exact hp.elim
  | exc c ρ' => exact h (fun F' H' g E => hp σ F' H' g PinEq.refl E) R
  | ok w ρ' => exact h R fun v F' H' g E rr => hk v w ρ' F' H' rfl g E rr (SPost.after g PinEq.refl hp)
theorem stT {r : Res Bool} {t1 : (Bool → Hp → Prop) → Prop} {k : Bool → Env → SRes} {R : Bool → Hp → Prop} (h : TGo X C Z F B H σ t1 r) (hp : SPost X C Z pin F B H σ D (r.bindS k))
    (hk : ∀ w ρ' F' H', r = .ok w ρ' → Gd F B H F' H' → ER X.K F' B H' σ ρ' → SPost X C Z pin F' B H' σ D (k w ρ') → R w H') : t1 R := by
  cases r with
  | stuck => exact hp.elim
  | exc c ρ' => exact h (fun F' H' g E => hp σ F' H' g PinEq.refl E) R
  | ok w ρ' => exact h R fun F' H' g E => hk w ρ' F' H' rfl g E (SPost.after g PinEq.refl hp)
end

def sNil : SF := fun ρ => .nx ρ
def sSeq (f g : SF) : SF := fun ρ => (f ρ).then g
def sPass : SF := fun ρ => .nx ρ
def sBrk : SF := fun ρ => .brk ρ
def sCnt : SF := fun ρ => .cnt ρ
def sExpr (f : EF) : SF := fun ρ => (f ρ).bindS fun _ ρ1 => .nx ρ1
def outW (pin : List Nat) (ρ : Env) : W → Option (Sl × Env)
  | .val d => some (.val d, ρ)
  | .tmp ds => some (.mut ds, ρ)
  | .loc i => match ρ[i]? with
    | some (some (.val d)) => some (.val d, ρ)
    | some (some (.mut ds)) => if pin.contains i then some (.val (.list ds), ρ.set i (some (.val (.list ds)))) else some (.mut ds, ρ.set i none)
    | _ => none
def sRet (pin : List Nat) (f : EF) : SF := fun ρ => (f ρ).bindS fun w ρ1 => match outW pin ρ1 w with | some (r, ρ2) => .ret r ρ2 | none => .stuck
def sRetN : SF := fun ρ => .ret (.val .none) ρ
def putW (i : Nat) (ρ : Env) : W → Option Env
  | .val d => some (ρ.set i (some (.val d)))
  | .tmp ds => some (ρ.set i (some (.mut ds)))
  | .loc j => (fzW ρ (.loc j)).map fun p => p.2.set i (some (.val p.1))
def sSet (i : Nat) (f : EF) : SF := fun ρ => (f ρ).bindS fun w ρ1 => match putW i ρ1 w with | some ρ2 => .nx ρ2 | none => .stuck
def sAsg (g : GF) (f : EF) : SF := fun ρ => (eFz f ρ).bindS fun w ρ1 => match w with | .val d => (match g d ρ1 with | some ρ2 => .nx ρ2 | none => .stuck) | _ => .stuck
def sIf (t : TF) (f g : SF) : SF := fun ρ => (t ρ).bindS fun b ρ1 => if b = true then f ρ1 else g ρ1
section
variable {X : Cx} {C : Cof} {Z : WX} {pin : List Nat} {st : Stmt} {sts sts2 : List Stmt} {e c : Expr} {es : List Expr} {f g : SF} {fe : EF} {pos : Pos} {x : Str}
theorem s_nil : PSsr X C Z pin [] sNil := ⟨_, pss_nil, fun F B σ H ρ D E h => h σ F H Gd.refl PinEq.refl E⟩
theorem s_cons (h1 : PSr X C Z pin st f) (h2 : PSsr X C Z pin sts g) : PSsr X C Z pin (st :: sts) (sSeq f g) := by
  obtain ⟨t, ht, hs⟩ := h1.ex
  obtain ⟨t2, ht2, hs2⟩ := h2.ex
  refine ⟨_, pss_cons ht ht2, fun F B σ H ρ D E h => ?_⟩
  show t { D with nx := t2 D } σ H
  refine hs F B σ H ρ _ E ?_
  unfold sSeq at h
  cases h1 : f ρ with
  | stuck => rw [h1] at h; exact h
  | exc c ρ' => rw [h1] at h; exact h
  | nx ρ' => rw [h1] at h; exact fun σ' F' H' g' p' E' => hs2 F' B σ' H' ρ' D E' (SPost.after g' p' h)
  | ret r ρ' => rw [h1] at h; exact h
  | brk ρ' => rw [h1] at h; exact h
  | cnt ρ' => rw [h1] at h; exact h
theorem s_one (h1 : PSr X C Z pin st f) : PSsr X C Z pin [st] f := by
  obtain ⟨t, ht, hs⟩ := h1.ex
  exact ⟨_, pss_one ht, hs⟩
theorem s_pass : PSr X C Z pin (.Pass pos) sPass := ⟨_, ps_pass, fun F B σ H ρ D E h => h σ F H Gd.refl PinEq.refl E⟩
theorem s_brk : PSr X C Z pin (.Break pos) sBrk := ⟨_, ps_break, fun F B σ H ρ D E h => h σ F H Gd.refl PinEq.refl E⟩
theorem s_cnt : PSr X C Z pin (.Continue pos) sCnt := ⟨_, ps_continue, fun F B σ H ρ D E h => h σ F H Gd.refl PinEq.refl E⟩
def sOff : SF := fun _ => .stuck
theorem s_off : PSr X C Z pin st sOff := ⟨_, ps_never, fun F B σ H ρ D E h => h⟩
theorem ss_off : PSsr X C Z pin sts sOff := ⟨_, pss_never, fun F B σ H ρ D E h => h⟩
theorem s_expr (he : PEr X C Z e fe) (hs : swapsWith e none pos.line X.env = pure false := by rfl) : PSr X C Z pin (.Expr e pos) (sExpr fe) := by
  obtain ⟨t, ht, h1⟩ := he.ex
  refine ⟨_, ps_expr ht hs, fun F B σ H ρ D E h => ?_⟩
  exact stE (h1 F B σ H ρ E) h fun v w ρ' F' H' _ g E' r hp => hp σ F' H' Gd.refl PinEq.refl E'
theorem outW_ok {K : PySem.W.Frag} {F B : Addr → Prop} {H : Hp} {σ : L2.St} {ρ ρ' : Env} {v : V} {w : W} {r : Sl} (E : ER K F B H σ ρ) (rw_ : RW K F B H σ ρ v w) (e : outW pin ρ w = some (r, ρ')) :
    ∃ F', Gd F B H F' H ∧ ER K F' B H σ ρ' ∧ RW K F' B H σ ρ' v r.w := by
  cases w with
  | val d => cases e; exact ⟨F, Gd.refl, E, rw_⟩
  | tmp ds => cases e; exact ⟨F, Gd.refl, E, rw_⟩
  | loc i =>
    have hv : σ[i]? = some (some v) := rw_
    unfold outW at e
    dsimp only at e
    split at e
    · rename_i d h
      cases e
      obtain ⟨u, h1, h2⟩ := E.sl i _ h
      rw [hv] at h1; cases h1
      exact ⟨F, Gd.refl, E, h2⟩
    · rename_i ds h
      split at e
      · cases e
        have q : fzW ρ (.loc i) = some (.list ds, ρ.set i (some (.val (.list ds)))) := by
          unfold fzW
          dsimp only
          rw [h]
        obtain ⟨F', g, E', rr⟩ := fzW_ok E rw_ q
        exact ⟨F', g, E', rr⟩
      · cases e
        obtain ⟨a, vs, h1, h2, nF, nB, ra⟩ := E.mt i _ h
        rw [hv] at h1; cases h1
        refine ⟨F, Gd.refl, E.unset, a, vs, rfl, h2, nF, nB, fun j es hj hs => ?_, ra⟩
        rcases getElem?_set_some hj with ⟨rfl, q⟩ | ⟨ne, q⟩
        · cases q
        · exact ne (E.inj j i es ds a q h hs hv)
    · cases e
theorem s_ret (he : PEr X C Z e fe) : PSr X C Z pin (.Return (some e) pos) (sRet pin fe) := by
  obtain ⟨t, ht, h1⟩ := he.ex
  refine ⟨_, ps_ret ht, fun F B σ H ρ D E h => ?_⟩
  refine stE (h1 F B σ H ρ E) h fun v w ρ' F' H' _ g E' r hp => ?_
  cases q : outW pin ρ' w with
  | none => rw [q] at hp; exact hp.elim
  | some p =>
    obtain ⟨rr, ρ2⟩ := p
    rw [q] at hp
    obtain ⟨F2, g2, E2, r2⟩ := outW_ok E' r q
    exact hp v σ F2 H' g2 PinEq.refl E2 r2
theorem s_retN : PSr X C Z pin (.Return none pos) sRetN := ⟨_, ps_retN, fun F B σ H ρ D E h => h .non σ F H Gd.refl PinEq.refl E .non⟩
theorem putW_ok {K : PySem.W.Frag} {F B : Addr → Prop} {H : Hp} {σ : L2.St} {ρ ρ' : Env} {v : V} {w : W} {i : Nat} (E : ER K F B H σ ρ) (r : RW K F B H σ ρ v w) (e : putW i ρ w = some ρ') : ∃ F', Gd F B H F' H ∧ ER K F' B H (σ.set i (some v)) ρ' := by
  cases w with
  | val d => cases e; exact ⟨F, Gd.refl, E.setV r⟩
  | tmp ds => cases e; exact ⟨F, Gd.refl, E.setM r⟩
  | loc j =>
    obtain ⟨p, h, rfl⟩ := Option.map_eq_some_iff.mp e
    obtain ⟨d, ρ1⟩ := p
    obtain ⟨F', g, E', rr⟩ := fzW_ok E r h
    exact ⟨F', g, E'.setV rr⟩
theorem s_set (i : Nat) {pos' : Pos} (hN : X.N.Nodup) (he : PEr X C Z e fe) (hi : X.N[i]? = some x := by rfl) (hx : Loc X.env.scope x := by first | exact Or.inl rfl | exact Or.inr rfl) (hp : i ∉ pin := by decide) (hs : swapsWith e (some (.Name x pos')) pos.line X.env = pure false := by rfl)
    (hf : X.fn x = true ∨ X.env.scope.names.lookup x = some .local := by first | exact .inl rfl | exact .inr rfl) : PSr X C Z pin (.Assign [.Name x pos'] e pos) (sSet i fe) := by
  obtain ⟨t, ht, h1⟩ := he.ex
  refine ⟨_, ps_set hN hi hx ht hs hf, fun F B σ H ρ D E h => ?_⟩
  refine stE (h1 F B σ H ρ E) h fun v w ρ' F' H' _ g E' r hq => ?_
  cases q : putW i ρ' w with
  | none => rw [q] at hq; exact hq.elim
  | some ρ2 =>
    rw [q] at hq
    obtain ⟨F2, g2, E2⟩ := putW_ok E' r q
    exact hq _ F2 H' g2 (PinEq.set hp) E2
theorem pinEq_wipe {vs : List Nat} {σ σ' : L2.St} (hw : wipe σ' vs = wipe σ vs) (hd : ∀ j ∈ pin, j ∉ vs) : PinEq pin σ σ' := fun j hj => by
  have hl : σ'.length = σ.length := by
    have := congrArg List.length hw
    rwa [wipe_length, wipe_length] at this
  exact wipe_get hw hl (hd j hj)
theorem s_asg {vs : List Nat} {tg : Expr} {gg : GF} (hg : PGr X vs tg gg) (he : PEr X C Z e fe) (hd : ∀ j ∈ pin, j ∉ vs := by decide) (hs : swapsWithSole [tg] e pos.line X.env = pure false := by rfl) (hw : swappedStores [tg] e X.env = pure none := by rfl) (ha : (assignEach [tg] X.env).map (·.2) = [assign tg X.env] := by rfl) : PSr X C Z pin (.Assign [tg] e pos) (sAsg gg fe) := by
  obtain ⟨t, ht, h1⟩ := he.ex
  obtain ⟨tg', htg, h2⟩ := hg.ex
  refine ⟨_, ps_asg ht htg hs hw ha, fun F B σ H ρ D E h => ?_⟩
  refine stE (fzGo h1 F B σ H ρ E) h fun v w ρ' F' H' _ g E' r hq => ?_
  cases w with
  | val d =>
    dsimp only at hq
    cases q : gg d ρ' with
    | none => rw [q] at hq; exact hq.elim
    | some ρ2 =>
      rw [q] at hq
      exact h2 F' B σ H' ρ' v d ρ2 E' r q _ fun σ' E2 w2 => hq σ' F' H' Gd.refl (pinEq_wipe w2 hd) E2
  | tmp ds => exact hq.elim
  | loc j => exact hq.elim
theorem s_if {tc : TF} (hc : PTr X C Z c tc) (ha : PSsr X C Z pin sts f) (hb : PSsr X C Z pin sts2 g) : PSr X C Z pin (.If c sts sts2 pos) (sIf tc f g) := by
  obtain ⟨t, ht, h1⟩ := hc.ex
  obtain ⟨t2, ht2, h2⟩ := ha.ex
  obtain ⟨t3, ht3, h3⟩ := hb.ex
  refine ⟨_, ps_if ht ht2 ht3, fun F B σ H ρ D E h => ?_⟩
  refine stT (h1 F B σ H ρ E) h fun b ρ' F' H' _ g E' hq => ?_
  cases b with
  | true => exact iteT (h2 F' B σ H' ρ' D E' (by simpa using hq))
  | false => exact iteF (h3 F' B σ H' ρ' D E' (by simpa using hq))
end

def sSub (i : Nat) (fi fe : EF) : SF := fun ρ => (eFz fe ρ).bindS fun w ρ1 => match ρ1[i]? with
  | some (some (.mut _)) => (fi ρ1).bindS fun wi ρ2 => match w, wi, ρ2[i]? with
    | .val d, .val (.int k), some (some (.mut ds)) => (match ixN ds.length k with | some j => .nx (ρ2.set i (some (.mut (ds.set j d)))) | none => .stuck)
    | _, _, _ => .stuck
  | _ => .stuck
def sAug (i : Nat) (op : PyData → PyData → Option Ans) (fe : EF) : SF := fun ρ => match ρ[i]? with
  | some (some (.val d0)) => (fe ρ).bindS fun w ρ1 => match w with
    | .val d => (match op d0 d with | some (.val r) => .nx (ρ1.set i (some (.val r))) | _ => .stuck)
    | _ => .stuck
  | _ => .stuck
section
variable {X : Cx} {C : Cof} {Z : WX} {pin : List Nat} {e ei : Expr} {fe fi : EF} {pos : Pos} {x : Str}
theorem s_sub (i : Nat) {pos' tpos : Pos} (he : PEr X C Z e fe) (hi : PEr X C Z ei fi) (hN : X.N[i]? = some x := by rfl) (hv : Vis X.env.scope x := by first | exact Or.inl rfl | exact Or.inr (Or.inl rfl) | exact Or.inr (Or.inr rfl)) (hd : (x == ("__debug__" : Str)) = false := by decide)
    (hcd : (x == ("__classdict__" : Str)) = false := by decide) (hs : swapsWithSole [.Subscript (.Name x pos') ei tpos] e pos.line X.env = pure false := by rfl) (hw : swappedStores [.Subscript (.Name x pos') ei tpos] e X.env = pure none := by rfl)
    (hg : ∀ (to ti : TE), PE X (.Name x pos') to → PE X ei ti → PG X (.Subscript (.Name x pos') ei tpos) (gSub to ti rSetL) := by exact fun _ _ h1 h2 => pg_sub h1 h2 set_list)
    (ha : (assignEach [.Subscript (.Name x pos') ei tpos] X.env).map (·.2) = [assign (.Subscript (.Name x pos') ei tpos) X.env] := by rfl) : PSr X C Z pin (.Assign [.Subscript (.Name x pos') ei tpos] e pos) (sSub i fi fe) := by
  obtain ⟨t, ht, h1⟩ := he.ex
  obtain ⟨t2, ht2, h2⟩ := hi.ex
  refine ⟨_, ps_asg ht (hg _ _ (pe_var hN hv hd hcd) ht2) hs hw ha, fun F B σ H ρ D E h => ?_⟩
  refine stE (fzGo h1 F B σ H ρ E) h fun v w ρ1 F1 H1 _ g1 E1 r1 hq => ?_
  split at hq
  · rename_i ds0 h0
    obtain ⟨a, vs0, s0, hh0, _⟩ := E1.mt i ds0 h0
    refine ⟨_, s0, ?_⟩
    refine stE (R := fun y H2 => rSetL (.ref a) y v H2 fun H3 => D.nx σ H3) (h2 F1 B σ H1 ρ1 E1) hq fun y wi ρ2 F2 H2 _ g2 E2 r2 hq2 => ?_
    split at hq2
    · rename_i d k ds h3 _ _
      cases q : ixN ds.length k with
      | none => rw [q] at hq2; exact hq2.elim
      | some j =>
        rw [q] at hq2
        obtain ⟨a', vs, s1, hh, nF, nB, ra⟩ := E2.mt i ds h3
        rw [s0] at s1; cases s1
        have r2 : Rep X.K F2 H2 y (.int k) := r2
        cases r2
        have r1 : Rep X.K F2 H2 v d := Rep.gd g2 r1
        obtain ⟨g3, E3⟩ := E2.write h3 s0 (RepA.set r1 j ra)
        exact ⟨a, vs, k, j, rfl, rfl, hh, by rw [ra.len]; exact q, hq2 σ F2 _ g3 PinEq.refl E3⟩
    · exact hq2.elim
  · exact hq.elim
theorem s_aug (i : Nat) {op : Operator} {r : R2} {opd : PyData → PyData → Option Ans} {pos' : Pos} (hN : X.N.Nodup) (ho : OpR X (inplaceOp op) r) (hr : BinS X.K r opd) (he : PEr X C Z e fe) (hi : X.N[i]? = some x := by rfl) (hx : Loc X.env.scope x := by first | exact Or.inl rfl | exact Or.inr rfl) (hp : i ∉ pin := by decide)
    (hf : X.fn x = true ∨ X.env.scope.names.lookup x = some .local := by first | exact .inl rfl | exact .inr rfl) (hau : ∀ t, PE X e t → PS X (.AugAssign (.Name x pos') op e pos) (tAug i t r)) : PSr X C Z pin (.AugAssign (.Name x pos') op e pos) (sAug i opd fe) := by
  obtain ⟨t, ht, h1⟩ := he.ex
  refine ⟨_, hau t ht, fun F B σ H ρ D E h => ?_⟩
  unfold sAug at h
  split at h
  · rename_i d0 h0
    obtain ⟨v0, s0, r0⟩ := E.sl i d0 h0
    refine ⟨v0, s0, ?_⟩
    refine stE (h1 F B σ H ρ E) h fun v w ρ1 F1 H1 _ g1 E1 r1 hq => ?_
    split at hq
    · rename_i d _
      cases q : opd d0 d with
      | none => rw [q] at hq; exact hq.elim
      | some an =>
        rw [q] at hq
        cases an with
        | new ds => exact hq.elim
        | val dr => exact hr F1 B σ H1 ρ1 v0 v d0 d _ E1 (.inl (Rep.gd g1 r0)) (.inl r1) q _ fun z F2 H2 g2 E2 r2 => hq _ F2 H2 g2 (PinEq.set hp) (E2.setV r2)
    · exact hq.elim
  · exact h.elim
end

def forL (g : GF) (body : SF) : List PyData → Env → SRes
  | [], ρ => .nx ρ
  | d :: ds, ρ => match g d ρ with
    | none => .stuck
    | some ρ1 => match body ρ1 with
      | .nx ρ2 => forL g body ds ρ2
      | .cnt ρ2 => forL g body ds ρ2
      | .brk ρ2 => .nx ρ2
      | r => r
def sFor (fi : IF) (g : GF) (body : SF) : SF := fun ρ => (fi ρ).bindS fun ds ρ1 => forL g body ds ρ1
inductive Turn1 | on (ρ : Env) | out (r : SRes)
def turnW (t : TF) (body : SF) : Env → Turn1 := fun ρ => match t ρ with
  | .ok true ρ1 => (match body ρ1 with
    | .nx ρ2 => .on ρ2
    | .cnt ρ2 => .on ρ2
    | .brk ρ2 => .out (.nx ρ2)
    | r => .out r)
  | .ok false ρ1 => .out (.nx ρ1)
  | .exc c ρ1 => .out (.exc c ρ1)
  | .stuck => .out .stuck
def runW (step : Env → Turn1) : Nat → Env → Option SRes
  | 0, _ => none
  | n + 1, ρ => match step ρ with | .on ρ' => runW step n ρ' | .out r => some r
open Classical in
noncomputable def whileW (step : Env → Turn1) (ρ : Env) : SRes := if h : ∃ r n, runW step n ρ = some r then h.choose else .stuck
theorem runW_more {step : Env → Turn1} : ∀ {n m : Nat} {ρ : Env} {r : SRes}, runW step n ρ = some r → n ≤ m → runW step m ρ = some r
  | 0, _, _, _, h, _ => by cases h
  | n + 1, 0, _, _, _, hm => by omega
  | n + 1, m + 1, ρ, r, h, hm => by
    unfold runW at h ⊢
    cases e : step ρ with
    | on ρ' => rw [e] at h; exact runW_more h (by omega)
    | out r' => rw [e] at h; exact h
theorem whileW_of {step : Env → Turn1} {n : Nat} {ρ : Env} {r : SRes} (h : runW step n ρ = some r) : whileW step ρ = r := by
  have p : ∃ r n, runW step n ρ = some r := ⟨r, n, h⟩
  unfold whileW
  rw [dif_pos p]
  obtain ⟨m, hm⟩ := p.choose_spec
  have a := runW_more h (Nat.le_max_left n m)
  have b := runW_more hm (Nat.le_max_right n m)
  rw [a] at b
  exact (Option.some.inj b).symm
theorem whileW_eq {step : Env → Turn1} {ρ : Env} : whileW step ρ = match step ρ with | .on ρ' => whileW step ρ' | .out r => r := by
  cases e : step ρ with
  | out r => exact whileW_of (n := 1) (by unfold runW; rw [e])
  | on ρ' =>
    dsimp only
    by_cases p : ∃ r n, runW step n ρ' = some r
    · obtain ⟨r, n, h⟩ := p
      rw [whileW_of h]
      exact whileW_of (n := n + 1) (by unfold runW; rw [e]; exact h)
    · have q : ¬ ∃ r n, runW step n ρ = some r := by
        rintro ⟨r, n, h⟩
        cases n with
        | zero => cases h
        | succ n => unfold runW at h; rw [e] at h; exact p ⟨r, n, h⟩
      unfold whileW
      rw [dif_neg p, dif_neg q]
noncomputable def sWhile (t : TF) (body : SF) : SF := whileW (turnW t body)
section
variable {X : Cx} {C : Cof} {Z : WX} {pin : List Nat} {tg iter c : Expr} {body : List Stmt} {fi : IF} {g : GF} {fb : SF} {tc : TF} {pos : Pos}
theorem SPost.less {F B B' : Addr → Prop} {H : Hp} {σ : L2.St} {D : Ends} {r : SRes} (h : SPost X C Z pin F B H σ D r) : SPost X C Z pin F B H σ D r := h
theorem s_for {vs : List Nat} (hp : PassesOwn (model X.prog X.w) X.A X.env X.xe) (hc : X.calm = true) (hi : PIr X C Z tg iter fi) (hg : PGr X vs tg g) (hb : PSsr X C Z pin body fb) (hd : ∀ j ∈ pin, j ∉ vs := by decide)
    (hs : ∀ x, foldedSetIterable iter X.env x = pure x := by intro _; rfl) : PSr X C Z pin (.For tg iter body [] pos) (sFor fi g fb) := by
  obtain ⟨wi, hwi, h1⟩ := hi.ex
  obtain ⟨tg', htg, h2⟩ := hg.ex
  obtain ⟨tb, htb, h3⟩ := hb.ex
  refine ⟨_, ps_for hp hc hwi htg htb hs, fun F B σ H ρ D E h => ?_⟩
  have q1 := h1 F B σ H ρ E
  unfold sFor at h
  cases q2 : fi ρ with
  | stuck => rw [q2] at h; exact h.elim
  | exc c ρ' => rw [q2] at h q1; exact q1 (fun F' H' g E => h σ F' H' g PinEq.refl E) _
  | ok ds ρ1 =>
    rw [q2] at h q1
    have h : SPost X C Z pin F B H σ D (forL g fb ds ρ1) := h
    obtain ⟨R, hR⟩ : ∃ R, R = forL g fb ds ρ1 := ⟨_, rfl⟩
    rw [← hR] at h
    refine q1 _ fun J F1 H1 g1 E1 it => ?_
    refine ⟨fun i m σ2 H2 => m = ds.length - i ∧ i ≤ ds.length ∧ ∃ F2 ρ2, Gd F1 B H1 F2 H2 ∧ PinEq pin σ σ2 ∧ ER X.K F2 B H2 σ2 ρ2 ∧ forL g fb (ds.drop i) ρ2 = R,
      ⟨ds.length, by simp, Nat.zero_le _, F1, ρ1, Gd.refl, PinEq.refl, E1, hR.symm⟩, ?_⟩
    rintro i m σ2 H2 ⟨rfl, hil, F2, ρ2, g2, p2, E2, hl⟩
    have itH := it F2 H2 g2.sub g2.stab
    have h' : SPost X C Z pin F2 B H2 σ2 D R := SPost.after (g1.trans g2) p2 h
    rw [← hl] at h'
    by_cases hlt : i < ds.length
    · have hget : ds[i]? = some ds[i] := List.getElem?_eq_getElem hlt
      obtain ⟨hgo, hy⟩ := itH.1 i _ hget
      rw [List.drop_eq_getElem_cons hlt] at hl h'
      unfold forL at hl h'
      cases q3 : g ds[i] ρ2 with
      | none => rw [q3] at h'; exact h'.elim
      | some ρa =>
        rw [q3] at hl h'
        dsimp only at hl h'
        refine .inr ⟨hgo, fun σ3 H3 => ∃ F3 ρ3, Gd F1 B H1 F3 H3 ∧ PinEq pin σ σ3 ∧ ER X.K F3 B H3 σ3 ρ3 ∧ forL g fb (ds.drop (i + 1)) ρ3 = R, fun σ3 H3 ⟨F3, ρ3, z⟩ => ⟨ds.length - (i + 1), by omega, rfl, hlt, F3, ρ3, z⟩, fun x H3 yy => ?_⟩
        have hyld : ∃ F3, Gd F2 B H2 F3 H3 ∧ ER X.K F3 B H3 σ2 ρ2 ∧ Rep X.K F3 H3 x ds[i] := by
          rcases hy x H3 yy with ⟨rfl, rx⟩ | ⟨T, tv, es, hT, rfl, rfl, e, rx⟩
          · exact ⟨F2, Gd.refl, E2, rx⟩
          · rw [e]
            exact ⟨_, (E2.newF hT).1, (E2.newF hT).2, E2.tupN hT rx⟩
        obtain ⟨F3, g3, E3, rx⟩ := hyld
        refine h2 F3 B σ2 H3 ρ2 x _ ρa E3 rx q3 _ fun σa Ea hwa => ?_
        have pa : PinEq pin σ2 σa := pinEq_wipe hwa hd
        refine h3 F3 B σa H3 ρa _ Ea ?_
        have h'' := SPost.after g3 pa h'
        cases q4 : fb ρa with
        | stuck => rw [q4] at h''; exact h''
        | exc c ρb => rw [q4] at h''; exact h''
        | ret r ρb => rw [q4] at h''; exact h''
        | brk ρb => rw [q4] at h''; exact h''
        | nx ρb =>
          rw [q4] at hl
          exact fun σb F4 H4 g4 p4 E4 => ⟨F4, ρb, g2.trans (g3.trans g4), p2.trans (pa.trans p4), E4, hl⟩
        | cnt ρb =>
          rw [q4] at hl
          exact fun σb F4 H4 g4 p4 E4 => ⟨F4, ρb, g2.trans (g3.trans g4), p2.trans (pa.trans p4), E4, hl⟩
    · have e : i = ds.length := by omega
      subst e
      rw [List.drop_length] at h'
      exact .inl ⟨itH.2, h' σ2 F2 H2 Gd.refl PinEq.refl E2⟩
theorem s_while (hp : PassesOwn (model X.prog X.w) X.A X.env X.xe) (hc : PTr X C Z c tc) (hb : PSsr X C Z pin body fb) : PSr X C Z pin (.While c body [] pos) (sWhile tc fb) := by
  obtain ⟨t, ht, h1⟩ := hc.ex
  obtain ⟨tb, htb, h2⟩ := hb.ex
  refine ⟨_, ps_while hp ht htb, fun F B σ H ρ D E h => ?_⟩
  have hex : ∃ r n, runW (turnW tc fb) n ρ = some r := by
    apply Classical.byContradiction
    intro hn
    unfold sWhile whileW at h
    rw [dif_neg hn] at h
    exact h
  obtain ⟨r, n, hr⟩ := hex
  have hw : sWhile tc fb ρ = r := whileW_of hr
  rw [hw] at h
  refine ⟨fun m σ2 H2 => ∃ F2 ρ2, Gd F B H F2 H2 ∧ PinEq pin σ σ2 ∧ ER X.K F2 B H2 σ2 ρ2 ∧ runW (turnW tc fb) m ρ2 = some r, ⟨n, F, ρ, Gd.refl, PinEq.refl, E, hr⟩, ?_⟩
  rintro m σ2 H2 ⟨F2, ρ2, g2, p2, E2, hr2⟩
  have h' : SPost X C Z pin F2 B H2 σ2 D r := SPost.after g2 p2 h
  cases m with
  | zero => cases hr2
  | succ m =>
    unfold runW at hr2
    have q1 := h1 F2 B σ2 H2 ρ2 E2
    cases q2 : tc ρ2 with
    | stuck =>
      have : turnW tc fb ρ2 = .out .stuck := by unfold turnW; rw [q2]
      rw [this] at hr2
      cases hr2
      exact h'.elim
    | exc c ρ3 =>
      have : turnW tc fb ρ2 = .out (.exc c ρ3) := by unfold turnW; rw [q2]
      rw [this] at hr2
      cases hr2
      rw [q2] at q1
      exact q1 (fun F' H' g E => h' σ2 F' H' g PinEq.refl E) _
    | ok b ρ3 =>
      rw [q2] at q1
      refine q1 _ fun F3 H3 g3 E3 => ?_
      cases b with
      | false =>
        have : turnW tc fb ρ2 = .out (.nx ρ3) := by unfold turnW; rw [q2]
        rw [this] at hr2
        cases hr2
        exact iteF (h' σ2 F3 H3 g3 PinEq.refl E3)
      | true =>
        refine iteT ⟨fun σ4 H4 => ∃ F4 ρ4, Gd F B H F4 H4 ∧ PinEq pin σ σ4 ∧ ER X.K F4 B H4 σ4 ρ4 ∧ runW (turnW tc fb) m ρ4 = some r, fun σ4 H4 z => ⟨m, Nat.lt_succ_self m, z⟩, ?_⟩
        refine h2 F3 B σ2 H3 ρ3 _ E3 ?_
        have h'' := SPost.after g3 PinEq.refl h'
        cases q4 : fb ρ3 with
        | stuck =>
          have : turnW tc fb ρ2 = .out .stuck := by unfold turnW; rw [q2]; dsimp only; rw [q4]
          rw [this] at hr2
          cases hr2
          exact h''
        | exc c ρb =>
          have : turnW tc fb ρ2 = .out (.exc c ρb) := by unfold turnW; rw [q2]; dsimp only; rw [q4]
          rw [this] at hr2
          cases hr2
          exact h''
        | ret rr ρb =>
          have : turnW tc fb ρ2 = .out (.ret rr ρb) := by unfold turnW; rw [q2]; dsimp only; rw [q4]
          rw [this] at hr2
          cases hr2
          exact h''
        | brk ρb =>
          have : turnW tc fb ρ2 = .out (.nx ρb) := by unfold turnW; rw [q2]; dsimp only; rw [q4]
          rw [this] at hr2
          cases hr2
          exact h''
        | nx ρb =>
          have : turnW tc fb ρ2 = .on ρb := by unfold turnW; rw [q2]; dsimp only; rw [q4]
          rw [this] at hr2
          exact fun σb F4 H4 g4 p4 E4 => ⟨F4, ρb, g2.trans (g3.trans g4), p2.trans p4, E4, hr2⟩
        | cnt ρb =>
          have : turnW tc fb ρ2 = .on ρb := by unfold turnW; rw [q2]; dsimp only; rw [q4]
          rw [this] at hr2
          exact fun σb F4 H4 g4 p4 E4 => ⟨F4, ρb, g2.trans (g3.trans g4), p2.trans p4, E4, hr2⟩
end
end Ls
namespace Ls
open PySem PySem.Spec PyProof.Rows L2

inductive CRes where
  | stuck
  | exc (c : Str)
  | ok (r : Sl) (outs : List Sl)
abbrev DF := List Sl → CRes
def spM (C : Cof) (K : PySem.W.Frag) (n : Nat) (m : DF) : Sp := fun vs H Q E => vs.length = n ∧ ∃ F B args, ER K F B H (vs.map some) (args.map some) ∧ match m args with
  | .stuck => False
  | .exc c => ∀ F' H', Gd F B H F' H' → E (C c) none H'
  | .ok r outs => ∀ v F' H', Gd F B H F' H' → ER K F' B H' (vs.map some) (outs.map some) → RW K F' B H' (vs.map some) (outs.map some) v r.w → Q v H'
def outsF (pin : List Nat) (ρ : Env) : Nat → List Sl → Option (List Sl)
  | _, [] => some []
  | k, a :: as => if pin.contains k = true then (match ρ[k]? with
      | some (some s) => (outsF pin ρ (k + 1) as).map (s :: ·)
      | _ => none)
    else match a with
      | .val d => (outsF pin ρ (k + 1) as).map (.val d :: ·)
      | .mut _ => none
def bodyEnv (n : Nat) (args : List Sl) : Env := args.map some ++ List.replicate (n - args.length) none
def runB (pin : List Nat) (n : Nat) (fb : SF) : DF := fun args => match fb (bodyEnv n args) with
  | .nx ρ => (match outsF pin ρ 0 args with | some o => .ok (.val .none) o | none => .stuck)
  | .ret r ρ => (match outsF pin ρ 0 args with | some o => .ok r o | none => .stuck)
  | .exc c _ => .exc c
  | _ => .stuck
theorem outsF_len {pin : List Nat} {ρ : Env} : ∀ {k : Nat} {as os : List Sl}, outsF pin ρ k as = some os → os.length = as.length
  | _, [], _, h => by cases h; rfl
  | k, a :: as, os, h => by
    unfold outsF at h
    split at h
    · split at h
      · obtain ⟨o, h1, rfl⟩ := Option.map_eq_some_iff.mp h
        exact congrArg (· + 1) (outsF_len h1)
      · cases h
    · split at h
      · obtain ⟨o, h1, rfl⟩ := Option.map_eq_some_iff.mp h
        exact congrArg (· + 1) (outsF_len h1)
      · cases h
theorem outsF_get {pin : List Nat} {ρ : Env} : ∀ {k j : Nat} {as os : List Sl} {s : Sl}, outsF pin ρ k as = some os → os[j]? = some s → (k + j ∈ pin ∧ ρ[k + j]? = some (some s)) ∨ (∃ d, s = .val d ∧ as[j]? = some (.val d))
  | _, _, [], _, _, h, e => by cases h; simp at e
  | k, 0, a :: as, os, s, h, e => by
    unfold outsF at h
    split at h
    · rename_i hp
      split at h
      · rename_i s' hs
        obtain ⟨o, h1, rfl⟩ := Option.map_eq_some_iff.mp h
        simp at e; subst e
        exact .inl ⟨by simpa using hp, hs⟩
      · cases h
    · split at h
      · rename_i d
        obtain ⟨o, h1, rfl⟩ := Option.map_eq_some_iff.mp h
        simp at e; subst e
        exact .inr ⟨d, rfl, rfl⟩
      · cases h
  | k, j + 1, a :: as, os, s, h, e => by
    have go : ∀ {o : List Sl}, outsF pin ρ (k + 1) as = some o → o[j]? = some s → (k + (j + 1) ∈ pin ∧ ρ[k + (j + 1)]? = some (some s)) ∨ (∃ d, s = .val d ∧ (a :: as)[j + 1]? = some (.val d)) := fun {o} h1 e1 => by
      have := outsF_get h1 e1
      rw [show k + 1 + j = k + (j + 1) by omega] at this
      simpa using this
    unfold outsF at h
    split at h
    · split at h
      · obtain ⟨o, h1, rfl⟩ := Option.map_eq_some_iff.mp h
        exact go h1 (by simpa using e)
      · cases h
    · split at h
      · obtain ⟨o, h1, rfl⟩ := Option.map_eq_some_iff.mp h
        exact go h1 (by simpa using e)
      · cases h
theorem map_some_get {α : Type} {l : List α} {i : Nat} {x : α} : (l.map some)[i]? = some (some x) ↔ l[i]? = some x := by
  rw [List.getElem?_map]
  cases l[i]? <;> simp
section
variable {K : PySem.W.Frag} {F B F' : Addr → Prop} {H H' : Hp}
theorem start_get {N : List Str} {vs : List V} {i : Nat} {v : V} (h : vs[i]? = some v) : (L2.start N vs)[i]? = some (some v) := by
  have hi : i < vs.length := (List.getElem?_eq_some_iff.mp h).1
  unfold L2.start
  rw [List.getElem?_append_left (by simpa using hi)]
  exact map_some_get.mpr h
theorem bodyEnv_get {n i : Nat} {args : List Sl} {s : Sl} (h : (bodyEnv n args)[i]? = some (some s)) : args[i]? = some s := by
  unfold bodyEnv at h
  rw [List.getElem?_append] at h
  split at h
  · exact map_some_get.mp h
  · rw [List.getElem?_replicate] at h
    split at h <;> cases h
theorem ER.start {N : List Str} {vs : List V} {args : List Sl} (E : ER K F B H (vs.map some) (args.map some)) (hn : vs.length ≤ N.length) : ER K F B H (L2.start N vs) (bodyEnv N.length args) := by
  have hl : vs.length = args.length := by simpa using E.len
  refine ⟨?_, E.dom, E.domB, fun i d h => ?_, fun i ds h => ?_, fun i j ds es a hi hj h1 h2 => ?_⟩
  · unfold L2.start bodyEnv
    simp only [List.length_append, List.length_map, List.length_replicate]
    omega
  · obtain ⟨v, h1, h2⟩ := E.sl i d (map_some_get.mpr (bodyEnv_get h))
    exact ⟨v, start_get (map_some_get.mp h1), h2⟩
  · obtain ⟨a, us, h1, h2⟩ := E.mt i ds (map_some_get.mpr (bodyEnv_get h))
    exact ⟨a, us, start_get (map_some_get.mp h1), h2⟩
  · obtain ⟨b, _, q1, _⟩ := E.mt i ds (map_some_get.mpr (bodyEnv_get hi))
    obtain ⟨c, _, q2, _⟩ := E.mt j es (map_some_get.mpr (bodyEnv_get hj))
    have e1 := start_get (N := N) (map_some_get.mp q1)
    have e2 := start_get (N := N) (map_some_get.mp q2)
    rw [h1] at e1; cases e1
    rw [h2] at e2; cases e2
    exact E.inj i j ds es a (map_some_get.mpr (bodyEnv_get hi)) (map_some_get.mpr (bodyEnv_get hj)) q1 q2
theorem outs_ok {N : List Str} {pin : List Nat} {vs : List V} {args outs : List Sl} {σ : L2.St} {ρ : Env} (E : ER K F B H (vs.map some) (args.map some)) (g : Gd F B H F' H') (E' : ER K F' B H' σ ρ) (p : PinEq pin (L2.start N vs) σ)
    (e : outsF pin ρ 0 args = some outs) : ER K F' B H' (vs.map some) (outs.map some) ∧ ∀ a, NotMut σ ρ a → NotMut (vs.map some) (outs.map some) a := by
  have hl : vs.length = args.length := by simpa using E.len
  have hlo := outsF_len e
  -- a list among the outs is a pinned slot's
  have mu : ∀ {i : Nat} {ds : List PyData}, outs[i]? = some (.mut ds) → i ∈ pin ∧ ρ[i]? = some (some (.mut ds)) := fun {i ds} h => by
    rcases outsF_get e h with ⟨h1, h2⟩ | ⟨d, h1, _⟩
    · rw [Nat.zero_add] at h1 h2; exact ⟨h1, h2⟩
    · cases h1
  have slot : ∀ {i : Nat}, i ∈ pin → i < vs.length → ∃ v, vs[i]? = some v ∧ σ[i]? = some (some v) := fun {i} hi hlt => by
    have hv : vs[i]? = some vs[i] := List.getElem?_eq_getElem hlt
    exact ⟨_, hv, by rw [p i hi]; exact start_get hv⟩
  have lt : ∀ {i : Nat} {s : Sl}, outs[i]? = some s → i < vs.length := fun {i s} h => by rw [hl, ← hlo]; exact (List.getElem?_eq_some_iff.mp h).1
  refine ⟨⟨by simp [hl, hlo], E'.dom, E'.domB, fun i d h => ?_, fun i ds h => ?_, fun i j ds es a hi hj h1 h2 => ?_⟩, fun a na i ds h hs => ?_⟩
  · have h := map_some_get.mp h
    rcases outsF_get e h with ⟨h1, h2⟩ | ⟨d', h1, h2⟩
    · rw [Nat.zero_add] at h1 h2
      obtain ⟨v, q1, q2⟩ := slot h1 (lt h)
      obtain ⟨u, z1, z2⟩ := E'.sl i d h2
      rw [q2] at z1; cases z1
      exact ⟨v, map_some_get.mpr q1, z2⟩
    · cases h1
      obtain ⟨u, z1, z2⟩ := E.sl i d (map_some_get.mpr h2)
      exact ⟨u, z1, Rep.gd g z2⟩
  · have h := map_some_get.mp h
    obtain ⟨h1, h2⟩ := mu h
    obtain ⟨v, q1, q2⟩ := slot h1 (lt h)
    obtain ⟨a, us, z1, z2⟩ := E'.mt i ds h2
    rw [q2] at z1; cases z1
    exact ⟨a, us, map_some_get.mpr q1, z2⟩
  · have hi := map_some_get.mp hi
    have hj := map_some_get.mp hj
    obtain ⟨pi, ri⟩ := mu hi
    obtain ⟨pj, rj⟩ := mu hj
    obtain ⟨v, q1, q2⟩ := slot pi (lt hi)
    obtain ⟨u, q3, q4⟩ := slot pj (lt hj)
    have h1 := map_some_get.mp h1
    have h2 := map_some_get.mp h2
    rw [q1] at h1; cases h1
    rw [q3] at h2; cases h2
    exact E'.inj i j ds es a ri rj q2 q4
  · have h := map_some_get.mp h
    obtain ⟨pi, ri⟩ := mu h
    obtain ⟨v, q1, q2⟩ := slot pi (lt h)
    have hs := map_some_get.mp hs
    rw [q1] at hs; cases hs
    exact na i ds ri q2
end
structure RM (k : Nat) (A : Around) : Prop where
  hd : A.handled = none
  dp : A.depth + k + 5 < recursionLimit
  un : A.units + 5 * k + 200 < cLine
theorem RM.of {k j : Nat} {A : Around} (r : Room j A) (h : k ≤ 3 * j) : RM k A := ⟨r.hd, by have := r.dp; omega, by have := r.un; omega⟩
theorem RM.down {k : Nat} {A : Around} (r : RM (k + 1) A) (env : PySem.Env) : RM k (A.deeper env) where
  hd := r.hd
  dp := by
    have := r.dp
    show A.depth + 1 + k + 5 < recursionLimit
    omega
  un := by
    have := r.un
    show A.units + 3 + 5 * k + 200 < cLine
    omega
structure FnM (P : Program) (w : World) (K : PySem.W.Frag) (mg : Str → Option Value) (base : Heap) (k : Nat) (f : Addr) (fd : FuncData) (ps : List Str) (sp : Sp) : Prop where
  len : ∀ vs H Q E, sp vs H Q E → vs.length = ps.length
  run : ∀ (A : Around) (outer : List PySem.Env) (s : Shared) (H : Hp) (args : Args) (us : List Value) (vs : List V) (Q : VK) (E : XK), RM k A → Env0 P w K mg base A outer s H →
    BindsTo s fd args (ps.zip us) → Vals vs us → sp vs H Q E → codeAny (model P w) A (.call (.ref f) args) (CR (L2.CX P w) outer P w H s Q E) s
theorem FnM.ok {P : Program} {w : World} {K : PySem.W.Frag} {mg : Str → Option Value} {base : Heap} {j k : Nat} {f : Addr} {fd : FuncData} {ps : List Str} {sp : Sp} (F : FnM P w K mg base k f fd ps sp) (h : k ≤ 3 * j) : FnOk P w K mg base (L2.CX P w) j f fd ps sp where
  len := F.len
  run := fun A outer s H args us vs Q E hr => F.run A outer s H args us vs Q E (RM.of hr h)
section
variable {P : Program} {w : World} {K : PySem.W.Frag} {mg : Str → Option Value} {base : Heap} {x qual : Str} {st : Stmt} {f : Addr} {fd : FuncData} {N ps : List Str} {k : Nat} {sp : Sp}
theorem fn_m (G : Fun K x qual st f fd) (S : FnScope N ps (defScope st)) (len : ∀ vs H Q E, sp vs H Q E → vs.length = ps.length)
    (hbody : ∀ (cdv : Value) (A : Around) (outer : List PySem.Env) (s : Shared) (H : Hp) (vs : List V) (Q : VK) (E : XK), RM k (A.deeper (envOfC qual (defScope st) s.heap.objs.size f cdv)) → sp vs H Q E →
      ∃ t, PSs (cxOf (L2.CX P w) P w K mg base N qual (defScope st) f cdv A outer s H E) (defBody st) t ∧ t { nx := fun _ H' => Q .non H', rt := Q } (L2.start N vs) H) : FnM P w K mg base (k + 1) f fd ps sp where
  len := len
  run := by
    obtain ⟨oc, od, kV, doc, pm, an, cdv, ct, osl, rfl, lk, hcd⟩ := G.ex
    intro A outer s H args us vs Q E room en hbi rel wish
    have up := fun b o e => (en.bs b o e).1
    have KX := en.mod.kin.keeps up
    have lim := en.mod.nolimit.keeps up
    have kinds : ∀ y ∈ ps.zip us, (defScope st).names.lookup y.1 = some .local ∨ ((defScope st).names.lookup y.1 = some .cell ∧ ((cellsFrom (s.heap.objs.size + 1) (defScope st).names []).lookup y.1).isSome = true) := by
      rintro ⟨n, v⟩ hy
      exact (S.par n (List.of_mem_zip hy).1).imp id fun q => ⟨q, PySem.W.cellsFrom_some _ _ _ (.inl q)⟩
    refine codeAny_call_function (by have := room.dp; omega) (KX _ _ lk) rfl S.co S.gen rfl (PySem.W.codeRec_of KX hcd) (hbi _ _ _ _ (wpAny_newFunctionEnv_cells S.kind kinds ?_))
    rintro env rfl s1 x1
    obtain ⟨t, ht, hq⟩ := hbody cdv A outer s H vs Q E (room.down _) wish
    refine ⟨lim.keeps x1.toInCall.keep, codeAny_func (wpAny_mono (ht.run [] s1 (L2.start N vs) H _ (inv_start S room.hd en (len _ _ _ _ wish) rel x1) hq) ?_ fun _ _ z => z)⟩
    intro fl s' z
    match fl, z with
    | .next, ⟨σ', H', J, q⟩ => exact ⟨V.non, H', J.os, J.bare, J.base, J.hok, rfl, q⟩
    | .ret u, ⟨v, σ', H', J, rv, q⟩ => exact ⟨v, H', J.os, J.bare, J.base, J.hok, rv, q⟩
    | .brk, ⟨_, _, _, q⟩ => exact q.elim
    | .cont, ⟨_, _, _, q⟩ => exact q.elim
end
section
variable {X : Cx} {k : Nat} {f : Addr} {fd : FuncData} {ps : List Str} {sp : Sp} {E : L2.St → XK} {x : Str} {p pos : Pos} {e : Expr} {es : List Expr} {t : TA}
theorem pe_callM (F : FnM X.prog X.w X.K X.mg X.base k f fd ps sp) (hr : RM k X.A) (hg : Gl X x) (hm : X.mg x = some (.ref f)) (hk : PySem.W.keepIn X.K (.ref f) = true) (hb : Binds X.K fd ps []) (hx : ∀ σ, PassesAt (L2.CX X.prog X.w) X σ (E σ))
    (ha : PA X (e :: es) t) (hdb : (x == ("__debug__" : Str)) = false := by decide) (he : starEach (e :: es) X.env = (false, eval e X.env) :: starEach es X.env := by rfl) (hpl : (backTo pos (starEach es X.env)).any (·.1) = false := by rfl) :
    PE X (.Call (.Name x p) (e :: es) [] pos) (tCallS sp E t) := by
  constructor
  intro pins s σ H Q I h
  refine wpAny_Call_Name_kw (ld_glob I hg hm (PySem.W.callWith_K (h₀ := X.base) I.ok.mod.kin hk (thn (ha.run pos pins s σ H _ I h) ?_) he hpl) hdb)
  rintro us s1 ⟨vs, H1, I1, r, q⟩
  have hl : (us ++ []).length = ps.length := by rw [List.append_nil, ← r.length]; exact F.len _ _ _ _ q
  have b := hb s1 us I1.kIn hl
  rw [List.append_nil] at b
  refine ⟨I1.kIn, wpAny_call (codeAny_mono (F.run X.A X.stack s1 H1 ⟨us, []⟩ us vs Q (E σ) hr I1.env0 b r q) ?_)⟩
  intro r s' z
  match r, z with
  | .error e1, z => exact hx σ pins H1 s1 e1 s' I1 z
  | .ok (.ret u), z => exact I1.after z
  | .ok .next, z => exact z.elim
  | .ok .brk, z => exact z.elim
  | .ok .cont, z => exact z.elim
end
section
variable {P : Program} {w : World} {K : PySem.W.Frag} {mg : Str → Option Value} {base : Heap} {x qual : Str} {st : Stmt} {f : Addr} {fd : FuncData} {N ps : List Str} {k n : Nat} {C : Cof} {pin : List Nat} {fb : SF}
theorem ls_fn (G : Fun K x qual st f fd) (S : FnScope N ps (defScope st)) (hn : ps.length = n := by rfl)
    (body : ∀ (cdv : Value) (A : Around) (outer : List PySem.Env) (s : Shared) (H : Hp) (E : XK), RM k (A.deeper (envOfC qual (defScope st) s.heap.objs.size f cdv)) →
      PSsr (cxOf (L2.CX P w) P w K mg base N qual (defScope st) f cdv A outer s H E) C (fun cls d _ H' => E cls d H') pin (defBody st) fb) :
    FnM P w K mg base (k + 1) f fd ps (spM C K n (runB pin N.length fb)) := by
  have hN : ps.length ≤ N.length := by
    have := congrArg List.length S.pre
    rw [List.length_take] at this
    omega
  refine fn_m G S (fun vs H Q E h => ?_) (fun cdv A outer s H vs Q E hr h => ?_)
  · rw [hn]; exact h.1
  · obtain ⟨hv, F, B, args, E0, hq⟩ := h
    obtain ⟨t, ht, hs⟩ := (body cdv A outer s H E hr).ex
    refine ⟨t, ht, hs F B _ H _ _ (E0.start (N := N) (by omega)) ?_⟩
    unfold runB at hq
    cases h1 : fb (bodyEnv N.length args) with
    | stuck => rw [h1] at hq; exact hq
    | brk ρ => rw [h1] at hq; exact hq.elim
    | cnt ρ => rw [h1] at hq; exact hq.elim
    | exc c ρ => rw [h1] at hq; exact fun σ' F' H' g _ _ => hq F' H' g
    | nx ρ =>
      rw [h1] at hq
      dsimp only at hq
      refine fun σ' F' H' g p E' => ?_
      cases h2 : outsF pin ρ 0 args with
      | none => rw [h2] at hq; exact hq.elim
      | some outs =>
        rw [h2] at hq
        obtain ⟨E2, _⟩ := outs_ok E0 g E' p h2
        exact hq .non F' H' g E2 .non
    | ret r ρ =>
      rw [h1] at hq
      dsimp only at hq
      refine fun v σ' F' H' g p E' rr => ?_
      cases h2 : outsF pin ρ 0 args with
      | none => rw [h2] at hq; exact hq.elim
      | some outs =>
        rw [h2] at hq
        obtain ⟨E2, nm⟩ := outs_ok E0 g E' p h2
        refine hq v F' H' g E2 ?_
        cases r with
        | val d => exact rr
        | «mut» ds =>
          obtain ⟨a, us, e, h3, nF, nB, nM, ra⟩ := rr
          exact ⟨a, us, e, h3, nF, nB, nm a nM, ra⟩
end

def argsOf (pin : List Nat) (ρ : Env) : Nat → List W → Option (List Sl)
  | _, [] => some []
  | k, .val d :: ws => (argsOf pin ρ (k + 1) ws).map (.val d :: ·)
  | k, .tmp ds :: ws => if pin.contains k = true then (argsOf pin ρ (k + 1) ws).map (.mut ds :: ·) else none
  | k, .loc i :: ws => if pin.contains k = true then (match ρ[i]? with
    | some (some s) => (argsOf pin ρ (k + 1) ws).map (s :: ·)
    | _ => none) else none
def locsOf : List W → List Nat
  | [] => []
  | .loc i :: ws => i :: locsOf ws
  | _ :: ws => locsOf ws
def backL : List W → List Sl → Env → Env
  | .loc i :: ws, o :: os, ρ => (backL ws os ρ).set i (some o)
  | _ :: ws, _ :: os, ρ => backL ws os ρ
  | _, _, ρ => ρ
def dropL : List W → Env → Env
  | .loc i :: ws, ρ => (dropL ws ρ).set i none
  | _ :: ws, ρ => dropL ws ρ
  | [], ρ => ρ
def eCall (pin : List Nat) (m : DF) (fa : AF) : EF := fun ρ => (fa ρ).bind fun ws ρ1 => match argsOf pin ρ1 0 ws with
  | none => .stuck
  | some args => if (locsOf ws).Nodup then (match m args with
    | .stuck => .stuck
    | .exc c => .exc c (dropL ws ρ1)
    | .ok r outs => if outs.length = ws.length then .ok r.w (backL ws outs ρ1) else .stuck) else .stuck
theorem argsOf_len {pin : List Nat} {ρ : Env} : ∀ {k : Nat} {ws : List W} {as : List Sl}, argsOf pin ρ k ws = some as → as.length = ws.length
  | _, [], _, h => by cases h; rfl
  | k, .val d :: ws, as, h => by
    obtain ⟨o, h1, rfl⟩ := Option.map_eq_some_iff.mp h
    exact congrArg (· + 1) (argsOf_len h1)
  | k, .tmp ds :: ws, as, h => by
    unfold argsOf at h
    split at h
    · obtain ⟨o, h1, rfl⟩ := Option.map_eq_some_iff.mp h
      exact congrArg (· + 1) (argsOf_len h1)
    · cases h
  | k, .loc i :: ws, as, h => by
    unfold argsOf at h
    split at h
    · split at h
      · obtain ⟨o, h1, rfl⟩ := Option.map_eq_some_iff.mp h
        exact congrArg (· + 1) (argsOf_len h1)
      · cases h
    · cases h
def ArgIs (ρ : Env) : W → Sl → Prop
  | .val d, s => s = .val d
  | .tmp ds, s => s = .mut ds
  | .loc i, s => ρ[i]? = some (some s)
theorem argsOf_get {pin : List Nat} {ρ : Env} : ∀ {k j : Nat} {ws : List W} {as : List Sl} {s : Sl}, argsOf pin ρ k ws = some as → as[j]? = some s → ∃ w, ws[j]? = some w ∧ ArgIs ρ w s
  | _, _, [], _, _, h, e => by cases h; simp at e
  | k, 0, .val d :: ws, as, s, h, e => by
    obtain ⟨o, h1, rfl⟩ := Option.map_eq_some_iff.mp h
    simp at e; subst e; exact ⟨_, rfl, rfl⟩
  | k, j + 1, .val d :: ws, as, s, h, e => by
    obtain ⟨o, h1, rfl⟩ := Option.map_eq_some_iff.mp h
    simpa using argsOf_get h1 (by simpa using e)
  | k, 0, .tmp ds :: ws, as, s, h, e => by
    unfold argsOf at h
    split at h
    · obtain ⟨o, h1, rfl⟩ := Option.map_eq_some_iff.mp h
      simp at e; subst e; exact ⟨_, rfl, rfl⟩
    · cases h
  | k, j + 1, .tmp ds :: ws, as, s, h, e => by
    unfold argsOf at h
    split at h
    · obtain ⟨o, h1, rfl⟩ := Option.map_eq_some_iff.mp h
      simpa using argsOf_get h1 (by simpa using e)
    · cases h
  | k, 0, .loc i :: ws, as, s, h, e => by
    unfold argsOf at h
    split at h
    · split at h
      · rename_i s' hs
        obtain ⟨o, h1, rfl⟩ := Option.map_eq_some_iff.mp h
        simp at e; subst e; exact ⟨_, rfl, hs⟩
      · cases h
    · cases h
  | k, j + 1, .loc i :: ws, as, s, h, e => by
    unfold argsOf at h
    split at h
    · split at h
      · obtain ⟨o, h1, rfl⟩ := Option.map_eq_some_iff.mp h
        simpa using argsOf_get h1 (by simpa using e)
      · cases h
    · cases h
theorem locsOf_mem : ∀ {ws : List W} {i : Nat}, i ∈ locsOf ws ↔ ∃ k : Nat, ws[k]? = some (W.loc i)
  | [], i => by simp [locsOf]
  | .val d :: ws, i => by
    unfold locsOf
    rw [locsOf_mem]
    exact ⟨fun ⟨k, h⟩ => ⟨k + 1, by simpa using h⟩, fun ⟨k, h⟩ => by cases k with | zero => simp at h | succ k => exact ⟨k, by simpa using h⟩⟩
  | .tmp d :: ws, i => by
    unfold locsOf
    rw [locsOf_mem]
    exact ⟨fun ⟨k, h⟩ => ⟨k + 1, by simpa using h⟩, fun ⟨k, h⟩ => by cases k with | zero => simp at h | succ k => exact ⟨k, by simpa using h⟩⟩
  | .loc d :: ws, i => by
    unfold locsOf
    rw [List.mem_cons, locsOf_mem]
    refine ⟨fun h => ?_, fun ⟨k, h⟩ => ?_⟩
    · rcases h with rfl | ⟨k, h⟩
      · exact ⟨0, rfl⟩
      · exact ⟨k + 1, by simpa using h⟩
    · cases k with
      | zero => simp at h; exact .inl h.symm
      | succ k => exact .inr ⟨k, by simpa using h⟩
theorem locs_inj : ∀ {ws : List W}, (locsOf ws).Nodup → ∀ {k l i : Nat}, ws[k]? = some (.loc i) → ws[l]? = some (.loc i) → k = l
  | [], _, k, l, i, h, _ => by simp at h
  | .val d :: ws, nd, 0, l, i, h, _ => by simp at h
  | .val d :: ws, nd, k + 1, 0, i, _, h => by simp at h
  | .val d :: ws, nd, k + 1, l + 1, i, h1, h2 => congrArg (· + 1) (locs_inj (ws := ws) nd (by simpa using h1) (by simpa using h2))
  | .tmp d :: ws, nd, 0, l, i, h, _ => by simp at h
  | .tmp d :: ws, nd, k + 1, 0, i, _, h => by simp at h
  | .tmp d :: ws, nd, k + 1, l + 1, i, h1, h2 => congrArg (· + 1) (locs_inj (ws := ws) nd (by simpa using h1) (by simpa using h2))
  | .loc d :: ws, nd, 0, 0, i, _, _ => rfl
  | .loc d :: ws, nd, 0, l + 1, i, h1, h2 => by
    have nd : (d :: locsOf ws).Nodup := nd
    simp at h1; subst h1
    exact absurd (locsOf_mem.mpr ⟨l, by simpa using h2⟩) (List.nodup_cons.mp nd).1
  | .loc d :: ws, nd, k + 1, 0, i, h1, h2 => by
    have nd : (d :: locsOf ws).Nodup := nd
    simp at h2; subst h2
    exact absurd (locsOf_mem.mpr ⟨k, by simpa using h1⟩) (List.nodup_cons.mp nd).1
  | .loc d :: ws, nd, k + 1, l + 1, i, h1, h2 => by
    have nd : (d :: locsOf ws).Nodup := nd
    exact congrArg (· + 1) (locs_inj (ws := ws) (List.nodup_cons.mp nd).2 (by simpa using h1) (by simpa using h2))
theorem backL_len : ∀ {ws : List W} {os : List Sl} {ρ : Env}, (backL ws os ρ).length = ρ.length
  | [], os, ρ => by cases os <;> rfl
  | .val d :: ws, [], ρ => rfl
  | .tmp d :: ws, [], ρ => rfl
  | .loc d :: ws, [], ρ => rfl
  | .val d :: ws, o :: os, ρ => backL_len (ws := ws)
  | .tmp d :: ws, o :: os, ρ => backL_len (ws := ws)
  | .loc d :: ws, o :: os, ρ => by
    unfold backL
    rw [List.length_set]
    exact backL_len
theorem backL_get : ∀ {ws : List W} {os : List Sl} {ρ : Env} {j : Nat} {s : Sl}, os.length = ws.length → (backL ws os ρ)[j]? = some (some s) →
    (∃ k : Nat, ws[k]? = some (W.loc j) ∧ os[k]? = some s) ∨ ((∀ k : Nat, ws[k]? ≠ some (W.loc j)) ∧ ρ[j]? = some (some s))
  | [], [], ρ, j, s, _, h => .inr ⟨fun k => by simp, h⟩
  | .val d :: ws, o :: os, ρ, j, s, hl, h => by
    rcases backL_get (ws := ws) (os := os) (by simpa using hl) h with ⟨k, h1, h2⟩ | ⟨h1, h2⟩
    · exact .inl ⟨k + 1, by simpa using h1, by simpa using h2⟩
    · refine .inr ⟨fun k => ?_, h2⟩
      cases k with
      | zero => simp
      | succ k => simpa using h1 k
  | .tmp d :: ws, o :: os, ρ, j, s, hl, h => by
    rcases backL_get (ws := ws) (os := os) (by simpa using hl) h with ⟨k, h1, h2⟩ | ⟨h1, h2⟩
    · exact .inl ⟨k + 1, by simpa using h1, by simpa using h2⟩
    · refine .inr ⟨fun k => ?_, h2⟩
      cases k with
      | zero => simp
      | succ k => simpa using h1 k
  | .loc i :: ws, o :: os, ρ, j, s, hl, h => by
    unfold backL at h
    rcases getElem?_set_some h with ⟨rfl, q⟩ | ⟨ne, q⟩
    · cases q; exact .inl ⟨0, rfl, rfl⟩
    · rcases backL_get (ws := ws) (os := os) (by simpa using hl) q with ⟨k, h1, h2⟩ | ⟨h1, h2⟩
      · exact .inl ⟨k + 1, by simpa using h1, by simpa using h2⟩
      · refine .inr ⟨fun k => ?_, h2⟩
        cases k with
        | zero => simpa using Ne.symm ne
        | succ k => simpa using h1 k
section
variable {K : PySem.W.Frag} {F F' B B' : Addr → Prop} {H H' : Hp} {σ : L2.St} {ρ : Env}
theorem RW.less {v : V} {w : W} (r : RW K F B H σ ρ v w) (h : ∀ b, B' b → B b) : RW K F B' H σ ρ v w := by
  cases w with
  | val d => exact r
  | loc i => exact r
  | tmp ds =>
    obtain ⟨a, us, e, h3, nF, nB, nM, ra⟩ := r
    exact ⟨a, us, e, h3, nF, fun z => nB (h a z), nM, ra⟩
theorem RWs.get : ∀ {B : Addr → Prop} {vs : List V} {ws : List W} {j : Nat} {w : W}, RWs K F B H σ ρ vs ws → ws[j]? = some w → ∃ v, vs[j]? = some v ∧ RW K F B H σ ρ v w
  | _, [], [], _, _, _, e => by simp at e
  | _, v :: vs, w :: ws, 0, _, r, e => by simp at e; subst e; exact ⟨v, rfl, r.1⟩
  | B, v :: vs, w :: ws, j + 1, u, r, e => by
    obtain ⟨z, h1, h2⟩ := RWs.get r.2 (j := j) (by simpa using e)
    refine ⟨z, by simpa using h1, h2.less fun b h => ?_⟩
    cases w <;> first | exact h | exact .inl h
  | _, [], w :: ws, _, _, r, _ => r.elim
  | _, v :: vs, [], _, _, r, _ => r.elim
theorem RWs.len : ∀ {B : Addr → Prop} {vs : List V} {ws : List W}, RWs K F B H σ ρ vs ws → vs.length = ws.length
  | _, [], [], _ => rfl
  | _, v :: vs, w :: ws, r => congrArg (· + 1) (RWs.len r.2)
  | _, [], w :: ws, r => r.elim
  | _, v :: vs, [], r => r.elim
theorem RWs.apart : ∀ {B : Addr → Prop} {vs : List V} {ws : List W} {j l : Nat} {ds es : List PyData} {v : V}, RWs K F B H σ ρ vs ws → ws[j]? = some (.tmp ds) → ws[l]? = some (.tmp es) → vs[j]? = some v → vs[l]? = some v → j = l
  | _, [], [], _, _, _, _, _, _, e, _, _, _ => by simp at e
  | _, v :: vs, w :: ws, 0, 0, _, _, _, _, _, _, _, _ => rfl
  | B, v :: vs, w :: ws, 0, l + 1, ds, es, u, r, e1, e2, h1, h2 => by
    simp at e1 h1; subst e1 h1
    obtain ⟨z, q1, q2⟩ := RWs.get r.2 (j := l) (by simpa using e2)
    have h2 : vs[l]? = some v := by simpa using h2
    rw [h2] at q1; cases q1
    obtain ⟨a, us, rfl, _, _, nB, _⟩ := q2
    exact absurd (Or.inr rfl) nB
  | B, v :: vs, w :: ws, j + 1, 0, ds, es, u, r, e1, e2, h1, h2 => by
    simp at e2 h2; subst e2 h2
    obtain ⟨z, q1, q2⟩ := RWs.get r.2 (j := j) (by simpa using e1)
    have h1 : vs[j]? = some v := by simpa using h1
    rw [h1] at q1; cases q1
    obtain ⟨a, us, rfl, _, _, nB, _⟩ := q2
    exact absurd (Or.inr rfl) nB
  | B, v :: vs, w :: ws, j + 1, l + 1, ds, es, u, r, e1, e2, h1, h2 => congrArg (· + 1) (RWs.apart r.2 (by simpa using e1) (by simpa using e2) (by simpa using h1) (by simpa using h2))
  | _, [], w :: ws, _, _, _, _, _, r, _, _, _, _ => r.elim
  | _, v :: vs, [], _, _, _, _, _, r, _, _, _, _ => r.elim
def callB (B : Addr → Prop) (σ : L2.St) (ρ : Env) (ws : List W) : Addr → Prop := fun b => B b ∨ ∃ i ds, ρ[i]? = some (some (.mut ds)) ∧ σ[i]? = some (some (.ref b)) ∧ i ∉ locsOf ws
theorem call_in {pin : List Nat} {vs : List V} {ws : List W} {args : List Sl} (E : ER K F B H σ ρ) (r : RWs K F B H σ ρ vs ws) (e : argsOf pin ρ 0 ws = some args) (nd : (locsOf ws).Nodup) : ER K F (callB B σ ρ ws) H (vs.map some) (args.map some) := by
  have hl : vs.length = args.length := by rw [r.len, argsOf_len e]
  -- a list among the arguments: where it stands
  have mu : ∀ {j : Nat} {ds : List PyData}, args[j]? = some (.mut ds) → ∃ w v, ws[j]? = some w ∧ vs[j]? = some v ∧ ((∃ i, w = .loc i ∧ ρ[i]? = some (some (.mut ds)) ∧ σ[i]? = some (some v)) ∨ (w = .tmp ds ∧ RW K F B H σ ρ v (.tmp ds))) := fun {j ds} h => by
    obtain ⟨w, hw, a⟩ := argsOf_get e h
    obtain ⟨v, hv, rv⟩ := r.get hw
    refine ⟨w, v, hw, hv, ?_⟩
    cases w with
    | val d => cases a
    | tmp es => cases a; exact .inr ⟨rfl, rv⟩
    | loc i => exact .inl ⟨i, rfl, a, rv⟩
  refine ⟨by simp [hl], E.dom, ?_, fun j d h => ?_, fun j ds h => ?_, fun j l ds es a hj hk h1 h2 => ?_⟩
  · rintro b (h | ⟨i, ds, h1, h2, _⟩)
    · exact E.domB b h
    · obtain ⟨a, us, z1, z2, _⟩ := E.mt i ds h1
      rw [h2] at z1; cases z1
      exact ⟨_, z2⟩
  · obtain ⟨w, hw, a⟩ := argsOf_get e (map_some_get.mp h)
    obtain ⟨v, hv, rv⟩ := r.get hw
    refine ⟨v, map_some_get.mpr hv, ?_⟩
    cases w with
    | val d' => cases a; exact rv
    | tmp es => cases a
    | loc i =>
      obtain ⟨u, q1, q2⟩ := E.sl i d a
      have rv : σ[i]? = some (some v) := rv
      rw [rv] at q1; cases q1
      exact q2
  · obtain ⟨w, v, hw, hv, z⟩ := mu (map_some_get.mp h)
    rcases z with ⟨i, rfl, h1, h2⟩ | ⟨rfl, rv⟩
    · obtain ⟨a, us, q1, q2, q3, q4, q5⟩ := E.mt i ds h1
      rw [h2] at q1; cases q1
      refine ⟨a, us, map_some_get.mpr hv, q2, q3, ?_, q5⟩
      rintro (z | ⟨j', es, y1, y2, y3⟩)
      · exact q4 z
      · have := E.inj j' i es ds a y1 h1 y2 h2
        subst this
        exact y3 (locsOf_mem.mpr ⟨j, hw⟩)
    · obtain ⟨a, us, rfl, q2, q3, q4, q5, q6⟩ := rv
      refine ⟨a, us, map_some_get.mpr hv, q2, q3, ?_, q6⟩
      rintro (z | ⟨j', es, y1, y2, y3⟩)
      · exact q4 z
      · exact q5 j' es y1 y2
  · obtain ⟨w1, v1, hw1, hv1, z1⟩ := mu (map_some_get.mp hj)
    obtain ⟨w2, v2, hw2, hv2, z2⟩ := mu (map_some_get.mp hk)
    have h1 := map_some_get.mp h1
    have h2 := map_some_get.mp h2
    rw [hv1] at h1; cases h1
    rw [hv2] at h2; cases h2
    rcases z1 with ⟨i, rfl, a1, a2⟩ | ⟨rfl, r1⟩
    · rcases z2 with ⟨i', rfl, b1, b2⟩ | ⟨rfl, r2⟩
      · have := E.inj i i' ds es a a1 b1 a2 b2
        subst this
        exact locs_inj nd hw1 hw2
      · obtain ⟨a', us, e', _, _, _, nM, _⟩ := r2
        cases e'
        exact absurd a2 (nM i ds a1)
    · rcases z2 with ⟨i', rfl, b1, b2⟩ | ⟨rfl, r2⟩
      · obtain ⟨a', us, e', _, _, _, nM, _⟩ := r1
        cases e'
        exact absurd b2 (nM i' es b1)
      · exact r.apart hw1 hw2 hv1 hv2
theorem call_out {vs : List V} {ws : List W} {outs : List Sl} {r : Sl} {v : V} (E : ER K F B H σ ρ) (rs : RWs K F B H σ ρ vs ws) (nd : (locsOf ws).Nodup) (hlo : outs.length = ws.length) (g : Gd F (callB B σ ρ ws) H F' H')
    (E' : ER K F' (callB B σ ρ ws) H' (vs.map some) (outs.map some)) (rr : RW K F' (callB B σ ρ ws) H' (vs.map some) (outs.map some) v r.w) :
    Gd F B H F' H' ∧ ER K F' B H' σ (backL ws outs ρ) ∧ RW K F' B H' σ (backL ws outs ρ) v r.w := by
  have hB : ∀ b, B b → callB B σ ρ ws b := fun b h => .inl h
  have g0 : Gd F B H F' H' := g.less hB
  -- a slot behind the call: handed in, or as it was
  have look : ∀ {j : Nat} {s : Sl}, (backL ws outs ρ)[j]? = some (some s) → (∃ (k : Nat) (u : V), ws[k]? = some (W.loc j) ∧ outs[k]? = some s ∧ vs[k]? = some u ∧ σ[j]? = some (some u)) ∨ (j ∉ locsOf ws ∧ ρ[j]? = some (some s)) := fun {j s} h => by
    rcases backL_get hlo h with ⟨k, h1, h2⟩ | ⟨h1, h2⟩
    · obtain ⟨u, q1, q2⟩ := rs.get h1
      exact .inl ⟨k, u, h1, h2, q1, q2⟩
    · exact .inr ⟨fun z => by obtain ⟨k, q⟩ := locsOf_mem.mp z; exact h1 k q, h2⟩
  -- a list that was not handed in
  have old : ∀ {j : Nat} {ds : List PyData}, j ∉ locsOf ws → ρ[j]? = some (some (.mut ds)) → ∃ a us, σ[j]? = some (some (.ref a)) ∧ H' a = some (.lst us) ∧ ¬ F' a ∧ ¬ B a ∧ callB B σ ρ ws a ∧ RepA K F' H' us ds := fun {j ds} h1 h2 => by
    obtain ⟨a, us, q1, q2, q3, q4, q5⟩ := E.mt j ds h2
    have cb : callB B σ ρ ws a := .inr ⟨j, ds, h2, q1, h1⟩
    exact ⟨a, us, q1, g.st a _ (.inr cb) q2, fun z => q3 (g.pr a cb z), q4, cb, RepA.gd g q5⟩
  -- one that was
  have new : ∀ {k : Nat} {u : V} {ds : List PyData}, vs[k]? = some u → outs[k]? = some (.mut ds) → ∃ a us, u = .ref a ∧ H' a = some (.lst us) ∧ ¬ F' a ∧ ¬ callB B σ ρ ws a ∧ RepA K F' H' us ds := fun {k u ds} h1 h2 => by
    obtain ⟨a, us, q1, q2, q3, q4, q5⟩ := E'.mt k ds (map_some_get.mpr h2)
    have q1 := map_some_get.mp q1
    rw [h1] at q1; cases q1
    exact ⟨a, us, rfl, q2, q3, q4, q5⟩
  have EE : ER K F' B H' σ (backL ws outs ρ) := by
    refine ⟨by rw [backL_len]; exact E.len, E'.dom, fun b h => E'.domB b (hB b h), fun j d h => ?_, fun j ds h => ?_, fun j l ds es a hj hk z1 z2 => ?_⟩
    · rcases look h with ⟨k, u, h1, h2, h3, h4⟩ | ⟨h1, h2⟩
      · obtain ⟨u', q1, q2⟩ := E'.sl k d (map_some_get.mpr h2)
        have q1 := map_some_get.mp q1
        rw [h3] at q1; cases q1
        exact ⟨u, h4, q2⟩
      · obtain ⟨u', q1, q2⟩ := E.sl j d h2
        exact ⟨u', q1, Rep.gd g0 q2⟩
    · rcases look h with ⟨k, u, h1, h2, h3, h4⟩ | ⟨h1, h2⟩
      · obtain ⟨a, us, rfl, q2, q3, q4, q5⟩ := new h3 h2
        exact ⟨a, us, h4, q2, q3, fun z => q4 (hB a z), q5⟩
      · obtain ⟨a, us, q1, q2, q3, q4, _, q5⟩ := old h1 h2
        exact ⟨a, us, q1, q2, q3, q4, q5⟩
    · rcases look hj with ⟨k, u, h1, h2, h3, h4⟩ | ⟨h1, h2⟩
      · rcases look hk with ⟨k', u', y1, y2, y3, y4⟩ | ⟨y1, y2⟩
        · rw [h4] at z1; cases z1
          rw [y4] at z2; cases z2
          have := E'.inj k k' ds es a (map_some_get.mpr h2) (map_some_get.mpr y2) (map_some_get.mpr h3) (map_some_get.mpr y3)
          subst this
          rw [h1] at y1; cases y1; rfl
        · rw [h4] at z1; cases z1
          obtain ⟨a1, _, q1, _, _, q4, _⟩ := new h3 h2
          cases q1
          obtain ⟨a2, _, p1, _, _, _, p5, _⟩ := old y1 y2
          rw [z2] at p1; cases p1
          exact absurd p5 q4
      · rcases look hk with ⟨k', u', y1, y2, y3, y4⟩ | ⟨y1, y2⟩
        · rw [y4] at z2; cases z2
          obtain ⟨a1, _, q1, _, _, q4, _⟩ := new y3 y2
          cases q1
          obtain ⟨a2, _, p1, _, _, _, p5, _⟩ := old h1 h2
          rw [z1] at p1; cases p1
          exact absurd p5 q4
        · exact E.inj j l ds es a h2 y2 z1 z2
  refine ⟨g0, EE, ?_⟩
  cases r with
  | val d => exact rr
  | «mut» ds =>
    obtain ⟨a, us, rfl, q2, q3, q4, q5, q6⟩ := rr
    refine ⟨a, us, rfl, q2, q3, fun z => q4 (hB a z), fun j es h hs => ?_, q6⟩
    rcases look h with ⟨k, u, h1, h2, h3, h4⟩ | ⟨h1, h2⟩
    · rw [h4] at hs; cases hs
      exact q5 k es (map_some_get.mpr h2) (map_some_get.mpr h3)
    · exact q4 (.inr ⟨j, es, h2, hs, h1⟩)
theorem dropL_ok {ws : List W} (E : ER K F B H σ ρ) : ER K F B H σ (dropL ws ρ) ∧ ∀ j s, (dropL ws ρ)[j]? = some (some s) → j ∉ locsOf ws ∧ ρ[j]? = some (some s) := by
  induction ws with
  | nil => exact ⟨E, fun j s h => ⟨by simp [locsOf], h⟩⟩
  | cons w ws ih =>
    obtain ⟨h1, h2⟩ := ih
    cases w with
    | val d => exact ⟨h1, h2⟩
    | tmp d => exact ⟨h1, h2⟩
    | loc i =>
      refine ⟨ER.unset h1, fun j s h => ?_⟩
      unfold dropL at h
      rcases getElem?_set_some h with ⟨rfl, q⟩ | ⟨ne, q⟩
      · cases q
      · obtain ⟨z1, z2⟩ := h2 j s q
        exact ⟨by unfold locsOf; simp [ne, z1], z2⟩
theorem call_exc {ws : List W} (E : ER K F B H σ ρ) (g : Gd F (callB B σ ρ ws) H F' H') (dom : ∀ b, F' b → ∃ o, H' b = some o) : Gd F B H F' H' ∧ ER K F' B H' σ (dropL ws ρ) := by
  have hB : ∀ b, B b → callB B σ ρ ws b := fun b h => .inl h
  have g0 : Gd F B H F' H' := g.less hB
  obtain ⟨E1, h1⟩ := dropL_ok (ws := ws) E
  refine ⟨g0, E1.len, dom, fun b h => ?_, fun j d h => ?_, fun j ds h => ?_, E1.inj⟩
  · obtain ⟨o, e⟩ := E.domB b h
    exact ⟨o, g0.st b o (.inr h) e⟩
  · obtain ⟨u, q1, q2⟩ := E1.sl j d h
    exact ⟨u, q1, Rep.gd g0 q2⟩
  · obtain ⟨z1, z2⟩ := h1 j _ h
    obtain ⟨a, us, q1, q2, q3, q4, q5⟩ := E.mt j ds z2
    have cb : callB B σ ρ ws a := .inr ⟨j, ds, z2, q1, z1⟩
    exact ⟨a, us, q1, g.st a _ (.inr cb) q2, fun z => q3 (g.pr a cb z), q4, RepA.gd g q5⟩
end
structure Kn (P : Program) (w : World) (K : PySem.W.Frag) (mg : Str → Option Value) (base : Heap) (C : Cof) (k : Nat) (x : Str) (n : Nat) (m : DF) : Prop where
  ex : ∃ (f : Addr) (fd : FuncData) (ps : List Str), FnM P w K mg base k f fd ps (spM C K n m) ∧ mg x = some (.ref f) ∧ PySem.W.keepIn K (.ref f) = true ∧ Binds K fd ps []
section
variable {X : Cx} {C : Cof} {Z : WX} {k n : Nat} {m : DF} {pin : List Nat} {x : Str} {p pos : Pos} {e : Expr} {es : List Expr} {fa : AF}
theorem r_call (pin : List Nat) (G : Kn X.prog X.w X.K X.mg X.base C k x n m) (hr : RM k X.A) (tk : Takes X Z) (ha : PAr X C Z (e :: es) fa) (hg : Gl X x := by rfl) (hn : (e :: es).length = n := by rfl) (hdb : (x == ("__debug__" : Str)) = false := by decide)
    (he : starEach (e :: es) X.env = (false, eval e X.env) :: starEach es X.env := by rfl) (hpl : (backTo pos (starEach es X.env)).any (·.1) = false := by rfl) (hl : ∀ ρ ws ρ', fa ρ = .ok ws ρ' → ws.length = n) : PEr X C Z (.Call (.Name x p) (e :: es) [] pos) (eCall pin m fa) := by
  obtain ⟨f, fd, ps, FO, hm, hk, hb⟩ := G.ex
  obtain ⟨t, ht, hs⟩ := ha.ex
  refine ⟨_, pe_callM FO hr hg hm hk hb (fun σ => passAt tk σ) ht hdb he hpl, fun F B σ H ρ E => ?_⟩
  refine EGo.bindA (T := fun vs H1 Q => spM C X.K n m vs H1 Q (WE Z σ)) (hs F B σ H ρ E) (fun Q q => q) fun vs ws ρ1 F1 H1 hfa g1 E1 rs => ?_
  have hvl : vs.length = n := by rw [rs.len]; exact hl _ _ _ hfa
  cases h1 : argsOf pin ρ1 0 ws with
  | none => trivial
  | some args =>
    dsimp only
    split
    · rename_i nd
      have EI := call_in E1 rs h1 nd
      cases h2 : m args with
      | stuck => trivial
      | exc c =>
        refine fun xx Q => ⟨hvl, F1, _, args, EI, ?_⟩
        rw [h2]
        intro F2 H2 g2
        -- the frozen part that is there
        have gd : Gd F1 (callB B σ ρ1 ws) H1 (fun b => F2 b ∧ ∃ o, H2 b = some o) H2 := ⟨fun b h => ⟨g2.sub b h, by obtain ⟨o, e⟩ := E1.dom b h; exact ⟨o, g2.st b o (.inl h) e⟩⟩, g2.st, fun b h z => g2.pr b h z.1⟩
        obtain ⟨q1, q2⟩ := call_exc E1 gd fun b h => h.2
        exact xx _ H2 q1 q2
      | ok r outs =>
        dsimp only
        split
        · rename_i hlo
          refine fun Q hQ => ⟨hvl, F1, _, args, EI, ?_⟩
          rw [h2]
          intro v F2 H2 g2 E2 r2
          obtain ⟨q1, q2, q3⟩ := call_out E1 rs nd hlo g2 E2 r2
          exact hQ v F2 H2 q1 q2 q3
        · trivial
    · trivial
def AN (fa : AF) (n : Nat) : Prop := ∀ ρ ws ρ', fa ρ = .ok ws ρ' → ws.length = n
theorem an_nil : AN aNil 0 := fun ρ ws ρ' h => by cases h; rfl
theorem an_cons {f : EF} {fa : AF} {n : Nat} (h : AN fa n) : AN (aCons f fa) (n + 1) := fun ρ ws ρ' e => by
  unfold aCons at e
  cases h1 : f ρ with
  | stuck => rw [h1] at e; cases e
  | exc c r => rw [h1] at e; cases e
  | ok w r =>
    rw [h1] at e
    dsimp only [Res.bind] at e
    cases h2 : fa r with
    | stuck => rw [h2] at e; cases e
    | exc c r => rw [h2] at e; cases e
    | ok ws' r' =>
      rw [h2] at e
      cases e
      exact congrArg (· + 1) (h _ _ _ h2)
end
end Ls
namespace Ls
open PySem PySem.Spec PyProof.Rows L2

section
variable {X : Cx} {C : Cof} {Z : WX} {scope : Scope} {tg elt iter : Expr} {ifs : List Expr} {vs : List Nat} {g : GF} {ft : TF} {fe : EF} {fi : IF} {own : List (Str × Nat)} {pos spos py : Pos} {pin : List Nat} {y : Str}
theorem blkR (hg : ∀ (s : Shared) (H : Hp) (D : Addr) (cl : List (Str × Addr)) (fp : List Addr), PGr (X.blk s H scope (compEnvC scope cl D X.env) fp) vs tg g)
    (ht : ∀ (s : Shared) (H : Hp) (D : Addr) (cl : List (Str × Addr)) (fp : List Addr), PTsr (X.blk s H scope (compEnvC scope cl D X.env) fp) C Z0 ifs ft)
    (he : ∀ (s : Shared) (H : Hp) (D : Addr) (cl : List (Str × Addr)) (fp : List Addr), PEr (X.blk s H scope (compEnvC scope cl D X.env) fp) C Z0 elt fe) : BlkR X C scope tg elt ifs vs g ft fe := by
  let tg' : TG := fun v σ H Q => ∀ s H0 D cl fp, (hg s H0 D cl fp).ex.choose v σ H Q
  let tt : TT := fun σ H Q => ∀ s H0 D cl fp, (ht s H0 D cl fp).ex.choose σ H Q
  let te : TE := fun σ H Q => ∀ s H0 D cl fp, (he s H0 D cl fp).ex.choose σ H Q
  refine ⟨tg', tt, te, fun s H D cl fp => ⟨fun pins s1 σ H1 x v Q I r h => ?_⟩, fun s H D cl fp => ⟨fun pins s1 σ H1 Q I h => ?_⟩, fun s H D cl fp => ⟨fun pins s1 σ H1 Q I h => ?_⟩, ?_, ?_, ?_⟩
  · exact (hg s H D cl fp).ex.choose_spec.1.run pins s1 σ H1 x v Q I r (h s H D cl fp)
  · exact (ht s H D cl fp).ex.choose_spec.1.run pins s1 σ H1 Q I (h s H D cl fp)
  · exact (he s H D cl fp).ex.choose_spec.1.run pins s1 σ H1 Q I (h s H D cl fp)
  · intro F B σ H ρ v d ρ' E r e Q hQ s H0 D cl fp
    exact (hg s H0 D cl fp).ex.choose_spec.2 F B σ H ρ v d ρ' E r e Q hQ
  · intro F B σ H ρ E
    have q := fun s H0 D cl fp => (ht s H0 D cl fp).ex.choose_spec.2 F B σ H ρ E
    generalize hr : ft ρ = r at q
    cases r with
    | stuck => trivial
    | exc c ρ' => exact fun x Q s H0 D cl fp => q s H0 D cl fp x Q
    | ok b ρ' => exact fun Q hQ s H0 D cl fp => q s H0 D cl fp Q hQ
  · intro F B σ H ρ E
    have q := fun s H0 D cl fp => (he s H0 D cl fp).ex.choose_spec.2 F B σ H ρ E
    generalize hr : fe ρ = r at q
    cases r with
    | stuck => trivial
    | exc c ρ' => exact fun x Q s H0 D cl fp => q s H0 D cl fp x Q
    | ok w ρ' => exact fun Q hQ s H0 D cl fp => q s H0 D cl fp Q hQ
theorem s_setLc (i : Nat) (hc : X.calm = true) (hN : X.N.Nodup) (hi : PIr X C Z tg iter fi) (ok : BlkOk X.N X.env.scope scope own) (hb : BlkR X C scope tg elt ifs (own.map (·.2)) g ft fe)
    (hsw : swapsWith (.ListComp elt [⟨tg, iter, ifs, 0⟩] scope pos) (some (.Name y py)) spos.line X.env = pure true) (hy : X.N[i]? = some y := by rfl) (hyl : X.env.scope.names.lookup y = some .local := by rfl) (hp : i ∉ pin := by decide)
    (hs : ∀ x, foldedSetIterable iter X.env x = pure x := by intro _; rfl) : PSr X C Z pin (.Assign [.Name y py] (.ListComp elt [⟨tg, iter, ifs, 0⟩] scope pos) spos) (sSet i (eLc (own.map (·.2)) fi g ft fe)) := by
  obtain ⟨wi, hwi, hsi⟩ := hi.ex
  obtain ⟨tg', tt, te, h1, h2, h3, h4, h5, h6⟩ := hb.ex
  refine ⟨_, ps_setLc hc hN hy hyl hsw hwi ok h1 h2 h3 hs, fun F B σ H ρ D E h => ?_⟩
  refine stE (lc_go (X := X) (C := C) (Z := Z) hsi h4 h5 h6 F B σ H ρ E) h fun v w ρ' F' H' _ g E' r hq => ?_
  cases q : putW i ρ' w with
  | none => rw [q] at hq; exact hq.elim
  | some ρ2 =>
    rw [q] at hq
    obtain ⟨F2, g2, E2⟩ := putW_ok E' r q
    exact hq _ F2 H' g2 (PinEq.set hp) E2
def sRaise (c : Str) : SF := fun ρ => .exc c ρ
theorem s_raise {e : Expr} {c : Str} {a : Addr} (hc : X.calm = true) (tk : Takes X Z) (mk : PMk X e (fun _ H Q => Q (.ref a) none H)) (hC : C c = .ref a) : PSr X C Z pin (.Raise (some e) none pos) (sRaise c) := by
  refine ⟨_, ps_raise hc tk mk, fun F B σ H ρ D E h => ?_⟩
  have h := h σ F H Gd.refl PinEq.refl E
  rw [hC] at h
  exact h
def eIf (t : TF) (f g : EF) : EF := fun ρ => (t ρ).bind fun b ρ1 => if b = true then f ρ1 else g ρ1
theorem r_if {c a b : Expr} {t : TF} {f g : EF} (hc : PTr X C Z c t) (ha : PEr X C Z a f) (hb : PEr X C Z b g) : PEr X C Z (.IfExp c a b pos) (eIf t f g) := by
  obtain ⟨tc, htc, h1⟩ := hc.ex
  obtain ⟨ta, hta, h2⟩ := ha.ex
  obtain ⟨tb, htb, h3⟩ := hb.ex
  refine ⟨_, pe_ifExp htc hta htb, fun F B σ H ρ E => ?_⟩
  refine EGo.bindT (T := fun c H1 Q => if c = true then ta σ H1 Q else tb σ H1 Q) (h1 F B σ H ρ E) (fun Q q => q) fun b ρ' F' H' _ g1 E' => ?_
  cases b with
  | true =>
    rw [if_pos rfl]
    have q := h2 F' B σ H' ρ' E'
    cases h : f ρ' with
    | stuck => trivial
    | exc c ρ2 => rw [h] at q; exact fun x Q => iteT (q x Q)
    | ok w ρ2 => rw [h] at q; exact fun Q hQ => iteT (q Q hQ)
  | false =>
    rw [if_neg Bool.false_ne_true]
    have q := h3 F' B σ H' ρ' E'
    cases h : g ρ' with
    | stuck => trivial
    | exc c ρ2 => rw [h] at q; exact fun x Q => iteF (q x Q)
    | ok w ρ2 => rw [h] at q; exact fun Q hQ => iteF (q Q hQ)
end

def cof (mg : Str → Option Value) : Cof := fun c => (mg c).getD .none
theorem cof_of {mg : Str → Option Value} {c : Str} {a : Addr} (h : mg c = some (.ref a)) : cof mg c = .ref a := by unfold cof; rw [h]; rfl
structure Con (K : PySem.W.Frag) (mg : Str → Option Value) (x : Str) (d : PyData) : Prop where
  ex : ∃ (u : Value) (v : V), mg x = some u ∧ RelV v u ∧ ∀ F H, Rep K F H v d
section
variable {K : PySem.W.Frag} {mg : Str → Option Value} {x : Str}
theorem con_str {z : Str} {t : Tok} (h : mg x = some (.str z t)) : Con K mg x (.str z) := ⟨_, .str z, h, ⟨t, rfl⟩, fun _ _ => .str z⟩
theorem con_int {z : Int} {t : Tok} (h : mg x = some (.int z t)) : Con K mg x (.int z) := ⟨_, .int z, h, ⟨t, rfl⟩, fun _ _ => .int z⟩
def datV : Value → Option PyData
  | .none => some .none
  | .bool b => some (.bool b)
  | .int i _ => some (.int i)
  | .str z _ => some (.str z)
  | _ => none
def datsV : List Value → Option (List PyData)
  | [] => some []
  | u :: us => match datV u, datsV us with | some d, some ds => some (d :: ds) | _, _ => none
theorem datV_ok {u : Value} {d : PyData} (h : datV u = some d) : ∃ v, RelV v u ∧ ∀ F H, Rep K F H v d := by
  cases u <;> try (cases h; done)
  · cases h; exact ⟨.non, rfl, fun _ _ => .non⟩
  · cases h; exact ⟨.bl _, rfl, fun _ _ => .bl _⟩
  · cases h; exact ⟨.int _, ⟨_, rfl⟩, fun _ _ => .int _⟩
  · cases h; exact ⟨.str _, ⟨_, rfl⟩, fun _ _ => .str _⟩
theorem datsV_ok : ∀ {us : List Value} {ds : List PyData}, datsV us = some ds → ∃ vs, Vals vs us ∧ ∀ F H, RepA K F H vs ds
  | [], ds, h => by cases h; exact ⟨[], .nil, fun _ _ => .nil⟩
  | u :: us, ds, h => by
    unfold datsV at h
    cases h1 : datV u with
    | none => rw [h1] at h; cases h
    | some d =>
      cases h2 : datsV us with
      | none => rw [h1, h2] at h; cases h
      | some es =>
        rw [h1, h2] at h
        cases h
        obtain ⟨v, q1, q2⟩ := datV_ok (K := K) h1
        obtain ⟨vs, q3, q4⟩ := datsV_ok h2
        exact ⟨v :: vs, .cons q1 q3, fun F H => .cons (q2 F H) (q4 F H)⟩
theorem con_tup {a : Addr} {dd : Option Addr} {us : List Value} {n : Nat} {sl : Array (Option Value)} {ds : List PyData} (h : mg x = some (.ref a)) (l : K.lookup a = some ⟨.type "tuple", dd, .seq us.toArray n, sl⟩) (hd : datsV us = some ds) (hz : us.length ≤ sizeLine := by decide) : Con K mg x (.tuple ds) := by
  obtain ⟨vs, q1, q2⟩ := datsV_ok (K := K) hd
  have q : ∀ H', SqT K H' a vs := fun H' => .inr ⟨_, us.toArray, n, l, rfl, rfl, by simpa using hz, by simpa using q1⟩
  exact ⟨_, .ref a, h, rfl, fun F H => .tup (.inr q) (q H) (q2 F H)⟩
end
theorem r_con {X : Cx} {C : Cof} {Z : WX} {x : Str} {d : PyData} {pos : Pos} (c : Con X.K X.mg x d) (hg : Gl X x := by rfl) (hd : (x == ("__debug__" : Str)) = false := by decide) : PEr X C Z (.Name x pos) (eC d) := by
  obtain ⟨u, v, h1, h2, h3⟩ := c.ex
  exact r_gC hg h1 h2 h3 hd

theorem kn0 {P : Program} {w : World} {K : PySem.W.Frag} {mg : Str → Option Value} {base : Heap} {C : Cof} {x qual : Str} {st : Stmt} {f : Addr} {fd : FuncData} {ps : List Str} {n : Nat} (G : Fun K x qual st f fd) (hm : mg x = some (.ref f)) (hb : Binds K fd ps []) (hn : ps.length = n) :
    Kn P w K mg base C 0 x n (fun _ => .stuck) :=
  ⟨f, fd, ps, ⟨fun vs H Q E h => by rw [hn]; exact h.1, fun A outer s H args us vs Q E hr he hb hv hs => by obtain ⟨_, _, _, _, _, h⟩ := hs; exact h.elim⟩, hm, G.kp, hb⟩
theorem kn_of {P : Program} {w : World} {K : PySem.W.Frag} {mg : Str → Option Value} {base : Heap} {C : Cof} {x qual : Str} {st : Stmt} {f : Addr} {fd : FuncData} {ps : List Str} {n k : Nat} {m : DF} (G : Fun K x qual st f fd) (hm : mg x = some (.ref f)) (hb : Binds K fd ps [])
    (h : FnM P w K mg base k f fd ps (spM C K n m)) : Kn P w K mg base C k x n m := ⟨f, fd, ps, h, hm, G.kp, hb⟩
theorem sp_law {K : PySem.W.Frag} {C : Cof} {m : DF} {H : Hp} {a : Addr} {ns : List Int} (hm : ∃ outs, m [.val (scrD ns)] = .ok (.val (.bool true)) outs) (hS : SqL K H a (ns.map V.int)) : spM C K 1 m [.ref a] H (fun v _ => v = .bl true) (fun _ _ _ => False) := by
  obtain ⟨outs, hm⟩ := hm
  refine ⟨rfl, fun b => ∃ o, H b = some o, fun _ => False, [.val (scrD ns)], ⟨rfl, fun b h => h, fun b h => h.elim, ?_, ?_, ?_⟩, ?_⟩
  · intro i d h
    cases i with
    | zero =>
      simp only [List.map_cons, List.map_nil, List.getElem?_cons_zero, Option.some.injEq, Sl.val.injEq] at h
      subst h
      refine ⟨.ref a, rfl, .scr ?_ hS⟩
      rcases hS with (h | ⟨o, h⟩) | h
      · exact .inl ⟨_, h⟩
      · exact .inl ⟨_, h⟩
      · exact .inr fun H' => .inr h
    | succ i => simp at h
  · intro i ds h
    cases i with
    | zero => simp at h
    | succ i => simp at h
  · intro i j ds es b h
    cases i with
    | zero => simp at h
    | succ i => simp at h
  · rw [hm]
    intro v F' H' g E r
    have r : Rep K F' H' v (.bool true) := r
    cases r
    rfl
theorem ls_walk {l : PySem.W.OpenLaw} {k j : Nat} {q : Program} {loose : List Str} {XP : (Str → Option Value) → Heap → Prop} {YP : World → Heap → Prop} {d : DefRec} {K : Params → PySem.W.Frag} {x : Str} {m : DF}
    (hn : l.most = some 63) (hdf : d.params.defaults = []) (hr : Room j callerA) (hkj : k ≤ 3 * j) (hY : ∀ (w : World) (h : Heap), YP w h → (K w.params).In h)
    (hm : ∀ ns : List Int, ns.length ≤ 63 → ∃ outs, m [.val (scrD ns)] = .ok (.val (.bool true)) outs)
    (F : ∀ (w : World) (mg : Str → Option Value) (fa : Addr) (h : Heap), (K w.params).In h → h.Ns mainGlobals mg → mg d.name = some (.ref fa) →
      ∃ fd : FuncData, (∀ (s : Shared) (u : Value), BindsTo s fd ⟨[u], []⟩ [(x, u)]) ∧ ∀ base : Heap, (K w.params).In base → base.Ns mainGlobals mg → FnM l.prog w (K w.params) mg base k fa fd [x] (spM (cof mg) (K w.params) 1 m)) :
    PySem.W.WalkO q loose XP YP l.row.toRowW d [] (fun f vs => PySem.call f vs) := by
  refine Att.attach_call hn hdf fun w s₀ s₁ mg mb fa o pm cd doc a vs ns G Y ho hd hcd hmg hobj hints hlen hg => ?_
  have KX := hY w _ Y
  obtain ⟨fd, hb, hF⟩ := F w mg fa _ KX G.T.g hmg
  refine law_call KX G.T.g G.T.b G.T.builtins G.T.nolimit hg hobj hints (Nat.le_trans hlen (by decide)) hr (fun base a b => (hF base a b).ok hkj) hb (fun H hO hS => sp_law (hm ns hlen) hS) fun H e s' h => ?_
  obtain ⟨_, _, _, _, _, _, _, _, _, _, _, _, z⟩ := h
  exact z.elim
end Ls
namespace Ls
open PySem PySem.Spec PyProof.Rows L2

theorem hu200 {k : Nat} {A : Around} (hr : RM k A) : A.units + 200 < cLine := by have := hr.un; omega
section
variable {P : Program} {w : World} {K : PySem.W.Frag} {mg : Str → Option Value} {base : Heap} {N : List Str} {qual : Str} {scope : Scope} {f : Addr} {cdv : Value} {A : Around} {outer : List PySem.Env} {s : Shared} {H : Hp} {E : XK}
theorem tkD : Takes (cxOf (L2.CX P w) P w K mg base N qual scope f cdv A outer s H E) (fun cls d _ H' => E cls d H') := takes_of rfl rfl rfl rfl
theorem poD : PassesOwn (model P w) (A.deeper (envOfC qual scope s.heap.objs.size f cdv)) (envOfC qual scope s.heap.objs.size f cdv) (cxOf (L2.CX P w) P w K mg base N qual scope f cdv A outer s H E).xe := passes_of (X := cxOf (L2.CX P w) P w K mg base N qual scope f cdv A outer s H E) rfl
end

section
variable {X : Cx} {C : Cof} {Z : WX} {a b c : Expr} {ga : AF} {f : EF} {pos pos2 p p2 : Pos}
def downL (i j : Int) : List PyData := (List.range (i - j).toNat).map fun (k : Nat) => .int (i - (k : Int))
def eRange3 (ga : AF) : EF := fun ρ => (ga ρ).bind fun ws ρ1 => match ws with
  | [.val (.int i), .val (.int j), .val (.int k)] => if k = -1 ∧ rgOk i = true ∧ rgOk j = true ∧ (i - j).toNat ≤ 2 ^ 24 then .ok (.tmp (downL i j)) ρ1 else .stuck
  | _ => .stuck
def eRange2 (ga : AF) : EF := fun ρ => (ga ρ).bind fun ws ρ1 => match ws with
  | [.val (.int i), .val (.int j)] => if rgOk i = true ∧ rgOk j = true ∧ (j - i).toNat ≤ 2 ^ 24 then .ok (.tmp (rangeL i j)) ρ1 else .stuck
  | _ => .stuck
theorem vals_down {i j : Int} {acc : Array Value} (h : ItemsOf (fun q v => ∃ t, v = .int (i + q * (-1)) t) acc (i - j).toNat) : Vals ((List.range (i - j).toNat).map fun (k : Nat) => V.int (i - (k : Int))) acc.toList := by
  have e : acc.toList.length = (i - j).toNat := by rw [Array.length_toList]; exact h.1
  rw [← e]
  refine vals_of_get acc.toList _ fun q u hq => ?_
  obtain ⟨t, rfl⟩ := h.2 q u (by rw [← hq, Array.getElem?_toList])
  exact ⟨t, by congr 1; omega⟩
theorem repA_ints {K : PySem.W.Frag} {F : Addr → Prop} {H : Hp} {α : Type} {g : α → Int} : ∀ {l : List α}, RepA K F H (l.map fun x => V.int (g x)) (l.map fun x => PyData.int (g x))
  | [] => .nil
  | _ :: _ => .cons (.int _) repA_ints
theorem r_range3 (hm1 : X.mg "list" = none) (hm2 : X.mg "range" = none) (ha : PAr X C Z [a, b, c] ga) (hc : X.calm = true := by rfl) (hg1 : Gl X "list" := by rfl) (hg2 : Gl X "range" := by rfl)
    (hs : starEach [a, b, c] X.env = (false, eval a X.env) :: starEach [b, c] X.env := by rfl) (hpl : (backTo pos (starEach [b, c] X.env)).any (·.1) = false := by rfl)
    (na : starEach [.Call (.Name "range" p) [a, b, c] [] pos] X.env = (false, eval (.Call (.Name "range" p) [a, b, c] [] pos) X.env) :: starEach [] X.env := by rfl) :
    PEr X C Z (.Call (.Name "list" p2) [.Call (.Name "range" p) [a, b, c] [] pos] [] pos2) (eRange3 ga) := by
  obtain ⟨t, ht, h1⟩ := ha.ex
  let T : List V → Hp → VK → Prop := fun vs H1 Q => ∃ i j, vs = [.int i, .int j, .int (-1)] ∧ rgOk i = true ∧ rgOk j = true ∧ (i - j).toNat ≤ 2 ^ 24 ∧ ∀ q, H1 q = none → Q (.ref q) (upd H1 q (.lst ((List.range (i - j).toNat).map fun (k : Nat) => V.int (i - (k : Int)))))
  refine ⟨fun σ H Q => t σ H fun vs H1 => T vs H1 Q, ⟨fun pins s σ H Q I h => ?_⟩, fun F B σ H ρ E => ?_⟩
  · refine Call_ (ld_blt I hg1 hm1 boot_list (PyProof.Rows.callWith_type1 (Calls.spliced_cons ?_) na rfl))
    refine Call_ (ld_blt I hg2 hm2 boot_range (PyProof.Rows.callWith_type1 (thn (ht.run pos pins s σ H _ I h) fun us s1 ⟨vs, H1, I1, r1, q1⟩ => ?_) hs hpl))
    obtain ⟨i, j, e, h1, h2, hz, q⟩ := q1
    subst e
    obtain ⟨h1a, h1b⟩ := rgOk_ok h1
    obtain ⟨h2a, h2b⟩ := rgOk_ok h2
    cases r1 with
    | cons r rr =>
      cases rr with
      | cons r' rr =>
        cases rr with
        | cons r'' rr =>
          cases rr
          obtain ⟨t1, rfl⟩ := r
          obtain ⟨t2, rfl⟩ := r'
          obtain ⟨t3, rfl⟩ := r''
          refine call_range_3 (by decide) ?_ (.inl (PyProof.noPylong_small (by decide)))
          have I2 : Inv X pins σ H1 { s1 with heap := s1.heap.push { cls := .type "range", data := .fields #[.int i t1, .int j t2, .int (-1) t3] } } := I1.kept (t' := s1.toks) fun b o e => Heap.get?_push_of_some _ e
          refine Calls.spliced_nil ?_
          refine call_list_range (n := (i - j).toNat) (I2.ok.hd hc) (IsRange.new ..) (PySem.W.small_down h1a h1b h2a h2b) (PySem.W.rangeSize_downNat i j) hz fun h' tk acc c' hk e' hi => ?_
          refine ⟨.ref _, upd H1 _ (.lst ((List.range (i - j).toNat).map fun (k : Nat) => V.int (i - (k : Int)))), I2.laid (o := .lst _) (t' := tk) hk (Nat.le_refl _) ⟨?_, acc.toList, c', vals_down hi, ?_⟩, rfl, q _ (I2.hok.fresh (Nat.le_refl _))⟩
          · rw [List.length_map, List.length_range, sizeLine_eq]; omega
          · rw [Array.toArray_toList]; exact e'
  · refine EGo.bindA (T := T) (h1 F B σ H ρ E) (fun Q q => q) fun vs ws ρ' F' H' _ g1 E' ra => ?_
    split
    · rename_i i j k _
      split
      · rename_i hk
        obtain ⟨rfl, hi, hj, hz⟩ := hk
        have rv := vals_ok ra (ds := [.int i, .int j, .int (-1)]) rfl
        cases rv with
        | cons r1 rv => cases rv with
          | cons r2 rv => cases rv with
            | cons r3 rv =>
              cases rv; cases r1; cases r2; cases r3
              exact fun Q hQ => ⟨i, j, rfl, hi, hj, hz, fun q hq => hQ _ _ _ (E'.newT hq).1 (E'.newT hq).2 (E'.tmp hq repA_ints)⟩
      · trivial
    · trivial
end

def addOp2 : PyData → PyData → Option Ans
  | .int i, .int j => some (.val (.int (i + j)))
  | .str x, .str y => if x.length + y.length ≤ sizeLine then some (.val (.str (x ++ y))) else none
  | _, _ => none
theorem b_add2 {K : PySem.W.Frag} : BinS K (fun x y H Q => rI0 (fun i j => .int (i + j)) x y H Q ∨ (∃ i j, x = .str i ∧ y = .str j ∧ i.length + j.length ≤ sizeLine ∧ Q (.str (i ++ j)) H)) addOp2 := bin_val fun F H x y d1 d2 a r1 r2 e => by
  unfold addOp2 at e
  split at e
  · cases e; exact ⟨_, rfl, _, fun F' H' => .int _, fun Q q => .inl ⟨_, _, r1.int, r2.int, q⟩⟩
  · split at e
    · rename_i h
      cases e; exact ⟨_, rfl, _, fun F' H' => .str _, fun Q q => .inr ⟨_, _, r1.str, r2.str, h, q⟩⟩
    · cases e
  · cases e
theorem pip_of {X : Cx} {op : Operator} {r : R2} (h : OpR X (inplaceOp op) r) : PIp X op r := h
def revFn : PyData → Option Ans
  | .list xs => some (.new xs.reverse)
  | _ => none
theorem r_revL {X : Cx} {C : Cof} {Z : WX} {e : Expr} {f : EF} {k : Nat} {p1 p2 p3 pos : Pos} (he : PEr X C Z e f) : PEr X C Z (.Subscript e (.Slice none none (some (.UnaryOp .USub (.Constant (.int 1) k p1) p2)) p3) pos) (eCall1 revFn f) := by
  obtain ⟨t, ht, h1⟩ := he.ex
  refine ⟨_, pe_revL ht, fun F B σ H ρ E => ?_⟩
  refine EGo.bind (T := fun x H1 Q => ∃ a xs, x = .ref a ∧ SqL X.K H1 a xs ∧ ∀ p, H1 p = none → Q (.ref p) (upd H1 p (.lst xs.reverse))) (h1 F B σ H ρ E) (fun Q q => q) fun v w ρ' F' H' _ g1 E' rv => ?_
  cases h1 : rdW ρ' w with
  | none => trivial
  | some d =>
    dsimp only
    have rs := rdW_ok E' rv h1
    cases h2 : revFn d with
    | none => trivial
    | some an =>
      unfold revFn at h2
      split at h2
      · cases h2
        obtain ⟨l, vs, rfl, hh, ra⟩ := rs.lst
        exact fun Q hQ => ⟨l, vs, rfl, .inl hh, fun p hp => hQ _ _ _ (E'.newT hp).1 (E'.newT hp).2 (E'.tmp hp ra.rev)⟩
      · cases h2
def rTupleA (K : PySem.W.Frag) : List V → Hp → VK → Prop := fun xs H Q => ∃ p ys, xs = [.ref p] ∧ ((SqL K H p ys ∧ ∀ l, H l = none → Q (.ref l) (upd H l (.tup ys))) ∨ (SqT K H p ys ∧ Q (.ref p) H))
theorem c_tupleA {X : Cx} : CallR X (.type "tuple") (rTupleA X.K) := call_tuple_of
theorem k_tuple {K : PySem.W.Frag} : CallS K (rTupleA K) tupleFn := by
  intro F B σ H ρ x d a E r e Q hQ
  unfold tupleFn at e
  split at e
  · cases e
    obtain ⟨l, vs, rfl, h1, ra⟩ := r.lst
    exact ⟨l, vs, rfl, .inl ⟨.inl h1, fun p hp => hQ _ _ _ (E.newF hp).1 (E.newF hp).2 (E.tupN hp ra)⟩⟩
  · cases e
    rcases r with r | ⟨a, vs, ds, e1, e2, _⟩
    · cases r with
      | tup f hq ra => exact ⟨_, _, rfl, .inr ⟨hq, hQ _ F H Gd.refl E (.tup f hq ra)⟩⟩
    · cases e2
  · cases e
structure Exn (K : PySem.W.Frag) (mg : Str → Option Value) (x : Str) : Prop where
  ex : ∃ D : Addr, mg x = some (.ref D) ∧ PySem.W.excIn K D [.type "ValueError", .type "Exception", .type "BaseException", .type "object"] "ValueError.__new__" = true ∧ PySem.W.keepIn K (.ref D) = true ∧
    PySem.W.subIn K (.ref D) (.type "BaseException") = some true ∧ PySem.W.typeIn K (.ref D) = some (.type "type")
theorem s_raiseX {X : Cx} {Z : WX} {pin : List Nat} {x m : Str} {j : Nat} {p p2 pos pos2 : Pos} (h : Exn X.K X.mg x) (tk : Takes X Z) (hc : X.calm = true := by rfl) (hg : Gl X x := by rfl) (hdb : (x == ("__debug__" : Str)) = false := by decide) :
    PSr X (cof X.mg) Z pin (.Raise (some (.Call (.Name x p) [.Constant (.str m) j p2] [] pos)) none pos2) (sRaise x) := by
  obtain ⟨D, h1, h2, h3, h4, h5⟩ := h.ex
  exact s_raise hc tk (pmk_own PySem.F.excBase_ValueError h2 h1 h3 (raises_own h4 h5) hg hdb) (cof_of h1)

structure FT (K : PySem.W.Frag) (mg : Str → Option Value) (x : Str) (st : Stmt) (ps : List Str) : Prop where
  ex : ∃ (f : Addr) (fd : FuncData), Fun K x x st f fd ∧ mg x = some (.ref f) ∧ Binds K fd ps []
section
variable {K : PySem.W.Frag} {mg : Str → Option Value} {h : Heap} {x : Str} {st : Stmt} {ps : List Str} {f : Addr} {oc kV dc pm cd ct : Value} {od an : Option Addr} {sl : Array (Option Value)}
theorem ft_mk (X : K.In h) (G : h.Ns mainGlobals mg) (a : PySem.W.nsIn K mainGlobals x = some (some (.ref f))) (l : K.lookup f = some ⟨oc, od, .func (PySem.W.fnOf x x (defArgs st) (defBody st) (defScope st) .none kV dc pm an cd ct), sl⟩)
    (c : PySem.W.codeIn K cd x = true) (k : PySem.W.keepIn K (.ref f) = true) (b : ∀ (kV doc pm : Value) (an : Option Addr) (cdv ct : Value) (us : List Value), us.length = ps.length → bindArgs (PySem.W.fnOf x x (defArgs st) (defBody st) (defScope st) .none kV doc pm an cdv ct) ⟨us, []⟩ = pure (ps.zip us)) : FT K mg x st ps :=
  ⟨f, _, fun_mk l c k, PySem.W.mg_of X G a, (fun_mk (st := st) l c k).binds b⟩
theorem law_mk {P : Program} {w : World} {k : Nat} {sp : Sp} {fa : Addr} {y : Str} (X : K.In h) (G : h.Ns mainGlobals mg) (hfa : mg x = some (.ref fa)) (a : PySem.W.nsIn K mainGlobals x = some (some (.ref f))) (l : K.lookup f = some ⟨oc, od, .func (PySem.W.fnOf x x (defArgs st) (defBody st) (defScope st) .none kV dc pm an cd ct), sl⟩)
    (c : PySem.W.codeIn K cd x = true) (kk : PySem.W.keepIn K (.ref f) = true) (b : ∀ (kV doc pm : Value) (an : Option Addr) (cdv ct : Value) (u : Value), bindArgs (PySem.W.fnOf x x (defArgs st) (defBody st) (defScope st) .none kV doc pm an cdv ct) ⟨[u], []⟩ = pure [(y, u)])
    (H : ∀ (fd : FuncData) (base : Heap), Fun K x x st fa fd → FnM P w K mg base k fa fd [y] sp) :
    ∃ fd : FuncData, (∀ (s : Shared) (u : Value), BindsTo s fd ⟨[u], []⟩ [(y, u)]) ∧ ∀ base : Heap, K.In base → base.Ns mainGlobals mg → FnM P w K mg base k fa fd [y] sp := by
  have e := hfa.symm.trans (PySem.W.mg_of X G a)
  cases e
  exact ⟨_, fun s u => .of_eq (b _ _ _ _ _ _ u), fun base _ _ => H _ base (fun_mk l c kk)⟩
theorem con_mk_str (X : K.In h) (G : h.Ns mainGlobals mg) {z : Str} {t : Tok} (a : PySem.W.nsIn K mainGlobals x = some (some (.str z t))) : Con K mg x (.str z) := con_str (PySem.W.mg_of X G a)
theorem con_mk_int (X : K.In h) (G : h.Ns mainGlobals mg) {z : Int} {t : Tok} (a : PySem.W.nsIn K mainGlobals x = some (some (.int z t))) : Con K mg x (.int z) := con_int (PySem.W.mg_of X G a)
theorem con_mk_tup (X : K.In h) (G : h.Ns mainGlobals mg) {a : Addr} {dd : Option Addr} {us : Array Value} {n : Nat} {ds : List PyData} (e : PySem.W.nsIn K mainGlobals x = some (some (.ref a))) (l : K.lookup a = some ⟨.type "tuple", dd, .seq us n, sl⟩)
    (hd : datsV us.toList = some ds) (hz : us.toList.length ≤ sizeLine) : Con K mg x (.tuple ds) := con_tup (us := us.toList) (PySem.W.mg_of X G e) (by simpa using l) hd hz
theorem exn_mk (X : K.In h) (G : h.Ns mainGlobals mg) {D : Addr} (a : PySem.W.nsIn K mainGlobals x = some (some (.ref D))) (q : PySem.W.excIn K D [.type "ValueError", .type "Exception", .type "BaseException", .type "object"] "ValueError.__new__" = true) (k : PySem.W.keepIn K (.ref D) = true)
    (b : PySem.W.subIn K (.ref D) (.type "BaseException") = some true) (t : PySem.W.typeIn K (.ref D) = some (.type "type")) : Exn K mg x := ⟨D, PySem.W.mg_of X G a, q, k, b, t⟩
end
end Ls
namespace Ls
open PySem PySem.Spec PyProof.Rows L2

theorem vals_at {F : Addr → Prop} {K : PySem.W.Frag} {H : Hp} : ∀ {vs : List V} {ds : List PyData} {us : List Value} {s : Shared} {as : List Addr}, ReadsAll s.heap us ds as → us.length = ds.length
  | _, _, _, _, _, .nil => rfl
  | vs, _, _, s, _, .cons _ t => congrArg (· + 1) (vals_at (vs := vs) (s := s) (F := F) (K := K) (H := H) t)
theorem readsAll_get {h : Heap} : ∀ {us : List Value} {ds : List PyData} {as : List Addr} {i : Nat} {u : Value}, ReadsAll h us ds as → us[i]? = some u → ∃ d bs, ds[i]? = some d ∧ Reads h u d bs
  | _, _, _, _, _, .nil, e => by simp at e
  | _, _, _, 0, _, .cons r _, e => by simp at e; subst e; exact ⟨_, _, rfl, r⟩
  | _, _, _, i + 1, _, .cons _ t, e => by
    obtain ⟨d, bs, h1, h2⟩ := readsAll_get (i := i) t (by simpa using e)
    exact ⟨d, bs, by simpa using h1, h2⟩
def idxD (x : PyData) : List PyData → Option Nat
  | [] => none
  | d :: ds => if PyData.eqv d x = true then some 0 else (idxD x ds).map (· + 1)
theorem idxD_ok {x : PyData} : ∀ {ds : List PyData} {j : Nat}, idxD x ds = some j → (∃ d, ds[j]? = some d ∧ PyData.eqv d x = true) ∧ ∀ m d, m < j → ds[m]? = some d → PyData.eqv d x = false
  | [], j, h => by cases h
  | d :: ds, j, h => by
    unfold idxD at h
    split at h
    · rename_i e
      cases h
      exact ⟨⟨d, rfl, e⟩, fun m d' hm => by omega⟩
    · rename_i e
      obtain ⟨i, h1, rfl⟩ := Option.map_eq_some_iff.mp h
      obtain ⟨⟨d', h2, h3⟩, h4⟩ := idxD_ok h1
      refine ⟨⟨d', by simpa using h2, h3⟩, fun m d'' hm hd => ?_⟩
      cases m with
      | zero => simp at hd; subst hd; simpa using e
      | succ m => exact h4 m d'' (by omega) (by simpa using hd)
def rIndexX (K : PySem.W.Frag) : V → List V → Hp → VK → Prop := fun x xs H Q => ∃ (a : Addr) (ys : List V) (y : V) (ds : List PyData) (dx : PyData) (j : Nat), x = .ref a ∧ xs = [y] ∧ Rd H a (.lst ys) ∧ DpAll K H ys ds ∧ Dp K H y dx ∧ dx.canLay0 = true ∧ PyData.canLayAll0 ds = true ∧ dx.depth ≤ 190 ∧ idxD dx ds = some j ∧ Q (.int (j : Nat)) H
theorem mt_indexX {X : Cx} (hu : X.A.units + 200 < cLine) : MtR X "list.index" (rIndexX X.K) := by
  intro pins s σ H x xs v us Q I rx rxs h
  obtain ⟨a, ys, y, ds, dx, j, rfl, rfl, hs, hd, hx, c1, c2, hdx, hj, q⟩ := h
  cases rx
  obtain ⟨uy, rfl, ry⟩ := Vals.one rxs
  obtain ⟨z, its, n, rv, hl, e⟩ := rd_ok I hs
  obtain ⟨bs, r1⟩ := Dp.reads I dx y uy hx ry
  obtain ⟨as, r2⟩ := Dp.readsAll I ds ys its hd rv
  obtain ⟨⟨d, hd1, hd2⟩, hno⟩ := idxD_ok hj
  have hlen : its.length = ds.length := vals_at (vs := ys) (F := fun _ => True) (K := X.K) (H := H) r2
  have hjl : j < its.length := by rw [hlen]; exact (List.getElem?_eq_some_iff.mp hd1).1
  have hsl := sizeLine_eq
  have at_ : ∀ m (hm : m < its.length), ∃ d bs, ds[m]? = some d ∧ Reads s.heap its[m] d bs ∧ d.canLay0 = true := fun m hm => by
    obtain ⟨d, bs, h1, h2⟩ := readsAll_get r2 (List.getElem?_eq_getElem hm)
    obtain ⟨d', as', h3, h4, _⟩ := readsAll_mem r2 c2 its[m] (List.getElem_mem hm)
    have : d' = d := SeqAt.Reads.unique _ _ _ _ _ h4 h3 h2
    subst this
    exact ⟨d', bs, h1, h2, h4⟩
  refine call_meets PySem.F.slot_list_index ⟨_, e, rfl⟩ PySem.F.entry_list_index (PySem.F.args_list_index_2 _ _)
    (SeqAt.list_indexAt a its.toArray n none #[] uy (eqR s.heap dx) j (by simpa using hjl) (by omega) ?_ ?_) ⟨e, in_eqs r2 c2 r1 c1 hdx hu, ?_⟩
  · obtain ⟨d', bs', h1, h2, h3⟩ := at_ j hjl
    rw [hd1] at h1; cases h1
    show eqR s.heap dx its[j] = true
    rw [eqR_of h2 h3]; exact hd2
  · intro m hm hmj
    have hm' : m < its.length := by simpa using hm
    obtain ⟨d', bs', h1, h2, h3⟩ := at_ m hm'
    show eqR s.heap dx its[m] = false
    rw [eqR_of h2 h3]
    exact hno m d' hmj h1
  · exact ⟨.int (j : Nat), H, I.tok _, ⟨_, rfl⟩, q⟩
def eMeth1 (op : PyData → PyData → Option Ans) (f g : EF) : EF := fun ρ => (eFt f ρ).bind fun w1 ρ1 => match rdW ρ1 w1 with
  | some (.list _) => (g ρ1).bind fun w2 ρ2 => (match rdW ρ2 w1, rdW ρ2 w2 with
    | some d1, some d2 => (match op d1 d2 with | some a => .ok a.w ρ2 | none => .stuck)
    | _, _ => .stuck)
  | _ => .stuck
def indexOp : PyData → PyData → Option Ans
  | .list ds, x => if x.canLay0 && PyData.canLayAll0 ds && decide (x.depth ≤ 190) then (idxD x ds).map fun j => .val (.int (j : Nat)) else none
  | _, _ => none
def MethS (K : PySem.W.Frag) (r : V → List V → Hp → VK → Prop) (op : PyData → PyData → Option Ans) : Prop := BinS K (fun x y H Q => r x [y] H Q) op
theorem meth_index {K : PySem.W.Frag} : MethS K (rIndexX K) indexOp := bin_val fun F H x y d1 d2 a r1 r2 e => by
  unfold indexOp at e
  split at e
  · split at e
    · rename_i ds hc
      simp only [Bool.and_eq_true, decide_eq_true_eq] at hc
      obtain ⟨j, h, rfl⟩ := Option.map_eq_some_iff.mp e
      obtain ⟨l, vs, rfl, h1, ra⟩ := r1.lst
      exact ⟨_, rfl, _, fun F' H' => .int _, fun Q q => ⟨l, vs, y, ds, d2, j, rfl, rfl, h1, ra.dp _ _ hc.1.2, r2.dp hc.1.1, hc.1.1, hc.1.2, hc.2, h, q⟩⟩
    · cases e
  · cases e
section
variable {X : Cx} {C : Cof} {Z : WX} {a b : Expr} {f g : EF} {op : PyData → PyData → Option Ans} {r : V → List V → Hp → VK → Prop} {name : Str} {id : String} {apos cpos : Pos}
theorem r_meth (slot : Slot "list" name id) (hty : typeOf (.builtin id) = pure (.type "method_descriptor")) (hmt : MtR X id r) (hr : MethS X.K r op) (ha : PEr X C Z a f) (hb : PEr X C Z b g)
    (hbase : attributeBase a name X.env (eval a X.env) = eval a X.env := by rfl)
    (hfew : ((backTo cpos (starEach [b] X.env)).all (fun x => !x.1) && (backToKw cpos (keywordEach [] X.env)).all (fun x => x.1.isSome)
      && decide (([b] : List Expr).length + ([] : List Keyword).length + (if ([] : List Keyword).isEmpty then 0 else 1) < 30)) = true := by rfl)
    (hline : (apos.endLine == cpos.line) = true := by rfl) (hs : starEach [b] X.env = (false, eval b X.env) :: starEach [] X.env := by rfl) (hplain : (backTo cpos (starEach [] X.env)).any (·.1) = false := by rfl) :
    PEr X C Z (.Call (.Attribute a name apos) [b] [] cpos) (eMeth1 op f g) := by
  obtain ⟨t, ht, h1⟩ := ha.ex
  obtain ⟨t2, ht2, h2⟩ := hb.ex
  refine ⟨_, pe_bm PySem.F.plainAttrs_list slot hty hmt ht (pa_cons ht2 pa_nil hs) hbase hfew hline hs hplain, fun F B σ H ρ E => ?_⟩
  refine EGo.bind (T := fun x H1 Q => tyV X.K "list" x H1 ∧ t2 σ H1 fun y H2 => r x [y] H2 Q) (ftGo h1 F B σ H ρ E) (fun Q q => q) fun v w ρ' F' H' hw g1 E' rv => ?_
  split
  · rename_i ds hds
    have rs := rdW_ok E' rv hds
    obtain ⟨l, vs, rfl, hh, ra⟩ := rs.lst
    refine EGo.bind (T := fun y H2 Q => r (.ref l) [y] H2 Q) (h2 F' B σ H' ρ' E') (fun Q q => ⟨.inl ⟨rfl, _, .inl hh⟩, q⟩) fun y w2 ρ2 F2 H2 _ g2 E2 ry => ?_
    have rv2 : RW X.K F2 B H2 σ ρ2 (.ref l) w := by
      have e := hold_ft hw B (.ref l)
      refine rv.keep ?_ ?_
      · rw [e]; exact g2
      · rw [e]; exact E2
    cases h3 : rdW ρ2 w with
    | none => trivial
    | some d1 =>
      cases h4 : rdW ρ2 w2 with
      | none => trivial
      | some d2 =>
        dsimp only
        cases h5 : op d1 d2 with
        | none => trivial
        | some an => exact fun Q hQ => hr F2 B σ H2 ρ2 (.ref l) y d1 d2 an E2 (rdW_ok E2 rv2 h3) (rdW_ok E2 ry h4) h5 Q hQ
  · trivial
theorem r_index (hu : X.A.units + 200 < cLine) (ha : PEr X C Z a f) (hb : PEr X C Z b g) (hbase : attributeBase a "index" X.env (eval a X.env) = eval a X.env := by rfl)
    (hfew : ((backTo cpos (starEach [b] X.env)).all (fun x => !x.1) && (backToKw cpos (keywordEach [] X.env)).all (fun x => x.1.isSome)
      && decide (([b] : List Expr).length + ([] : List Keyword).length + (if ([] : List Keyword).isEmpty then 0 else 1) < 30)) = true := by rfl)
    (hline : (apos.endLine == cpos.line) = true := by rfl) (hs : starEach [b] X.env = (false, eval b X.env) :: starEach [] X.env := by rfl) (hplain : (backTo cpos (starEach [] X.env)).any (·.1) = false := by rfl) :
    PEr X C Z (.Call (.Attribute a "index" apos) [b] [] cpos) (eMeth1 indexOp f g) := r_meth PySem.F.slot_list_index PySem.F.type_list_index (mt_indexX hu) meth_index ha hb hbase hfew hline hs hplain
end
end Ls
namespace Ls
open PySem PySem.Spec PyProof.Rows L2

theorem by_rfl {α : Sort _} {a b : α} (h : a = b) : a = b := h
@[simp] theorem Res.bindOk {α β : Type} (a : α) (ρ : Env) (f : α → Env → Res β) : (Res.ok a ρ).bind f = f a ρ := by_rfl rfl
@[simp] theorem Res.bindSOk {α : Type} (a : α) (ρ : Env) (f : α → Env → SRes) : (Res.ok a ρ).bindS f = f a ρ := by_rfl rfl

@[simp] theorem then_nx (ρ : Env) (f : SF) : (SRes.nx ρ).then f = f ρ := by_rfl rfl
@[simp] theorem then_ret (r : Sl) (ρ : Env) (f : SF) : (SRes.ret r ρ).then f = .ret r ρ := by_rfl rfl
@[simp] theorem then_exc (c : Str) (ρ : Env) (f : SF) : (SRes.exc c ρ).then f = .exc c ρ := by_rfl rfl
@[simp] theorem then_brk (ρ : Env) (f : SF) : (SRes.brk ρ).then f = .brk ρ := by_rfl rfl
@[simp] theorem then_cnt (ρ : Env) (f : SF) : (SRes.cnt ρ).then f = .cnt ρ := by_rfl rfl

def ansR : Option Ans → Env → Res W := fun x0 ρ => match x0 with
  | some a => .ok a.w ρ
  | none => .stuck
@[simp] theorem ansR_val (d : PyData) (ρ : Env) : ansR (some (.val d)) ρ = .ok (.val d) ρ := by_rfl rfl
@[simp] theorem ansR_new (ds : List PyData) (ρ : Env) : ansR (some (.new ds)) ρ = .ok (.tmp ds) ρ := by_rfl rfl
def op1R (fn : PyData → Option Ans) : Option PyData → Env → Res W := fun x0 ρ => match x0 with
  | some d => ansR (fn d) ρ
  | none => .stuck
@[simp] theorem op1R_some (fn : PyData → Option Ans) (d : PyData) (ρ : Env) : op1R fn (some d) ρ = ansR (fn d) ρ := by_rfl rfl
def op2R (op : PyData → PyData → Option Ans) : Option PyData → Option PyData → Env → Res W := fun x0 x1 ρ => match x0, x1 with
  | some d, some e => ansR (op d e) ρ
  | _, _ => .stuck
@[simp] theorem op2R_some (op : PyData → PyData → Option Ans) (d e : PyData) (ρ : Env) : op2R op (some d) (some e) ρ = ansR (op d e) ρ := by_rfl rfl
def slR : Option (Option Sl) → Env → Nat → Res W := fun x0 ρ i => match x0 with
  | some (some (.val d)) => .ok (.val d) ρ
  | some (some (.mut _)) => .ok (.loc i) ρ
  | _ => .stuck
@[simp] theorem slR_val (d : PyData) (ρ : Env) (i : Nat) : slR (some (some (.val d))) ρ i = .ok (.val d) ρ := by_rfl rfl
@[simp] theorem slR_mut (ds : List PyData) (ρ : Env) (i : Nat) : slR (some (some (.mut ds))) ρ i = .ok (.loc i) ρ := by_rfl rfl
def fzK : W → Env → Res W := fun w ρ1 => match fzW ρ1 w with | some (d, ρ2) => .ok (.val d) ρ2 | none => .stuck
def ftK : W → Env → Res W := fun w ρ1 => match w with | .tmp ds => .ok (.val (.list ds)) ρ1 | w => .ok w ρ1
def locFz : Option (Option Sl) → Env → Nat → Res W := fun x0 ρ i => match x0 with
  | some (some (.val d)) => .ok (.val d) ρ
  | some (some (.mut ds)) => .ok (.val (.list ds)) (ρ.set i (some (.val (.list ds))))
  | _ => .stuck
@[simp] theorem locFz_val (d : PyData) (ρ : Env) (i : Nat) : locFz (some (some (.val d))) ρ i = .ok (.val d) ρ := by_rfl rfl
@[simp] theorem locFz_mut (ds : List PyData) (ρ : Env) (i : Nat) : locFz (some (some (.mut ds))) ρ i = .ok (.val (.list ds)) (ρ.set i (some (.val (.list ds)))) := by_rfl rfl
def slD : Option (Option Sl) → Option PyData
  | some (some (.val d)) => some d
  | some (some (.mut ds)) => some (.list ds)
  | _ => none
@[simp] theorem slD_val (d : PyData) : slD (some (some (.val d))) = some d := by_rfl rfl
@[simp] theorem slD_mut (ds : List PyData) : slD (some (some (.mut ds))) = some (.list ds) := by_rfl rfl
def binK2 (op : PyData → PyData → Option Ans) (w1 : W) : W → Env → Res W := fun w2 ρ2 => op2R op (rdW ρ2 w1) (rdW ρ2 w2) ρ2
def binK (op : PyData → PyData → Option Ans) (g : EF) : W → Env → Res W := fun w1 ρ1 => (g ρ1).bind (binK2 op w1)
def call1K (fn : PyData → Option Ans) : W → Env → Res W := fun w ρ1 => op1R fn (rdW ρ1 w) ρ1
def call2K2 (op : PyData → PyData → Option Ans) (w1 : W) : W → Env → Res W := fun w2 ρ2 => op2R op (rdW ρ2 w1) (rdW ρ2 w2) ρ2
def consK2 (w : W) : List W → Env → Res (List W) := fun ws ρ2 => .ok (w :: ws) ρ2
def consK (a : AF) : W → Env → Res (List W) := fun w ρ1 => (a ρ1).bind (consK2 w)
def tupR : Option (List PyData) → Env → Res W := fun x0 ρ => match x0 with
  | some ds => if ds.length ≤ sizeLine then .ok (.val (.tuple ds)) ρ else .stuck
  | none => .stuck
def lstR : Option (List PyData) → Env → Res W := fun x0 ρ => match x0 with
  | some ds => if ds.length ≤ sizeLine then .ok (.tmp ds) ρ else .stuck
  | none => .stuck
def tupK : List W → Env → Res W := fun ws ρ1 => tupR (vals ws) ρ1
def lstK : List W → Env → Res W := fun ws ρ1 => lstR (vals ws) ρ1
def andR (g : EF) (w : W) : Option Bool → Env → Res W := fun x0 ρ => match x0 with
  | some true => g ρ
  | some false => .ok w ρ
  | none => .stuck
def orR (g : EF) (w : W) : Option Bool → Env → Res W := fun x0 ρ => match x0 with
  | some true => .ok w ρ
  | some false => g ρ
  | none => .stuck
def notR : Option Bool → Env → Res W := fun x0 ρ => match x0 with
  | some k => .ok (.val (.bool (!k))) ρ
  | none => .stuck
def andK (g : EF) : W → Env → Res W := fun w ρ1 => andR g w (truW ρ1 w) ρ1
def orK (g : EF) : W → Env → Res W := fun w ρ1 => orR g w (truW ρ1 w) ρ1
def notK : W → Env → Res W := fun w ρ1 => notR (truW ρ1 w) ρ1
def negK : W → Env → Res W := fun w ρ1 => match w with | .val (.int i) => .ok (.val (.int (-i))) ρ1 | _ => .stuck
def bothK (u : TF) : Bool → Env → Res Bool := fun x0 ρ => match x0 with
  | true => u ρ
  | false => .ok false ρ
def eitherK (u : TF) : Bool → Env → Res Bool := fun x0 ρ => match x0 with
  | true => .ok true ρ
  | false => u ρ
def tnegK : Bool → Env → Res Bool := fun b ρ => .ok (!b) ρ
def boolK : W → Env → Res Bool := fun w ρ1 => match w with | .val (.bool k) => .ok k ρ1 | _ => .stuck
def truR : Option Bool → Env → Res Bool := fun x0 ρ => match x0 with
  | some k => .ok k ρ
  | none => .stuck
def truK : W → Env → Res Bool := fun w ρ1 => truR (truW ρ1 w) ρ1
def ifEK (f g : EF) : Bool → Env → Res W := fun x0 ρ => match x0 with
  | true => f ρ
  | false => g ρ
def exprK : W → Env → SRes := fun _ ρ => .nx ρ
def outR : Option (Sl × Env) → SRes
  | some (r, ρ) => .ret r ρ
  | none => .stuck
def retK (pin : List Nat) : W → Env → SRes := fun w ρ1 => outR (outW pin ρ1 w)
def putR : Option Env → SRes := fun x0 => match x0 with
  | some ρ => .nx ρ
  | none => .stuck
def setK (i : Nat) : W → Env → SRes := fun w ρ1 => putR (putW i ρ1 w)
def asgK (g : GF) : W → Env → SRes := fun w ρ1 => match w with | .val d => putR (g d ρ1) | _ => .stuck
def ifSK (s s2 : SF) : Bool → Env → SRes := fun x0 ρ => match x0 with
  | true => s ρ
  | false => s2 ρ
def forK (g : GF) (s : SF) : List PyData → Env → SRes := fun ds ρ1 => forL g s ds ρ1
def ixR (i : Nat) (d : PyData) (ds : List PyData) (ρ : Env) : Option Nat → SRes
  | some j => .nx (ρ.set i (some (.mut (ds.set j d))))
  | none => .stuck
def subR (i : Nat) (d : PyData) : W → Option (Option Sl) → Env → SRes := fun x0 x1 ρ => match x0, x1 with
  | .val (.int k), some (some (.mut ds)) => ixR i d ds ρ (ixN ds.length k)
  | _, _ => .stuck
def subK2 (i : Nat) (d : PyData) : W → Env → SRes := fun wi ρ2 => subR i d wi ρ2[i]? ρ2
def subK1 (i : Nat) (fi : EF) (d : PyData) : Option (Option Sl) → Env → SRes := fun x0 ρ => match x0 with
  | some (some (.mut _)) => (fi ρ).bindS (subK2 i d)
  | _ => .stuck
def subK (i : Nat) (fi : EF) : W → Env → SRes := fun x0 ρ => match x0 with
  | .val d => subK1 i fi d ρ[i]? ρ
  | _ => .stuck
def augR (i : Nat) : Option Ans → Env → SRes := fun x0 ρ => match x0 with
  | some (.val r) => .nx (ρ.set i (some (.val r)))
  | _ => .stuck
def augK2 (i : Nat) (op : PyData → PyData → Option Ans) (d0 : PyData) : W → Env → SRes := fun x0 ρ => match x0 with
  | .val d => augR i (op d0 d) ρ
  | _ => .stuck
def augK (i : Nat) (op : PyData → PyData → Option Ans) (fe : EF) : Option (Option Sl) → Env → SRes := fun x0 ρ => match x0 with
  | some (some (.val d0)) => (fe ρ).bindS (augK2 i op d0)
  | _ => .stuck
def mutR2 (i : Nat) : Option (PyData × List PyData) → Env → Res W := fun x0 ρ => match x0 with
  | some (res, ds') => .ok (.val res) (ρ.set i (some (.mut ds')))
  | none => .stuck
def mutR (i : Nat) (m : MutF) : Option (List PyData) → Option (Option Sl) → Env → Res W := fun x0 x1 ρ => match x0, x1 with
  | some args, some (some (.mut ds)) => mutR2 i (m ds args) ρ
  | _, _ => .stuck
def mutK2 (i : Nat) (m : MutF) : List W → Env → Res W := fun ws ρ1 => mutR i m (vals ws) ρ1[i]? ρ1
def mutK (i : Nat) (m : MutF) (a : AF) : Option (Option Sl) → Env → Res W := fun x0 ρ => match x0 with
  | some (some (.mut _)) => (a ρ).bind (mutK2 i m)
  | _ => .stuck
def callR2 (ws : List W) (ρ1 : Env) : CRes → Res W
  | .stuck => .stuck
  | .exc c => .exc c (dropL ws ρ1)
  | .ok r outs => if outs.length = ws.length then .ok r.w (backL ws outs ρ1) else .stuck
@[simp] theorem callR2_ok (ws : List W) (ρ1 : Env) (r : Sl) (outs : List Sl) : callR2 ws ρ1 (.ok r outs) = if outs.length = ws.length then .ok r.w (backL ws outs ρ1) else .stuck := by_rfl rfl
@[simp] theorem callR2_exc (ws : List W) (ρ1 : Env) (c : Str) : callR2 ws ρ1 (.exc c) = .exc c (dropL ws ρ1) := by_rfl rfl
def callR (m : DF) (ws : List W) (ρ1 : Env) : Option (List Sl) → Res W
  | none => .stuck
  | some args => if (locsOf ws).Nodup then callR2 ws ρ1 (m args) else .stuck
def callK (pin : List Nat) (m : DF) : List W → Env → Res W := fun ws ρ1 => callR m ws ρ1 (argsOf pin ρ1 0 ws)
def seqR : Option (List PyData) → Env → Res (List PyData) := fun x0 ρ => match x0 with
  | some ds => .ok ds ρ
  | none => .stuck
def seqK : W → Env → Res (List PyData) := fun x0 ρ => match x0 with
  | .val d => seqR (seqOf d) ρ
  | _ => .stuck
def rg1K : W → Env → Res (List PyData) := fun x0 ρ => match x0 with
  | .val (.int j) => if rgOk j then .ok (rangeL 0 j) ρ else .stuck
  | _ => .stuck
def rg2K2 : W → W → Env → Res (List PyData) := fun x0 x1 ρ => match x0, x1 with
  | .val (.int i), .val (.int j) => if rgOk i && rgOk j then .ok (rangeL i j) ρ else .stuck
  | _, _ => .stuck
def rg2K (g : EF) : W → Env → Res (List PyData) := fun w ρ1 => (g ρ1).bind (rg2K2 w)
def irevK : W → Env → Res (List PyData) := fun x0 ρ => match x0 with
  | .val (.list ds) => .ok ds.reverse ρ
  | _ => .stuck
def zipK2 : W → W → Env → Res (List PyData) := fun x0 x1 ρ => match x0, x1 with
  | .val (.list ds), .val (.list es) => .ok (zipL ds es) ρ
  | _, _ => .stuck
def zipK (g : EF) : W → Env → Res (List PyData) := fun w ρ1 => (eFz g ρ1).bind (zipK2 w)
def lcR : Res (List PyData) → Res W
  | .ok acc ρ => .ok (.tmp acc) ρ
  | _ => .stuck
@[simp] theorem lcR_ok (acc : List PyData) (ρ : Env) : lcR (.ok acc ρ) = .ok (.tmp acc) ρ := by_rfl rfl
def lcK (vs : List Nat) (g : GF) (t : TF) (f : EF) : List PyData → Env → Res W := fun ds ρ1 => lcR (lcL vs g t f ds ρ1 [])
def slK3 (w : W) (lo hi : Option Int) : Env → Res W := fun ρ3 => op1R (slOp lo hi) (rdW ρ3 w) ρ3
def slK2 (w : W) (lo : Option Int) : Option Int → Env → Res W := fun hi ρ3 => slK3 w lo hi ρ3
def slK1 (u : Env → Res (Option Int)) (w : W) : Option Int → Env → Res W := fun lo ρ2 => (u ρ2).bind (slK2 w lo)
def slK (l u : Env → Res (Option Int)) : W → Env → Res W := fun w ρ1 => (l ρ1).bind (slK1 u w)
def osK : W → Env → Res (Option Int) := fun x0 ρ => match x0 with
  | .val (.int i) => .ok (some i) ρ
  | _ => .stuck
def rg3K : List W → Env → Res W := fun ws ρ1 => match ws with
  | [.val (.int i), .val (.int j), .val (.int k)] => if k = -1 ∧ rgOk i = true ∧ rgOk j = true ∧ (i - j).toNat ≤ 2 ^ 24 then .ok (.tmp (downL i j)) ρ1 else .stuck
  | _ => .stuck
def ch3K (op' : PyData → PyData → Option Ans) (d2 : PyData) : W → Env → Res W := fun w3 ρ3 => op1R (op' d2) (rdW ρ3 w3) ρ3
def chR (op' : PyData → PyData → Option Ans) (h : EF) (d2 : PyData) : Option Ans → Env → Res W := fun x0 ρ => match x0 with
  | some (.val (.bool true)) => (h ρ).bind (ch3K op' d2)
  | some (.val (.bool false)) => .ok (.val (.bool false)) ρ
  | _ => .stuck
def chK2 (op op' : PyData → PyData → Option Ans) (h : EF) : W → W → Env → Res W := fun x0 x1 ρ => match x0, x1 with
  | .val d1, .val d2 => chR op' h d2 (op d1 d2) ρ
  | _, _ => .stuck
def chK (op op' : PyData → PyData → Option Ans) (g h : EF) : W → Env → Res W := fun w1 ρ1 => (eFz g ρ1).bind (chK2 op op' h w1)
def methR (op : PyData → PyData → Option Ans) (g : EF) (w1 : W) : Option PyData → Env → Res W := fun x0 ρ => match x0 with
  | some (.list _) => (g ρ).bind (binK2 op w1)
  | _ => .stuck
def methK (op : PyData → PyData → Option Ans) (g : EF) : W → Env → Res W := fun w1 ρ1 => methR op g w1 (rdW ρ1 w1) ρ1

theorem bind_cg {α β : Type} {r : Res α} {f g : α → Env → Res β} (h : ∀ a ρ, f a ρ = g a ρ) : r.bind f = r.bind g := by
  cases r <;> simp [h]
theorem bindS_cg {α : Type} {r : Res α} {f g : α → Env → SRes} (h : ∀ a ρ, f a ρ = g a ρ) : r.bindS f = r.bindS g := by
  cases r <;> simp [h]
section
variable (ρ : Env) (f g h : EF) (a : AF) (t u : TF) (s s2 : SF) (d e : PyData) (ds : List PyData) (i j : Nat) (op op' : PyData → PyData → Option Ans) (fn : PyData → Option Ans) (w w1 w2 : W) (b : Bool) (m : MutF) (pin : List Nat)
@[simp] theorem rd_val : rdW ρ (.val d) = some d := by_rfl rfl
@[simp] theorem rd_tmp : rdW ρ (.tmp ds) = some (.list ds) := by_rfl rfl
@[simp] theorem rd_loc : rdW ρ (.loc i) = slD ρ[i]? := by
  unfold rdW slD; rfl
@[simp] theorem fz_val : fzW ρ (.val d) = some (d, ρ) := by_rfl rfl
@[simp] theorem fz_tmp : fzW ρ (.tmp ds) = some (.list ds, ρ) := by_rfl rfl
@[simp] theorem fzK_val : fzK (.val d) ρ = .ok (.val d) ρ := by_rfl rfl
@[simp] theorem fzK_tmp : fzK (.tmp ds) ρ = .ok (.val (.list ds)) ρ := by_rfl rfl
@[simp] theorem fzK_loc : fzK (.loc i) ρ = locFz ρ[i]? ρ i := by
  unfold fzK fzW locFz
  dsimp only
  rcases ρ[i]? with _ | _ | _ | _ <;> rfl
@[simp] theorem ftK_val : ftK (.val d) ρ = .ok (.val d) ρ := by_rfl rfl
@[simp] theorem ftK_tmp : ftK (.tmp ds) ρ = .ok (.val (.list ds)) ρ := by_rfl rfl
@[simp] theorem ftK_loc : ftK (.loc i) ρ = .ok (.loc i) ρ := by_rfl rfl
@[simp] theorem answ_val : (Ans.val d).w = .val d := by_rfl rfl
@[simp] theorem answ_new : (Ans.new ds).w = .tmp ds := by_rfl rfl
@[simp] theorem slw_val : (Sl.val d).w = .val d := by_rfl rfl
@[simp] theorem slw_mut : (Sl.mut ds).w = .tmp ds := by_rfl rfl
@[simp] theorem eC_eq : eC d ρ = .ok (.val d) ρ := by_rfl rfl
@[simp] theorem eV_eq : eV i ρ = slR ρ[i]? ρ i := by
  unfold eV slR
  rcases ρ[i]? with _ | _ | _ | _ <;> rfl
@[simp] theorem eFz_eq : eFz f ρ = (f ρ).bind fzK := by_rfl rfl
@[simp] theorem eFt_eq : eFt f ρ = (f ρ).bind ftK := by_rfl rfl
@[simp] theorem eBin_eq : eBin op f g ρ = (eFt f ρ).bind (binK op g) := by
  unfold eBin
  refine bind_cg fun w1 ρ1 => ?_
  unfold binK
  refine bind_cg fun w2 ρ2 => ?_
  unfold binK2
  cases rdW ρ2 w1 <;> cases rdW ρ2 w2 <;> simp [op2R, ansR]
  all_goals (rename_i d1 d2; cases op d1 d2 <;> rfl)
@[simp] theorem binK_eq : binK op g w1 ρ = (g ρ).bind (binK2 op w1) := by_rfl rfl
@[simp] theorem binK2_eq : binK2 op w1 w2 ρ = op2R op (rdW ρ w1) (rdW ρ w2) ρ := by_rfl rfl
@[simp] theorem eCall1_eq : eCall1 fn f ρ = (f ρ).bind (call1K fn) := by
  unfold eCall1
  refine bind_cg fun w ρ1 => ?_
  unfold call1K
  cases rdW ρ1 w <;> simp [op1R, ansR]
  all_goals (rename_i d1; cases fn d1 <;> rfl)
@[simp] theorem call1K_eq : call1K fn w ρ = op1R fn (rdW ρ w) ρ := by_rfl rfl
@[simp] theorem aNil_eq : aNil ρ = .ok [] ρ := by_rfl rfl
@[simp] theorem aCons_eq : aCons f a ρ = (f ρ).bind (consK a) := by_rfl rfl
@[simp] theorem consK_eq : consK a w ρ = (a ρ).bind (consK2 w) := by_rfl rfl
@[simp] theorem consK2_eq (ws : List W) : consK2 w ws ρ = .ok (w :: ws) ρ := by_rfl rfl
@[simp] theorem eTup_eq : eTup a ρ = (a ρ).bind tupK := by
  unfold eTup
  refine bind_cg fun ws ρ1 => ?_
  unfold tupK
  cases vals ws <;> rfl
@[simp] theorem eLst_eq : eLst a ρ = (a ρ).bind lstK := by
  unfold eLst
  refine bind_cg fun ws ρ1 => ?_
  unfold lstK
  cases vals ws <;> rfl
@[simp] theorem tupK_eq (ws : List W) : tupK ws ρ = tupR (vals ws) ρ := by_rfl rfl
@[simp] theorem lstK_eq (ws : List W) : lstK ws ρ = lstR (vals ws) ρ := by_rfl rfl
@[simp] theorem tupR_eq : tupR (some ds) ρ = if ds.length ≤ sizeLine then .ok (.val (.tuple ds)) ρ else .stuck := by_rfl rfl
@[simp] theorem lstR_eq : lstR (some ds) ρ = if ds.length ≤ sizeLine then .ok (.tmp ds) ρ else .stuck := by_rfl rfl
@[simp] theorem vals_nil : vals [] = some [] := by_rfl rfl
@[simp] theorem vals_cons (ws : List W) : vals (.val d :: ws) = (vals ws).map (d :: ·) := by_rfl rfl
@[simp] theorem eAnd_eq : eAnd f g ρ = (f ρ).bind (andK g) := by
  unfold eAnd
  refine bind_cg fun w ρ1 => ?_
  unfold andK andR
  rcases truW ρ1 w with _ | _ | _ <;> rfl
@[simp] theorem eOr_eq : eOr f g ρ = (f ρ).bind (orK g) := by
  unfold eOr
  refine bind_cg fun w ρ1 => ?_
  unfold orK orR
  rcases truW ρ1 w with _ | _ | _ <;> rfl
@[simp] theorem eNot_eq : eNot f ρ = (f ρ).bind notK := by
  unfold eNot
  refine bind_cg fun w ρ1 => ?_
  unfold notK notR
  rcases truW ρ1 w with _ | _ | _ <;> rfl
@[simp] theorem andK_eq : andK g w ρ = andR g w (truW ρ w) ρ := by_rfl rfl
@[simp] theorem orK_eq : orK g w ρ = orR g w (truW ρ w) ρ := by_rfl rfl
@[simp] theorem notK_eq : notK w ρ = notR (truW ρ w) ρ := by_rfl rfl
@[simp] theorem andR_t : andR g w (some true) ρ = g ρ := by_rfl rfl
@[simp] theorem andR_f : andR g w (some false) ρ = .ok w ρ := by_rfl rfl
@[simp] theorem orR_t : orR g w (some true) ρ = .ok w ρ := by_rfl rfl
@[simp] theorem orR_f : orR g w (some false) ρ = g ρ := by_rfl rfl
@[simp] theorem notR_some : notR (some b) ρ = .ok (.val (.bool (!b))) ρ := by_rfl rfl
@[simp] theorem eNeg_eq : eNeg f ρ = (f ρ).bind negK := by_rfl rfl
@[simp] theorem negK_eq (k : Int) : negK (.val (.int k)) ρ = .ok (.val (.int (-k))) ρ := by_rfl rfl
@[simp] theorem tBothT_eq : tBothT t u ρ = (t ρ).bind (bothK u) := by
  unfold tBothT
  refine bind_cg fun b ρ1 => ?_
  cases b <;> rfl
@[simp] theorem tEitherT_eq : tEitherT t u ρ = (t ρ).bind (eitherK u) := by
  unfold tEitherT
  refine bind_cg fun b ρ1 => ?_
  cases b <;> rfl
@[simp] theorem tNegT_eq : tNegT t ρ = (t ρ).bind tnegK := by_rfl rfl
@[simp] theorem bothK_t : bothK u true ρ = u ρ := by_rfl rfl
@[simp] theorem bothK_f : bothK u false ρ = .ok false ρ := by_rfl rfl
@[simp] theorem eitherK_t : eitherK u true ρ = .ok true ρ := by_rfl rfl
@[simp] theorem eitherK_f : eitherK u false ρ = u ρ := by_rfl rfl
@[simp] theorem tnegK_eq : tnegK b ρ = .ok (!b) ρ := by_rfl rfl
@[simp] theorem tBool_eq : tBool f ρ = (f ρ).bind boolK := by_rfl rfl
@[simp] theorem boolK_eq : boolK (.val (.bool b)) ρ = .ok b ρ := by_rfl rfl
@[simp] theorem tTru_eq : tTru f ρ = (f ρ).bind truK := by
  unfold tTru
  refine bind_cg fun w ρ1 => ?_
  unfold truK truR
  rcases truW ρ1 w with _ | _ <;> rfl
@[simp] theorem truK_eq : truK w ρ = truR (truW ρ w) ρ := by_rfl rfl
@[simp] theorem truR_eq : truR (some b) ρ = .ok b ρ := by_rfl rfl
@[simp] theorem tYesT_eq : tYesT ρ = .ok true ρ := by_rfl rfl
@[simp] theorem eIf_eq : eIf t f g ρ = (t ρ).bind (ifEK f g) := by
  unfold eIf
  refine bind_cg fun b ρ1 => ?_
  cases b <;> rfl
@[simp] theorem ifEK_t : ifEK f g true ρ = f ρ := by_rfl rfl
@[simp] theorem ifEK_f : ifEK f g false ρ = g ρ := by_rfl rfl
@[simp] theorem sNil_eq : sNil ρ = .nx ρ := by_rfl rfl
@[simp] theorem sPass_eq : sPass ρ = .nx ρ := by_rfl rfl
@[simp] theorem sBrk_eq : sBrk ρ = .brk ρ := by_rfl rfl
@[simp] theorem sCnt_eq : sCnt ρ = .cnt ρ := by_rfl rfl
@[simp] theorem sSeq_eq : sSeq s s2 ρ = (s ρ).then s2 := by_rfl rfl
@[simp] theorem sExpr_eq : sExpr f ρ = (f ρ).bindS exprK := by_rfl rfl
@[simp] theorem exprK_eq : exprK w ρ = .nx ρ := by_rfl rfl
@[simp] theorem sRet_eq : sRet pin f ρ = (f ρ).bindS (retK pin) := by
  unfold sRet
  refine bindS_cg fun w ρ1 => ?_
  unfold retK outR; rfl
@[simp] theorem retK_eq : retK pin w ρ = outR (outW pin ρ w) := by_rfl rfl
@[simp] theorem outR_some (r : Sl) : outR (some (r, ρ)) = .ret r ρ := by_rfl rfl
@[simp] theorem sRetN_eq : sRetN ρ = .ret (.val .none) ρ := by_rfl rfl
@[simp] theorem sRaise_eq (c : Str) : sRaise c ρ = .exc c ρ := by_rfl rfl
@[simp] theorem sSet_eq : sSet i f ρ = (f ρ).bindS (setK i) := by
  unfold sSet
  refine bindS_cg fun w ρ1 => ?_
  unfold setK putR; rfl
@[simp] theorem setK_val : setK i (.val d) ρ = .nx (ρ.set i (some (.val d))) := by_rfl rfl
@[simp] theorem setK_tmp : setK i (.tmp ds) ρ = .nx (ρ.set i (some (.mut ds))) := by_rfl rfl
def setFz (i : Nat) : Res W → SRes
  | .ok (.val d) ρ => .nx (ρ.set i (some (.val d)))
  | _ => .stuck
@[simp] theorem setFz_ok : setFz i (.ok (.val d) ρ) = .nx (ρ.set i (some (.val d))) := by_rfl rfl
@[simp] theorem setK_loc : setK i (.loc j) ρ = setFz i (locFz ρ[j]? ρ j) := by
  rw [← fzK_loc]
  unfold setK fzK putR setFz
  show (match (fzW ρ (.loc j)).map (fun p => p.2.set i (some (.val p.1))) with | some ρ => SRes.nx ρ | none => .stuck) = _
  cases fzW ρ (.loc j) <;> rfl
@[simp] theorem sAsg_eq (g : GF) : sAsg g f ρ = (eFz f ρ).bindS (asgK g) := by
  unfold sAsg
  refine bindS_cg fun w ρ1 => ?_
  unfold asgK putR
  cases w <;> rfl
@[simp] theorem asgK_val (g : GF) : asgK g (.val d) ρ = putR (g d ρ) := by_rfl rfl
@[simp] theorem putR_some : putR (some ρ) = .nx ρ := by_rfl rfl
@[simp] theorem sIf_eq : sIf t s s2 ρ = (t ρ).bindS (ifSK s s2) := by
  unfold sIf
  refine bindS_cg fun b ρ1 => ?_
  cases b <;> rfl
@[simp] theorem ifSK_t : ifSK s s2 true ρ = s ρ := by_rfl rfl
@[simp] theorem ifSK_f : ifSK s s2 false ρ = s2 ρ := by_rfl rfl
@[simp] theorem sFor_eq (fi : IF) (g : GF) : sFor fi g s ρ = (fi ρ).bindS (forK g s) := by_rfl rfl
@[simp] theorem forK_eq (g : GF) : forK g s ds ρ = forL g s ds ρ := by_rfl rfl
@[simp] theorem sSub_eq (fi fe : EF) : sSub i fi fe ρ = (eFz fe ρ).bindS (subK i fi) := by
  unfold sSub
  show (eFz fe ρ).bindS _ = _
  unfold eFz
  cases fe ρ with
  | stuck => rfl
  | exc c ρ1 => rfl
  | ok w ρ1 =>
    simp only [Res.bind_ok]
    cases fzW ρ1 w with
    | none => rfl
    | some p =>
      obtain ⟨d, ρ2⟩ := p
      simp only [Res.bindS_ok, subK, subK1]
      cases hx : ρ2[i]? with
      | none => rfl
      | some o =>
        cases o with
        | none => rfl
        | some sl =>
          cases sl with
          | val d => rfl
          | «mut» ds =>
            refine bindS_cg fun wi ρ3 => ?_
            unfold subK2 subR ixR
            cases wi with
            | val d =>
              rcases ρ3[i]? with _ | _ | _ | _ <;> cases d <;> rfl
            | tmp ds => rfl
            | loc i => rfl
@[simp] theorem subK_val (fi : EF) : subK i fi (.val d) ρ = subK1 i fi d ρ[i]? ρ := by_rfl rfl
@[simp] theorem subK1_mut (fi : EF) : subK1 i fi d (some (some (.mut ds))) ρ = (fi ρ).bindS (subK2 i d) := by_rfl rfl
@[simp] theorem subK2_eq : subK2 i d w ρ = subR i d w ρ[i]? ρ := by_rfl rfl
@[simp] theorem subR_eq (k : Int) : subR i d (.val (.int k)) (some (some (.mut ds))) ρ = ixR i d ds ρ (ixN ds.length k) := by_rfl rfl
@[simp] theorem ixR_some : ixR i d ds ρ (some j) = .nx (ρ.set i (some (.mut (ds.set j d)))) := by_rfl rfl
@[simp] theorem sAug_eq : sAug i op f ρ = augK i op f ρ[i]? ρ := by
  unfold sAug augK
  cases ρ[i]? with
  | none => rfl
  | some o =>
    cases o with
    | none => rfl
    | some sl =>
      cases sl with
      | «mut» ds => rfl
      | val d0 =>
        refine bindS_cg fun w ρ1 => ?_
        cases w with
        | val d => unfold augK2 augR; rfl
        | tmp ds => rfl
        | loc i => rfl
@[simp] theorem augK_val : augK i op f (some (some (.val d))) ρ = (f ρ).bindS (augK2 i op d) := by_rfl rfl
@[simp] theorem augK2_val : augK2 i op d (.val e) ρ = augR i (op d e) ρ := by_rfl rfl
@[simp] theorem augR_val : augR i (some (.val d)) ρ = .nx (ρ.set i (some (.val d))) := by_rfl rfl
@[simp] theorem eMut_eq : eMut i m a ρ = mutK i m a ρ[i]? ρ := by
  unfold eMut mutK
  cases ρ[i]? with
  | none => rfl
  | some o =>
    cases o with
    | none => rfl
    | some sl =>
      cases sl with
      | val d => rfl
      | «mut» ds =>
        refine bind_cg fun ws ρ1 => ?_
        unfold mutK2 mutR mutR2
        cases vals ws <;> rfl
@[simp] theorem mutK_mut : mutK i m a (some (some (.mut ds))) ρ = (a ρ).bind (mutK2 i m) := by_rfl rfl
@[simp] theorem mutK2_eq (ws : List W) : mutK2 i m ws ρ = mutR i m (vals ws) ρ[i]? ρ := by_rfl rfl
@[simp] theorem mutR_eq (es : List PyData) : mutR i m (some es) (some (some (.mut ds))) ρ = mutR2 i (m ds es) ρ := by_rfl rfl
@[simp] theorem mutR2_eq : mutR2 i (some (d, ds)) ρ = .ok (.val d) (ρ.set i (some (.mut ds))) := by_rfl rfl
@[simp] theorem eCall_eq (m : DF) : eCall pin m a ρ = (a ρ).bind (callK pin m) := by
  unfold eCall
  refine bind_cg fun ws ρ1 => ?_
  unfold callK callR callR2
  cases argsOf pin ρ1 0 ws with
  | none => rfl
  | some args =>
    dsimp only
    all_goals (cases m args <;> rfl)
@[simp] theorem callK_eq (m : DF) (ws : List W) : callK pin m ws ρ = callR m ws ρ (argsOf pin ρ 0 ws) := by_rfl rfl
@[simp] theorem callR_some (m : DF) (ws : List W) (args : List Sl) : callR m ws ρ (some args) = if (locsOf ws).Nodup then callR2 ws ρ (m args) else .stuck := by_rfl rfl
@[simp] theorem argsOf_nil (k : Nat) : argsOf pin ρ k [] = some [] := by_rfl rfl
@[simp] theorem argsOf_val (k : Nat) (ws : List W) : argsOf pin ρ k (.val d :: ws) = (argsOf pin ρ (k + 1) ws).map (.val d :: ·) := by_rfl rfl
@[simp] theorem argsOf_tmp (k : Nat) (ws : List W) : argsOf pin ρ k (.tmp ds :: ws) = if pin.contains k = true then (argsOf pin ρ (k + 1) ws).map (.mut ds :: ·) else none := by_rfl rfl
def locA : Option (Option Sl) → Option (List Sl) → Option (List Sl)
  | some (some s), o => o.map (s :: ·)
  | _, _ => none
@[simp] theorem locA_some (sl : Sl) (o : Option (List Sl)) : locA (some (some sl)) o = o.map (sl :: ·) := by_rfl rfl
@[simp] theorem argsOf_loc (k : Nat) (ws : List W) : argsOf pin ρ k (.loc i :: ws) = if pin.contains k = true then locA ρ[i]? (argsOf pin ρ (k + 1) ws) else none := by
  rw [argsOf]
  unfold locA
  rcases ρ[i]? with _ | _ | _ <;> rfl
@[simp] theorem locs_nil : locsOf [] = [] := by_rfl rfl
@[simp] theorem locs_val (ws : List W) : locsOf (.val d :: ws) = locsOf ws := by_rfl rfl
@[simp] theorem locs_tmp (ws : List W) : locsOf (.tmp ds :: ws) = locsOf ws := by_rfl rfl
@[simp] theorem locs_loc (ws : List W) : locsOf (.loc i :: ws) = i :: locsOf ws := by_rfl rfl
@[simp] theorem back_nil (os : List Sl) : backL [] os ρ = ρ := by_rfl rfl
@[simp] theorem back_val (ws : List W) (o : Sl) (os : List Sl) : backL (.val d :: ws) (o :: os) ρ = backL ws os ρ := by_rfl rfl
@[simp] theorem back_tmp (ws : List W) (o : Sl) (os : List Sl) : backL (.tmp ds :: ws) (o :: os) ρ = backL ws os ρ := by_rfl rfl
@[simp] theorem back_loc (ws : List W) (o : Sl) (os : List Sl) : backL (.loc i :: ws) (o :: os) ρ = (backL ws os ρ).set i (some o) := by_rfl rfl
@[simp] theorem iSeq_eq : iSeq f ρ = (eFz f ρ).bind seqK := by
  unfold iSeq
  refine bind_cg fun w ρ1 => ?_
  cases w with
  | val d => unfold seqK seqR; rfl
  | _ => rfl
@[simp] theorem seqK_val : seqK (.val d) ρ = seqR (seqOf d) ρ := by_rfl rfl
@[simp] theorem seqR_some : seqR (some ds) ρ = .ok ds ρ := by_rfl rfl
@[simp] theorem iRange1_eq : iRange1 f ρ = (f ρ).bind rg1K := by_rfl rfl
@[simp] theorem rg1K_int (k : Int) : rg1K (.val (.int k)) ρ = if rgOk k then .ok (rangeL 0 k) ρ else .stuck := by_rfl rfl
@[simp] theorem iRange2_eq : iRange2 f g ρ = (eFz f ρ).bind (rg2K g) := by_rfl rfl
@[simp] theorem rg2K_eq : rg2K g w ρ = (g ρ).bind (rg2K2 w) := by_rfl rfl
@[simp] theorem rg2K2_int (k l : Int) : rg2K2 (.val (.int k)) (.val (.int l)) ρ = if rgOk k && rgOk l then .ok (rangeL k l) ρ else .stuck := by_rfl rfl
@[simp] theorem iRev_eq : iRev f ρ = (eFz f ρ).bind irevK := by_rfl rfl
@[simp] theorem irevK_eq : irevK (.val (.list ds)) ρ = .ok ds.reverse ρ := by_rfl rfl
@[simp] theorem iZip_eq : iZip f g ρ = (eFz f ρ).bind (zipK g) := by_rfl rfl
@[simp] theorem zipK_eq : zipK g w ρ = (eFz g ρ).bind (zipK2 w) := by_rfl rfl
@[simp] theorem zipK2_eq (es : List PyData) : zipK2 (.val (.list ds)) (.val (.list es)) ρ = .ok (zipL ds es) ρ := by_rfl rfl
@[simp] theorem eLc_eq (vs : List Nat) (fi : IF) (g : GF) : eLc vs fi g t f ρ = (fi ρ).bind (lcK vs g t f) := by
  unfold eLc
  refine bind_cg fun ds ρ1 => ?_
  unfold lcK lcR; rfl
@[simp] theorem lcK_eq (vs : List Nat) (g : GF) : lcK vs g t f ds ρ = lcR (lcL vs g t f ds ρ []) := by_rfl rfl
@[simp] theorem eSl_eq (l u : Env → Res (Option Int)) : eSl f l u ρ = (eFt f ρ).bind (slK l u) := by
  unfold eSl
  refine bind_cg fun w ρ1 => ?_
  unfold slK
  refine bind_cg fun lo ρ2 => ?_
  unfold slK1
  refine bind_cg fun hi ρ3 => ?_
  unfold slK2 slK3
  cases rdW ρ3 w <;> simp [op1R, ansR]
  all_goals (rename_i d1; cases slOp lo hi d1 <;> rfl)
@[simp] theorem slK_eq (l u : Env → Res (Option Int)) : slK l u w ρ = (l ρ).bind (slK1 u w) := by_rfl rfl
@[simp] theorem slK1_eq (u : Env → Res (Option Int)) (lo : Option Int) : slK1 u w lo ρ = (u ρ).bind (slK2 w lo) := by_rfl rfl
@[simp] theorem slK2_eq (lo hi : Option Int) : slK2 w lo hi ρ = op1R (slOp lo hi) (rdW ρ w) ρ := by_rfl rfl
@[simp] theorem oNone_eq : oNone ρ = .ok none ρ := by_rfl rfl
@[simp] theorem oSome_eq : oSome f ρ = (f ρ).bind osK := by_rfl rfl
@[simp] theorem osK_int (k : Int) : osK (.val (.int k)) ρ = .ok (some k) ρ := by_rfl rfl
@[simp] theorem eRange3_eq : eRange3 a ρ = (a ρ).bind rg3K := by_rfl rfl
@[simp] theorem rg3K_eq (k l n : Int) : rg3K [.val (.int k), .val (.int l), .val (.int n)] ρ = if n = -1 ∧ rgOk k = true ∧ rgOk l = true ∧ (k - l).toNat ≤ 2 ^ 24 then .ok (.tmp (downL k l)) ρ else .stuck := by_rfl rfl
@[simp] theorem eChain_eq : eChain op op' f g h ρ = (eFz f ρ).bind (chK op op' g h) := by
  unfold eChain
  refine bind_cg fun w1 ρ1 => ?_
  unfold chK
  refine bind_cg fun w2 ρ2 => ?_
  unfold chK2
  cases w1 <;> cases w2 <;> rfl
@[simp] theorem chK_eq : chK op op' g h w ρ = (eFz g ρ).bind (chK2 op op' h w) := by_rfl rfl
@[simp] theorem chK2_eq : chK2 op op' h (.val d) (.val e) ρ = chR op' h e (op d e) ρ := by_rfl rfl
@[simp] theorem chR_t : chR op' h d (some (.val (.bool true))) ρ = (h ρ).bind (ch3K op' d) := by_rfl rfl
@[simp] theorem chR_f : chR op' h d (some (.val (.bool false))) ρ = .ok (.val (.bool false)) ρ := by_rfl rfl
@[simp] theorem ch3K_eq : ch3K op' d w ρ = op1R (op' d) (rdW ρ w) ρ := by_rfl rfl
@[simp] theorem eMeth1_eq : eMeth1 op f g ρ = (eFt f ρ).bind (methK op g) := by
  unfold eMeth1
  refine bind_cg fun w1 ρ1 => ?_
  unfold methK methR
  cases rdW ρ1 w1 with
  | none => rfl
  | some d1 =>
    cases d1 with
    | list ds =>
      refine bind_cg fun w2 ρ2 => ?_
      unfold binK2
      cases rdW ρ2 w1 <;> cases rdW ρ2 w2 <;> simp [op2R, ansR]
      all_goals (rename_i d1 d2; cases op d1 d2 <;> rfl)
    | _ => rfl
@[simp] theorem methK_eq : methK op g w ρ = methR op g w (rdW ρ w) ρ := by_rfl rfl
@[simp] theorem methR_eq : methR op g w (some (.list ds)) ρ = (g ρ).bind (binK2 op w) := by_rfl rfl
@[simp] theorem truW_eq : truW ρ w = (rdW ρ w).bind truD := by_rfl rfl
def outLoc (b : Bool) (ρ : Env) (i : Nat) : Option (Option Sl) → Option (Sl × Env)
  | some (some (.val d)) => some (.val d, ρ)
  | some (some (.mut ds)) => bif b then some (.val (.list ds), ρ.set i (some (.val (.list ds)))) else some (.mut ds, ρ.set i none)
  | _ => none
@[simp] theorem outLoc_val : outLoc b ρ i (some (some (.val d))) = some (.val d, ρ) := by_rfl rfl
@[simp] theorem outLoc_mutF : outLoc false ρ i (some (some (.mut ds))) = some (.mut ds, ρ.set i none) := by_rfl rfl
@[simp] theorem outLoc_mutT : outLoc true ρ i (some (some (.mut ds))) = some (.val (.list ds), ρ.set i (some (.val (.list ds)))) := by_rfl rfl
@[simp] theorem out_loc : outW pin ρ (.loc i) = outLoc (pin.contains i) ρ i ρ[i]? := by
  unfold outW outLoc
  dsimp only
  rcases ρ[i]? with _ | _ | _ | _ <;> cases pin.contains i <;> rfl
@[simp] theorem out_val : outW pin ρ (.val d) = some (.val d, ρ) := by_rfl rfl
@[simp] theorem out_tmp : outW pin ρ (.tmp ds) = some (.mut ds, ρ) := by_rfl rfl
end
section
variable (i j : Int) (x y : Str) (xs ys : List PyData) (b : Bool) (d : PyData)
@[simp] theorem addOp_int : addOp (.int i) (.int j) = some (.val (.int (i + j))) := by_rfl rfl
@[simp] theorem addOp_str : addOp (.str x) (.str y) = if x.length + y.length ≤ sizeLine then some (.val (.str (x ++ y))) else none := by_rfl rfl
@[simp] theorem addOp_lst : addOp (.list xs) (.list ys) = if xs.length + ys.length ≤ sizeLine then some (.new (xs ++ ys)) else none := by_rfl rfl
@[simp] theorem subOp_int : subOp (.int i) (.int j) = some (.val (.int (i - j))) := by_rfl rfl
@[simp] theorem mulOp_int : mulOp (.int i) (.int j) = if (smallI i || smallI j) = true then some (.val (.int (i * j))) else none := by
  have h : mulOp (.int i) (.int j) = if (smallI i || smallI j) = true then some (.val (.int (i * j))) else none := rfl
  rw [h]
@[simp] theorem fdivOp_int : fdivOp (.int i) (.int j) = if 0 < j ∧ j < 1073741824 then some (.val (.int (i / j))) else none := by_rfl rfl
@[simp] theorem modOp_int : modOp (.int i) (.int j) = if 0 < j then some (.val (.int (i % j))) else none := by_rfl rfl
@[simp] theorem powOp_int : powOp (.int i) (.int j) = if 0 ≤ j ∧ j ≤ 1000000 ∧ i.natAbs < 2 ^ 64 then some (.val (.int (i ^ j.toNat))) else none := by_rfl rfl
@[simp] theorem ltOp_int : ltOp (.int i) (.int j) = some (.val (.bool (decide (i < j)))) := by_rfl rfl
@[simp] theorem leOp_int : leOp (.int i) (.int j) = some (.val (.bool (decide (i ≤ j)))) := by_rfl rfl
@[simp] theorem gtOp_int : gtOp (.int i) (.int j) = some (.val (.bool (decide (j < i)))) := by_rfl rfl
@[simp] theorem geOp_int : geOp (.int i) (.int j) = some (.val (.bool (decide (j ≤ i)))) := by_rfl rfl
@[simp] theorem lenFn_list : lenFn (.list xs) = some (.val (.int xs.length)) := by_rfl rfl
@[simp] theorem lenFn_tup : lenFn (.tuple xs) = some (.val (.int xs.length)) := by_rfl rfl
@[simp] theorem lenFn_str : lenFn (.str x) = if x.length ≤ sizeLine then some (.val (.int x.length)) else none := by_rfl rfl
@[simp] theorem lenFn_scr : lenFn (.dict [(.list xs, .none)]) = some (.val (.int xs.length)) := by_rfl rfl
@[simp] theorem idxOp_list : idxOp (.list xs) (.int i) = (atI xs i).map .val := by_rfl rfl
@[simp] theorem idxOp_tup : idxOp (.tuple xs) (.int i) = (atI xs i).map .val := by_rfl rfl
@[simp] theorem idxOp_str : idxOp (.str x) (.int i) = if x.length ≤ sizeLine then (atI x.cps.toList i).map fun c => .val (.str ⟨#[c]⟩) else none := by_rfl rfl
@[simp] theorem idxOp_scr : idxOp (.dict [(.list xs, .none)]) (.int i) = (atI xs i).map .val := by_rfl rfl
@[simp] theorem seqOf_list : seqOf (.list xs) = some xs := by_rfl rfl
@[simp] theorem seqOf_tup : seqOf (.tuple xs) = some xs := by_rfl rfl
@[simp] theorem seqOf_str : seqOf (.str x) = some (x.cps.toList.map fun c => .str ⟨#[c]⟩) := by_rfl rfl
@[simp] theorem truD_bool : truD (.bool b) = some b := by_rfl rfl
@[simp] theorem truD_list : truD (.list xs) = some (!xs.isEmpty) := by_rfl rfl
@[simp] theorem truD_tup : truD (.tuple xs) = some (!xs.isEmpty) := by_rfl rfl
@[simp] theorem truD_int : truD (.int i) = some (i != 0) := by_rfl rfl
@[simp] theorem truD_none : truD .none = some false := by_rfl rfl
@[simp] theorem listFn_list : listFn (.list xs) = some (.new xs) := by_rfl rfl
@[simp] theorem listFn_tup : listFn (.tuple xs) = some (.new xs) := by_rfl rfl
@[simp] theorem appendM_eq : appendM xs [d] = if xs.length < sizeLine then some (.none, xs ++ [d]) else none := by_rfl rfl
theorem eqOp_eq (d e : PyData) : eqOp d e = if eqOk d e = true then some (.val (.bool (PyData.eqv d e))) else none := rfl
theorem neOp_eq (d e : PyData) : neOp d e = if eqOk d e = true then some (.val (.bool (!PyData.eqv d e))) else none := rfl
end
theorem eqOk_int (i j : Int) : eqOk (.int i) (.int j) = true := by simp [eqOk, PyData.canLay0, PyData.depth]
@[simp] theorem eqOp_int (i j : Int) : eqOp (.int i) (.int j) = some (.val (.bool (decide (i = j)))) := by
  rw [eqOp_eq, if_pos (eqOk_int i j)]; simp [PyData.eqv]; by_cases h : i = j <;> simp [h]
@[simp] theorem neOp_int (i j : Int) : neOp (.int i) (.int j) = some (.val (.bool (!decide (i = j)))) := by
  rw [neOp_eq, if_pos (eqOk_int i j)]; simp [PyData.eqv]; by_cases h : i = j <;> simp [h]
end Ls
namespace Ls
open PySem PySem.Spec PyProof.Rows L2

def leS (a b : Str) : Bool := !ltCps b.cps.toList a.cps.toList
theorem leS_iff {a b : Str} : leS a b = true ↔ a.cps.toList ≤ b.cps.toList := by
  unfold leS
  rw [ltCps_eq]
  simp
theorem leS_trans (a b c : Str) (h : leS a b = true) (g : leS b c = true) : leS a c = true := leS_iff.mpr (List.le_trans (leS_iff.mp h) (leS_iff.mp g))
theorem leS_total (a b : Str) : (leS a b || leS b a) = true := by
  rcases List.le_total a.cps.toList b.cps.toList with h | h
  · rw [leS_iff.mpr h]; rfl
  · rw [leS_iff.mpr h, Bool.or_true]
theorem leS_anti {a b : Str} (h : leS a b = true) (g : leS b a = true) : a = b := by
  have := List.le_antisymm (leS_iff.mp h) (leS_iff.mp g)
  cases a; cases b; simp at this; rw [this]
def sortS (ss : List Str) : List Str := ss.mergeSort leS
theorem sortS_perm (ss : List Str) : (sortS ss).Perm ss := List.mergeSort_perm ss leS
theorem sortS_pair (ss : List Str) : (sortS ss).Pairwise (fun a b => leS a b = true) := List.pairwise_mergeSort leS_trans leS_total ss
theorem rising_pair : ∀ (p : Str) (l : List Str), risingS p l = true → (p :: l).Pairwise (fun a b => leS a b = true)
  | p, [], _ => by simp
  | p, x :: r, h => by
    unfold risingS at h
    rw [Bool.and_eq_true] at h
    have h2 := rising_pair x r h.2
    have h1 : leS p x = true := h.1
    refine List.pairwise_cons.mpr ⟨fun y hy => ?_, h2⟩
    rcases List.mem_cons.mp hy with rfl | q
    · exact h1
    · exact leS_trans _ _ _ h1 ((List.pairwise_cons.mp h2).1 y q)
theorem sorted_pair : ∀ (l : List Str), sortedS l = true → l.Pairwise (fun a b => leS a b = true)
  | [], _ => List.Pairwise.nil
  | x :: r, h => rising_pair x r h
theorem sortS_uniq {ys ss : List Str} (h : ys.Perm ss) (p : ys.Pairwise (fun a b => leS a b = true)) : ys = sortS ss :=
  List.Perm.eq_of_pairwise (fun a b _ _ h1 h2 => leS_anti h1 h2) p (sortS_pair ss) (h.trans (sortS_perm ss).symm)
def leI (a b : Int) : Bool := decide (a ≤ b)
def sortI (ss : List Int) : List Int := ss.mergeSort leI
theorem leI_trans (a b c : Int) (h : leI a b = true) (g : leI b c = true) : leI a c = true := by simp only [leI, decide_eq_true_eq] at *; omega
theorem leI_total (a b : Int) : (leI a b || leI b a) = true := by simp only [leI, Bool.or_eq_true, decide_eq_true_eq]; omega
theorem sortI_perm (ss : List Int) : (sortI ss).Perm ss := List.mergeSort_perm ss leI
theorem sortI_pair (ss : List Int) : (sortI ss).Pairwise (fun a b => leI a b = true) := List.pairwise_mergeSort leI_trans leI_total ss
theorem sortI_uniq {ys ss : List Int} (h : ys.Perm ss) (p : ys.Pairwise (· ≤ ·)) : ys = sortI ss :=
  List.Perm.eq_of_pairwise (le := fun a b => leI a b = true) (fun a b _ _ h1 h2 => by simp only [leI, decide_eq_true_eq] at *; omega) (p.imp fun h => by simpa [leI] using h) (sortI_pair ss) (h.trans (sortI_perm ss).symm)
def sortedFn : PyData → Option Ans
  | .list xs => match strsOf xs with
    | some ss => if ss.length < 64 then some (.new ((sortS ss).map .str)) else none
    | none => match intsOf xs with
      | some ns => if ns.length < 64 then some (.new ((sortI ns).map .int)) else none
      | none => none
  | _ => none
section
variable {K : PySem.W.Frag}
theorem rep_strs {F : Addr → Prop} {H : Hp} : ∀ (ss : List Str), RepA K F H (ss.map V.str) (ss.map .str)
  | [] => .nil
  | s :: ss => .cons (.str s) (rep_strs ss)
theorem rep_ints {F : Addr → Prop} {H : Hp} : ∀ (ss : List Int), RepA K F H (ss.map V.int) (ss.map .int)
  | [] => .nil
  | s :: ss => .cons (.int s) (rep_ints ss)
theorem c_sortedA {X : Cx} : CallR X (.builtin "sorted") (fun xs H Q => rSortedS X.K xs H Q ∨ rSorted X.K xs H Q) := CallR.or cr_sortedS cr_sorted
theorem k_sorted : CallS K (fun xs H Q => rSortedS K xs H Q ∨ rSorted K xs H Q) sortedFn := by
  intro F B σ H ρ x d a E r e Q hQ
  unfold sortedFn at e
  split at e
  · obtain ⟨l, vs, rfl, h1, ra⟩ := r.lst
    split at e
    · rename_i ss hs
      split at e
      · rename_i h64
        cases e
        have := strsOf_ok ra hs
        subst this
        exact .inl ⟨l, ss, rfl, .inl h1, h64, fun ys p hp hy hn => by
          rw [sortS_uniq hp (sorted_pair ys hy)]
          exact hQ _ _ _ (E.newT hn).1 (E.newT hn).2 (E.tmp hn (rep_strs _))⟩
      · cases e
    · split at e
      · rename_i ns hs
        split at e
        · rename_i h64
          cases e
          have := intsOf_ok ra hs
          subst this
          exact .inr ⟨l, ns, rfl, .inl h1, h64, fun ys p hp hy hn => by
            rw [sortI_uniq hp hy]
            exact hQ _ _ _ (E.newT hn).1 (E.newT hn).2 (E.tmp hn (rep_ints _))⟩
        · cases e
      · cases e
  · cases e
end
@[simp] theorem strsOf_map (ss : List Str) : strsOf (ss.map .str) = some ss := by
  induction ss with
  | nil => rfl
  | cons s ss ih => simp [strsOf, ih]
@[simp] theorem intsOf_map (ss : List Int) : intsOf (ss.map .int) = some ss := by
  induction ss with
  | nil => rfl
  | cons s ss ih => simp [intsOf, ih]
theorem sortedFn_strs {ss : List Str} (h : ss.length < 64) : sortedFn (.list (ss.map .str)) = some (.new ((sortS ss).map .str)) := by
  show (match strsOf (ss.map .str) with | some ss => if ss.length < 64 then some (Ans.new ((sortS ss).map .str)) else none | none => _) = _
  rw [strsOf_map]
  exact if_pos h
def rCountX (K : PySem.W.Frag) : V → List V → Hp → VK → Prop := fun x xs H Q => ∃ (a : Addr) (ys : List V) (y : V) (ds : List PyData) (dx : PyData), x = .ref a ∧ xs = [y] ∧ Rd H a (.lst ys) ∧ DpAll K H ys ds ∧ Dp K H y dx ∧ dx.canLay0 = true ∧ PyData.canLayAll0 ds = true ∧ dx.depth ≤ 190 ∧ Q (.int (ds.countP fun e => PyData.eqv e dx : Nat)) H
theorem countP_at {h : Heap} {dx : PyData} : ∀ {us : List Value} {ds : List PyData} {as : List Addr}, ReadsAll h us ds as → PyData.canLayAll0 ds = true → us.countP (eqR h dx) = ds.countP fun e => PyData.eqv e dx
  | _, _, _, .nil, _ => rfl
  | _, _, _, .cons r t, c => by
    simp only [PyData.canLayAll0, Bool.and_eq_true] at c
    rw [List.countP_cons, List.countP_cons, countP_at t c.2, eqR_of r c.1]
theorem mt_countX {X : Cx} (hu : X.A.units + 200 < cLine) : MtR X "list.count" (rCountX X.K) := by
  intro pins s σ H x xs v us Q I rx rxs h
  obtain ⟨a, ys, y, ds, dx, rfl, rfl, hs, hd, hx, c1, c2, hdx, q⟩ := h
  cases rx
  obtain ⟨uy, rfl, ry⟩ := Vals.one rxs
  obtain ⟨z, its, n, rv, hl, e⟩ := rd_ok I hs
  obtain ⟨bs, r1⟩ := Dp.reads I dx y uy hx ry
  obtain ⟨as, r2⟩ := Dp.readsAll I ds ys its hd rv
  refine call_meets PySem.F.slot_list_count ⟨_, e, rfl⟩ PySem.F.entry_list_count (PySem.F.args_list_count_2 _ _)
    (SeqAt.list_countAt a its.toArray n none #[] uy (eqR s.heap dx)) ⟨e, in_eqs r2 c2 r1 c1 hdx hu, ?_⟩
  have hc := countP_at (dx := dx) r2 c2
  exact ⟨.int (ds.countP fun e => PyData.eqv e dx : Nat), H, I.tok _, ⟨s.toks, by
    show Value.int ((its.toArray.toList.countP (eqR s.heap dx) : Nat) : Int) s.toks = Value.int ((ds.countP fun e => PyData.eqv e dx : Nat) : Int) s.toks
    rw [← hc]⟩, q⟩
def countOp : PyData → PyData → Option Ans
  | .list ds, x => if x.canLay0 && PyData.canLayAll0 ds && decide (x.depth ≤ 190) then some (.val (.int (ds.countP fun e => PyData.eqv e x : Nat))) else none
  | _, _ => none
theorem meth_count {K : PySem.W.Frag} : MethS K (rCountX K) countOp := bin_val fun F H x y d1 d2 a r1 r2 e => by
  unfold countOp at e
  split at e
  · split at e
    · rename_i ds hc
      simp only [Bool.and_eq_true, decide_eq_true_eq] at hc
      cases e
      obtain ⟨l, vs, rfl, h1, ra⟩ := r1.lst
      exact ⟨_, rfl, _, fun F' H' => .int _, fun Q q => ⟨l, vs, y, ds, d2, rfl, rfl, h1, ra.dp _ _ hc.1.2, r2.dp hc.1.1, hc.1.1, hc.1.2, hc.2, q⟩⟩
    · cases e
  · cases e
section
variable {X : Cx} {C : Cof} {Z : WX} {a b : Expr} {f g : EF} {apos cpos : Pos}
theorem r_count (hu : X.A.units + 200 < cLine) (ha : PEr X C Z a f) (hb : PEr X C Z b g) (hbase : attributeBase a "count" X.env (eval a X.env) = eval a X.env := by rfl)
    (hfew : ((backTo cpos (starEach [b] X.env)).all (fun x => !x.1) && (backToKw cpos (keywordEach [] X.env)).all (fun x => x.1.isSome)
      && decide (([b] : List Expr).length + ([] : List Keyword).length + (if ([] : List Keyword).isEmpty then 0 else 1) < 30)) = true := by rfl)
    (hline : (apos.endLine == cpos.line) = true := by rfl) (hs : starEach [b] X.env = (false, eval b X.env) :: starEach [] X.env := by rfl) (hplain : (backTo cpos (starEach [] X.env)).any (·.1) = false := by rfl) :
    PEr X C Z (.Call (.Attribute a "count" apos) [b] [] cpos) (eMeth1 countOp f g) := r_meth PySem.F.slot_list_count PySem.F.type_list_count (mt_countX hu) meth_count ha hb hbase hfew hline hs hplain
end
def insertM : MutF
  | ds, [.int i, d] => if ds.length < sizeLine ∧ 0 ≤ i ∧ i < 2 ^ 63 then some (.none, ds.take i.toNat ++ [d] ++ ds.drop i.toNat) else none
  | _, _ => none
def rInsert : V → List V → Hp → VK → Prop := fun x vs H Q => ∃ (l : Addr) (xs : List V) (i : Int) (y : V), x = .ref l ∧ vs = [.int i, y] ∧ H l = some (.lst xs) ∧ xs.length < sizeLine ∧ 0 ≤ i ∧ i < 2 ^ 63 ∧
    Q .non (upd H l (.lst (xs.take i.toNat ++ [y] ++ xs.drop i.toNat)))
theorem mt_insertX {X : Cx} : MtR X "list.insert" rInsert := mt_insert
theorem RepA.two {K : PySem.W.Frag} {F : Addr → Prop} {H : Hp} {vs : List V} {d e : PyData} (r : RepA K F H vs [d, e]) : ∃ v u, vs = [v, u] ∧ Rep K F H v d ∧ Rep K F H u e := by
  cases r with
  | cons r1 r2 =>
    obtain ⟨u, rfl, h⟩ := RepA.one r2
    exact ⟨_, u, rfl, r1, h⟩
theorem m_insert {K : PySem.W.Frag} : MutS K rInsert insertM := by
  intro F H l vs ds args dargs res ds' hl rl ra e Q hQ
  unfold insertM at e
  split at e
  · split at e
    · rename_i i d hz
      cases e
      obtain ⟨v, u, rfl, rv, ru⟩ := ra.two
      cases rv
      exact ⟨l, vs, i, u, rfl, rfl, hl, by rw [rl.len]; exact hz.1, hz.2.1, hz.2.2, hQ _ _ .non (((rl.take _).app (.cons ru .nil)).app (rl.drop _))⟩
    · cases e
  · cases e
end Ls
namespace Ls
open PySem PySem.Spec PyProof.Rows L2

theorem forL_inv {g : GF} {body : SF} {ds : List PyData} (P : Nat → Env → Prop)
    (h : ∀ i (hi : i < ds.length) ρ, P i ρ → ∃ ρ1 ρ2, g ds[i] ρ = some ρ1 ∧ (body ρ1 = .nx ρ2 ∨ body ρ1 = .cnt ρ2) ∧ P (i + 1) ρ2) {ρ : Env} (h0 : P 0 ρ) :
    ∃ ρ', forL g body ds ρ = .nx ρ' ∧ P ds.length ρ' := by
  suffices H : ∀ (n : Nat) (es : List PyData) (ρ : Env), ds.length = n + es.length → ds.drop n = es → P n ρ → ∃ ρ', forL g body es ρ = .nx ρ' ∧ P ds.length ρ' from H 0 ds ρ (by simp) (by simp) h0
  intro n es
  induction es generalizing n with
  | nil => intro ρ hl _ hp; exact ⟨ρ, rfl, by simpa [hl] using hp⟩
  | cons d es ih =>
    intro ρ hl hd hp
    have hn : n < ds.length := by simp at hl; omega
    have hdn : ds[n] = d := by
      have := List.drop_eq_getElem_cons hn
      rw [hd] at this
      exact (List.cons.inj this).1.symm
    have hes : ds.drop (n + 1) = es := by
      have := List.drop_eq_getElem_cons hn
      rw [hd] at this
      exact (List.cons.inj this).2.symm
    obtain ⟨ρ1, ρ2, h1, h2, h3⟩ := h n hn ρ hp
    rw [hdn] at h1
    obtain ⟨ρ', h4, h5⟩ := ih (n + 1) ρ2 (by simp at hl; omega) hes h3
    refine ⟨ρ', ?_, h5⟩
    rw [forL, h1]
    rcases h2 with h2 | h2 <;> simp only [h2, h4]
theorem while_inv {t : TF} {body : SF} (P Q : Env → Prop) (μ : Env → Nat)
    (h : ∀ ρ, P ρ → (∃ ρ1, t ρ = .ok false ρ1 ∧ Q ρ1) ∨ (∃ ρ1 ρ2, t ρ = .ok true ρ1 ∧ (body ρ1 = .nx ρ2 ∨ body ρ1 = .cnt ρ2) ∧ P ρ2 ∧ μ ρ2 < μ ρ)) :
    ∀ {ρ : Env}, P ρ → ∃ ρ', sWhile t body ρ = .nx ρ' ∧ Q ρ' := by
  suffices H : ∀ n ρ, μ ρ ≤ n → P ρ → ∃ ρ', sWhile t body ρ = .nx ρ' ∧ Q ρ' from fun {ρ} hp => H _ ρ (Nat.le_refl _) hp
  intro n
  induction n with
  | zero =>
    intro ρ hm hp
    rcases h ρ hp with ⟨ρ1, h1, h2⟩ | ⟨ρ1, ρ2, _, _, _, h4⟩
    · refine ⟨ρ1, ?_, h2⟩
      show whileW (turnW t body) ρ = _
      rw [whileW_eq]
      simp only [turnW, h1]
    · omega
  | succ n ih =>
    intro ρ hm hp
    rcases h ρ hp with ⟨ρ1, h1, h2⟩ | ⟨ρ1, ρ2, h1, h2, h3, h4⟩
    · refine ⟨ρ1, ?_, h2⟩
      show whileW (turnW t body) ρ = _
      rw [whileW_eq]
      simp only [turnW, h1]
    · obtain ⟨ρ', h5, h6⟩ := ih ρ2 (by omega) h3
      refine ⟨ρ', ?_, h6⟩
      show whileW (turnW t body) ρ = _
      rw [whileW_eq]
      have h5' : whileW (turnW t body) ρ2 = .nx ρ' := h5
      rcases h2 with h2 | h2 <;> simp only [turnW, h1, h2, h5']
def slLen : Option (Option Sl) → Nat
  | some (some (.mut ds)) => ds.length
  | _ => 0
@[simp] theorem slLen_mut (ds : List PyData) : slLen (some (some (.mut ds))) = ds.length := rfl
def lenAt (i : Nat) (ρ : Env) : Nat := slLen ρ[i]?
theorem lcL_map {vs : List Nat} {g : GF} {ft : TF} {fe : EF} (p : PyData → Bool) (q : PyData → PyData) {ρ : Env} :
    ∀ {ds : List PyData} {acc : List PyData}, acc.length + ds.length ≤ sizeLine →
    (∀ d ∈ ds, ∃ ρ1 ρ2, g d (wipeE ρ vs) = some ρ1 ∧ ft ρ1 = .ok (p d) ρ2 ∧ (p d = false → backE ρ ρ2 vs = ρ) ∧ (p d = true → ∃ ρ3, eFz fe ρ2 = .ok (.val (q d)) ρ3 ∧ backE ρ ρ3 vs = ρ)) →
    lcL vs g ft fe ds ρ acc = .ok (acc ++ (ds.filter p).map q) ρ
  | [], acc, _, _ => by simp [lcL]
  | d :: ds, acc, hl, h => by
    obtain ⟨ρ1, ρ2, h1, h2, h3, h4⟩ := h d (by simp)
    rw [lcL, h1]
    dsimp only
    cases hp : p d with
    | false =>
      rw [hp] at h2
      rw [h2]
      dsimp only
      rw [h3 hp, lcL_map p q (by simp at hl; omega) (fun e he => h e (by simp [he]))]
      simp [hp]
    | true =>
      rw [hp] at h2
      obtain ⟨ρ3, h5, h6⟩ := h4 hp
      rw [h2]
      dsimp only
      rw [h5]
      dsimp only
      rw [if_pos (by simp at hl; omega), h6, lcL_map p q (by simp at hl ⊢; omega) (fun e he => h e (by simp [he]))]
      simp [hp]
theorem lc_map {vs : List Nat} {g : GF} {ft : TF} {fe : EF} (p : PyData → Bool) (q : PyData → PyData) {ρ : Env} {ds : List PyData} (hl : ds.length ≤ sizeLine)
    (h : ∀ d ∈ ds, ∃ ρ1 ρ2, g d (wipeE ρ vs) = some ρ1 ∧ ft ρ1 = .ok (p d) ρ2 ∧ (p d = false → backE ρ ρ2 vs = ρ) ∧ (p d = true → ∃ ρ3, eFz fe ρ2 = .ok (.val (q d)) ρ3 ∧ backE ρ ρ3 vs = ρ)) :
    lcL vs g ft fe ds ρ [] = .ok ((ds.filter p).map q) ρ := by
  rw [lcL_map p q (by simpa using hl) h]; simp

section
variable (lo hi : Option Int) (xs ys : List PyData) (x : Str) (i j : Int) (d : PyData)
@[simp] theorem slOp_list : slOp lo hi (.list xs) = some (.new (cutD xs lo hi)) := rfl
@[simp] theorem slOp_str : slOp lo hi (.str x) = if x.length ≤ sizeLine then some (.val (.str (cutS x lo hi))) else none := rfl
@[simp] theorem maxFn2_int : maxFn2 (.int i) (.int j) = some (.val (.int (if j > i then j else i))) := rfl
@[simp] theorem minFn2_int : minFn2 (.int i) (.int j) = some (.val (.int (if j < i then j else i))) := rfl
@[simp] theorem extendM_eq : extendM xs [.list ys] = if xs.length + ys.length ≤ sizeLine then some (.none, xs ++ ys) else none := rfl
@[simp] theorem reverseM_eq : reverseM xs [] = some (.none, xs.reverse) := rfl
@[simp] theorem clearM_eq : clearM xs [] = some (.none, []) := rfl
@[simp] theorem popM_eq : popM xs [] = (xs[xs.length - 1]?).map fun d => (d, xs.dropLast) := rfl
@[simp] theorem isi_str (T : String) : isiFn T (.str x) = (kitB "str" T).map fun b => .val (.bool b) := rfl
@[simp] theorem isi_int (T : String) : isiFn T (.int i) = (kitB "int" T).map fun b => .val (.bool b) := rfl
@[simp] theorem isi_tup (T : String) : isiFn T (.tuple xs) = (kitB "tuple" T).map fun b => .val (.bool b) := rfl
@[simp] theorem isi_list (T : String) : isiFn T (.list xs) = (kitB "list" T).map fun b => .val (.bool b) := rfl
@[simp] theorem isi_none (T : String) : isiFn T .none = (kitB "NoneType" T).map fun b => .val (.bool b) := rfl
@[simp] theorem isi_bool (T : String) (b : Bool) : isiFn T (.bool b) = (kitB "bool" T).map fun b => .val (.bool b) := rfl
end
def mkS (l : List Nat) : Str := ⟨l.toArray⟩
@[simp] theorem mkS_cps (l : List Nat) : (mkS l).cps.toList = l := rfl
@[simp] theorem mkS_size (l : List Nat) : (mkS l).cps.size = l.length := by simp [mkS]
@[simp] theorem mkS_len (l : List Nat) : (mkS l).length = l.length := by simp [mkS, Str.length]
theorem mkS_app (l m : List Nat) : mkS l ++ mkS m = mkS (l ++ m) := by
  show Str.append (mkS l) (mkS m) = _
  simp [Str.append, mkS]
theorem mkS_one (c : Nat) : (⟨#[c]⟩ : Str) = mkS [c] := rfl
theorem mkS_inj {l m : List Nat} : mkS l = mkS m ↔ l = m := by
  constructor
  · intro h
    have := congrArg (fun s => s.cps.toList) h
    simpa using this
  · rintro rfl; rfl
theorem mkS_of (s : Str) : mkS s.cps.toList = s := by cases s; simp [mkS]
theorem cut_lo (l : List Nat) (k : Nat) (h : k ≤ l.length) : cutS (mkS l) none (some (k : Int)) = mkS (l.take k) := by
  unfold cutS
  rw [HT.sIx_nat, HT.sIx_none, mkS_len, Nat.min_eq_left h, mkS_cps]
  simp [mkS]
theorem cut_hi (l : List Nat) (k : Nat) (h : k ≤ l.length) : cutS (mkS l) (some (k : Int)) none = mkS (l.drop k) := by
  unfold cutS
  rw [HT.sIx_nat, HT.sIx_none, mkS_len, Nat.min_eq_left h, mkS_cps, List.take_of_length_le (by simp)]
  rfl
@[simp] theorem eqv_str (a b : Str) : PyData.eqv (.str a) (.str b) = decide (a = b) := by
  simp [PyData.eqv]; by_cases h : a = b <;> simp [h]
@[simp] theorem strOk_lit (s : String) : PyData.strOk (Str.ofString s) = true := by
  rw [Str.ofString_eq_toList]
  simp only [PyData.strOk, List.all_toArray, List.all_eq_true, List.mem_map, decide_eq_true_eq]
  rintro n ⟨c, _, rfl⟩
  have := c.valid
  unfold UInt32.isValidChar Nat.isValidChar at this
  show c.val.toNat < 1114112
  omega
theorem strOk_mkS {l : List Nat} (h : ∀ c ∈ l, c < 1114112) : PyData.strOk (mkS l) = true := by
  simp only [PyData.strOk, mkS, List.all_toArray, List.all_eq_true, decide_eq_true_eq]
  exact h
theorem eqOk_str {a b : Str} (ha : PyData.strOk a = true) (hb : PyData.strOk b = true) : eqOk (.str a) (.str b) = true := by simp [eqOk, PyData.canLay0, PyData.depth, ha, hb]
@[simp] theorem eqOp_str {a b : Str} (ha : PyData.strOk a = true) (hb : PyData.strOk b = true) : eqOp (.str a) (.str b) = some (.val (.bool (decide (a = b)))) := by
  rw [eqOp_eq, if_pos (eqOk_str ha hb), eqv_str]
@[simp] theorem neOp_str {a b : Str} (ha : PyData.strOk a = true) (hb : PyData.strOk b = true) : neOp (.str a) (.str b) = some (.val (.bool (!decide (a = b)))) := by
  rw [neOp_eq, if_pos (eqOk_str ha hb), eqv_str]
theorem strs_lay {ss : List Str} (h : ∀ t ∈ ss, PyData.strOk t = true) : PyData.canLayAll0 (ss.map .str) = true := by
  induction ss with
  | nil => rfl
  | cons t ss ih =>
    simp only [List.map_cons, PyData.canLayAll0, PyData.canLay0, Bool.and_eq_true]
    exact ⟨h t (by simp), ih fun u hu => h u (by simp [hu])⟩
theorem inL_strs {s : Str} {ss : List Str} (hs : PyData.strOk s = true) (h : ∀ t ∈ ss, PyData.strOk t = true) : inL (.str s) (ss.map .str) = some (decide (s ∈ ss)) := by
  unfold inL
  rw [if_pos (by simp [PyData.canLay0, hs, strs_lay h, PyData.depth]), List.any_map]
  refine congrArg some ?_
  by_cases q : s ∈ ss
  · rw [decide_eq_true q, List.any_eq_true]
    exact ⟨s, q, by simp⟩
  · rw [decide_eq_false q, List.any_eq_false]
    intro t ht
    simp
    rintro rfl
    exact q ht
@[simp] theorem inOp_list (x : PyData) (es : List PyData) : inOp x (.list es) = (inL x es).map fun b => .val (.bool b) := by cases x <;> rfl
@[simp] theorem inOp_tup (x : PyData) (es : List PyData) : inOp x (.tuple es) = (inL x es).map fun b => .val (.bool b) := by cases x <;> rfl
@[simp] theorem ninOp_list (x : PyData) (es : List PyData) : ninOp x (.list es) = (inL x es).map fun b => .val (.bool (!b)) := by cases x <;> rfl
@[simp] theorem ninOp_tup (x : PyData) (es : List PyData) : ninOp x (.tuple es) = (inL x es).map fun b => .val (.bool (!b)) := by cases x <;> rfl
theorem nodup_map {α β : Type} {f : α → β} {l : List α} (hn : l.Nodup) (hf : ∀ x ∈ l, ∀ y ∈ l, f x = f y → x = y) : (l.map f).Nodup := by
  unfold List.Nodup at *
  rw [List.pairwise_map]
  exact hn.imp_of_mem fun {a b} ha hb h e => h (hf a ha b hb e)
theorem nodup_le {α : Type} [DecidableEq α] : ∀ {l b : List α}, l.Nodup → (∀ x ∈ l, x ∈ b) → l.length ≤ b.length
  | [], b, _, _ => Nat.zero_le _
  | x :: l, b, hn, hs => by
    have hx : x ∈ b := hs x (by simp)
    have hb : 0 < b.length := List.length_pos_of_mem hx
    have := nodup_le (l := l) (b := b.erase x) (List.nodup_cons.mp hn).2 (fun y hy => (List.mem_erase_of_ne (by rintro rfl; exact (List.nodup_cons.mp hn).1 hy)).mpr (hs y (by simp [hy])))
    rw [List.length_erase_of_mem hx] at this
    simp; omega
end Ls
namespace Ls
open PySem PySem.Spec PyProof.Rows L2

section
variable {X : Cx} {C : Cof} {Z : WX} {scope : Scope} {tg elt iter : Expr} {ifs : List Expr} {vs : List Nat} {g : GF} {ft : TF} {fe : EF} {fi : IF} {own : List (Str × Nat)} {pos spos py : Pos} {pin : List Nat} {y : Str}
theorem s_setLcF (i : Nat) (hc : X.calm = true) (hN : X.N.Nodup) (hi : PIr X C Z tg iter fi) (ok : BlkOk X.N X.env.scope scope own) (hb : BlkR X C scope tg elt ifs (own.map (·.2)) g ft fe)
    (hsw : swapsWith (.ListComp elt [⟨tg, iter, ifs, 0⟩] scope pos) (some (.Name y py)) spos.line X.env = pure true) (hy : X.N[i]? = some y := by rfl) (hyl : X.env.scope.names.lookup y = some .local := by rfl) (hp : i ∉ pin := by decide)
    (hs : ∀ x, foldedSetIterable iter X.env x = pure x := by intro _; rfl) : PSr X C Z pin (.Assign [.Name y py] (.ListComp elt [⟨tg, iter, ifs, 0⟩] scope pos) spos) (sSet i (eFz (eLc (own.map (·.2)) fi g ft fe))) := by
  obtain ⟨wi, hwi, hsi⟩ := hi.ex
  obtain ⟨tg', tt, te, h1, h2, h3, h4, h5, h6⟩ := hb.ex
  refine ⟨_, ps_setLc hc hN hy hyl hsw hwi ok h1 h2 h3 hs, fun F B σ H ρ D E h => ?_⟩
  refine stE (fzGo (t := fun σ H => _) (fun F B σ H ρ E => lc_go (X := X) (C := C) (Z := Z) hsi h4 h5 h6 F B σ H ρ E) F B σ H ρ E) h fun v w ρ' F' H' _ g E' r hq => ?_
  cases q : putW i ρ' w with
  | none => rw [q] at hq; exact hq.elim
  | some ρ2 =>
    rw [q] at hq
    obtain ⟨F2, g2, E2⟩ := putW_ok E' r q
    exact hq _ F2 H' g2 (PinEq.set hp) E2
end
def dixF (kvs : List (Str × PyData)) (s : Str) : Option PyData := (kvs.find? fun kv => decide (kv.1 = s)).map (·.2)
def dixR (kvs : List (Str × PyData)) : W → Env → Res W := fun w ρ => match w with
  | .val (.str s) => (match dixF kvs s with | some d => .ok (.val d) ρ | none => .stuck)
  | _ => .stuck
def eDix (kvs : List (Str × PyData)) (f : EF) : EF := fun ρ => (f ρ).bind (dixR kvs)
theorem upd_upd {H : Hp} {p : Addr} {a b : HO} : upd (upd H p a) p b = upd H p b := by
  funext q
  by_cases h : q = p
  · subst h; rw [upd_same, upd_same]
  · rw [upd_ne h, upd_ne h, upd_ne h]
section
variable {X : Cx} {C : Cof} {Z : WX} {k1 k2 k3 : Str} {j1 j2 j3 : Nat} {p1 p2 p3 dp pos : Pos} {e1 e2 e3 e : Expr} {v1 v2 v3 : V} {d1 d2 d3 : PyData} {f : EF}
theorem r_dix3 (hu : X.A.units + 200 < cLine) (h1 : PE X e1 fun _ H Q => Q v1 H) (h2 : PE X e2 fun _ H Q => Q v2 H) (h3 : PE X e3 fun _ H Q => Q v3 H)
    (r1 : ∀ F H, Rep X.K F H v1 d1) (r2 : ∀ F H, Rep X.K F H v2 d2) (r3 : ∀ F H, Rep X.K F H v3 d3) (he : PEr X C Z e f)
    (n12 : decide (k1 = k2) = false := by decide +kernel) (n13 : decide (k1 = k3) = false := by decide +kernel) (n23 : decide (k2 = k3) = false := by decide +kernel) (hs : NoSl e := by exact fun _ _ => rfl) :
    PEr X C Z (.Subscript (.Dict [some (.Constant (.str k1) j1 p1), some (.Constant (.str k2) j2 p2), some (.Constant (.str k3) j3 p3)] [e1, e2, e3] dp) e pos) (eDix [(k1, d1), (k2, d2), (k3, d3)] f) := by
  obtain ⟨t, ht, hg⟩ := he.ex
  have n21 : ¬ k2 = k1 := fun z => by rw [z] at n12; simp at n12
  have n31 : ¬ k3 = k1 := fun z => by rw [z] at n13; simp at n13
  have n32 : ¬ k3 = k2 := fun z => by rw [z] at n23; simp at n23
  have m12 : ¬ k1 = k2 := fun z => n21 z.symm
  have m13 : ¬ k1 = k3 := fun z => n31 z.symm
  have m23 : ¬ k2 = k3 := fun z => n32 z.symm
  refine ⟨_, pe_dget (show X.A.units + 1 < cLine by omega) (pe_disp (pps_cons pe_str h1 (pps_cons pe_str h2 (pps_cons pe_str h3 pps_nil))) rfl rfl (by simp) (by simp)) ht hs, fun F B σ H ρ E => ?_⟩
  have merge : mergeK [] [((Sum.inr k1 : Key), v1), (Sum.inr k2, v2), (Sum.inr k3, v3)] = [(Sum.inr k1, v1), (Sum.inr k2, v2), (Sum.inr k3, v3)] := by
    simp [mergeK, putK, m12, m13, m23]
  have start : ∀ (R : V → Hp → Prop), (∀ p, H p = none → R (.ref p) (upd H p (.dK [(Sum.inr k1, v1), (Sum.inr k2, v2), (Sum.inr k3, v3)]))) →
      tDisp [(fun _ H Q => Q (.str k1) H, fun _ H Q => Q v1 H), (fun _ H Q => Q (.str k2) H, fun _ H Q => Q v2 H), (fun _ H Q => Q (.str k3) H, fun _ H Q => Q v3 H)] σ H R := by
    intro R hR p hp
    refine ⟨upd_same, [(Sum.inr k1, v1), (Sum.inr k2, v2), (Sum.inr k3, v3)], rfl, by simp, ?_⟩
    rw [merge, upd_upd]
    exact hR p hp
  obtain ⟨NF1, NF2⟩ : True ∧ True := ⟨trivial, trivial⟩
  have go : ∀ p, H p = none → EGo X C Z (fun b => F b ∨ b = p) B (upd H p (.dK [(Sum.inr k1, v1), (Sum.inr k2, v2), (Sum.inr k3, v3)])) σ (t σ (upd H p (.dK [(Sum.inr k1, v1), (Sum.inr k2, v2), (Sum.inr k3, v3)]))) (f ρ) := fun p hp => hg _ _ _ _ _ (E.newF hp).2
  unfold eDix
  cases hf : f ρ with
  | stuck => trivial
  | exc c ρ' =>
    intro x Q
    refine start _ fun p hp => ?_
    have := go p hp
    rw [hf] at this
    exact this (x.after (E.newF hp).1) _
  | ok w ρ' =>
    show EGo X C Z F B H σ _ (dixR _ w ρ')
    unfold dixR
    split
    · rename_i s
      split
      · rename_i d hd
        intro Q hQ
        refine start _ fun p hp => ?_
        have := go p hp
        rw [hf] at this
        refine this _ fun v F' H' g E' r => ?_
        have r : Rep X.K F' H' v (.str s) := r
        cases r
        have hp' : H' p = some (.dK [(Sum.inr k1, v1), (Sum.inr k2, v2), (Sum.inr k3, v3)]) := g.st p _ (.inl (.inr rfl)) upd_same
        have gg := (E.newF (o := .dK [(Sum.inr k1, v1), (Sum.inr k2, v2), (Sum.inr k3, v3)]) hp).1.trans g
        have hdg := DGet.k (k := Sum.inr s) hp'
        unfold dixF at hd
        by_cases q1 : k1 = s
        · subst q1
          have : d = d1 := by simp at hd; exact hd.symm
          subst this
          refine ⟨p, v1, rfl, ?_, hQ v1 F' H' gg E' (r1 _ _)⟩
          simpa [valV, kV] using hdg
        · by_cases q2 : k2 = s
          · subst q2
            have : d = d2 := by simp [q1] at hd; exact hd.symm
            subst this
            refine ⟨p, v2, rfl, ?_, hQ v2 F' H' gg E' (r2 _ _)⟩
            simpa [valV, kV, q1] using hdg
          · by_cases q3 : k3 = s
            · subst q3
              have : d = d3 := by simp [q1, q2] at hd; exact hd.symm
              subst this
              refine ⟨p, v3, rfl, ?_, hQ v3 F' H' gg E' (r3 _ _)⟩
              simpa [valV, kV, q1, q2] using hdg
            · simp [q1, q2, q3] at hd
      · trivial
    · trivial
end
@[simp] theorem eDix_eq (kvs : List (Str × PyData)) (f : EF) (ρ : Env) : eDix kvs f ρ = (f ρ).bind (dixR kvs) := by_rfl rfl
theorem dixR_of {kvs : List (Str × PyData)} {s : Str} {d : PyData} (h : dixF kvs s = some d) (ρ : Env) : dixR kvs (.val (.str s)) ρ = .ok (.val d) ρ := by
  show (match dixF kvs s with | some d => Res.ok (W.val d) ρ | none => Res.stuck) = _
  rw [h]

def noExc : SRes → SRes
  | .exc _ _ => .stuck
  | r => r
def tryK (isC : Str → Option Bool) (fs : SF) : SRes → SRes
  | .exc c ρ => match isC c with
    | some true => noExc (fs ρ)
    | some false => .exc c ρ
    | none => .stuck
  | r => r
def sTry (isC : Str → Option Bool) (fb fs : SF) : SF := fun ρ => tryK isC fs (fb ρ)
section
variable {X : Cx} {C : Cof} {Z : WX} {pin : List Nat} {x : Str} {cv : Value} {body suite : List Stmt} {b₀ : Stmt} {np pos pos' : Pos} {fb fs : SF} {isC : Str → Option Bool}
theorem s_try (hc : Names X x cv) (tk : Takes X Z) (hC : ∀ c b, isC c = some b → PySem.W.exmOne X.K (C c) cv = some b)
    (hb : ∀ (W : WX) (pn : List (Addr × Obj)) (xe : Value → Shared → Prop), Takes (X.tr pn xe) W → PassesOwn (model X.prog X.w) X.A X.env xe → PSsr (X.tr pn xe) C W pin body fb)
    (hsu : ∀ (a : Addr) (oe : Obj) (pn : List (Addr × Obj)), PSsr (X.suite a ((a, oe) :: pn)) C Z0 pin (b₀ :: suite) fs) (hs : X.stack = X.env :: X.outer := by rfl) (hf : X.env.frame = some X.env.locals := by rfl) :
    PSr X C Z pin (.Try body [.ExceptHandler (some (.Name x np)) none (b₀ :: suite) pos'] [] [] pos) (sTry isC fb fs) := by
  refine ⟨_, ps_try_only (tb := fun W D σ H => ∃ F B ρ, ER X.K F B H σ ρ ∧ SPost X C W pin F B H σ D (fb ρ)) (ts := fun _ _ _ D σ H => ∃ F B ρ, ER X.K F B H σ ρ ∧ SPost X C Z0 pin F B H σ D (fs ρ)) hs hf hc tk (fun W pn xe tk2 po => ?_) (fun a oe cls d pn _ _ => ?_), fun F B σ H ρ D E h => ?_⟩
  · obtain ⟨t, ht, hg⟩ := (hb W pn xe tk2 po).ex
    exact ⟨fun pins s σ H D I ⟨F, B, ρ, E, h⟩ => ht.run pins s σ H D I (hg F B σ H ρ D E h)⟩
  · obtain ⟨t, ht, hg⟩ := (hsu a oe pn).ex
    exact ⟨fun pins s σ H D I ⟨F, B, ρ, E, h⟩ => ht.run pins s σ H D I (hg F B σ H ρ D E h)⟩
  · refine ⟨F, B, ρ, E, ?_⟩
    have h : SPost X C Z pin F B H σ D (tryK isC fs (fb ρ)) := h
    cases hr : fb ρ with
    | exc c ρ' =>
      rw [hr] at h
      intro σ' F' H' g p E'
      cases hi : isC c with
      | none => simp only [tryK, hi] at h; exact h.elim
      | some b =>
        simp only [tryK, hi] at h
        cases b with
        | true => exact ⟨true, hC c _ hi, fun _ a _ => ⟨F', B, ρ', E', by
            have := SPost.after g p h
            revert this
            cases fs ρ' with
            | exc c2 ρ2 => exact fun z => z.elim
            | _ => exact id⟩, fun z => nomatch z⟩
        | false => exact ⟨false, hC c _ hi, (fun z => nomatch z), fun _ => h σ' F' H' g p E'⟩
    | _ => rw [hr] at h; exact h
end
def isL (cs : List Str) : Str → Option Bool := fun c => if c ∈ cs then some true else none
theorem isL_ok {K : PySem.W.Frag} {C : Cof} {cv : Value} {cs : List Str} (h : ∀ c ∈ cs, PySem.W.exmOne K (C c) cv = some true) : ∀ c b, isL cs c = some b → PySem.W.exmOne K (C c) cv = some b := by
  intro c b e
  unfold isL at e
  split at e
  · rename_i hc
    cases e; exact h c hc
  · cases e
section
variable (isC : Str → Option Bool) (fb fs : SF) (ρ : Env) (r : Sl) (c : Str)
@[simp] theorem sTry_eq : sTry isC fb fs ρ = tryK isC fs (fb ρ) := by_rfl rfl
@[simp] theorem tryK_nx : tryK isC fs (.nx ρ) = .nx ρ := by_rfl rfl
@[simp] theorem tryK_ret : tryK isC fs (.ret r ρ) = .ret r ρ := by_rfl rfl
@[simp] theorem noExc_nx : noExc (.nx ρ) = .nx ρ := by_rfl rfl
@[simp] theorem noExc_ret : noExc (.ret r ρ) = .ret r ρ := by_rfl rfl
theorem tryK_exc (h : isC c = some true) : tryK isC fs (.exc c ρ) = noExc (fs ρ) := by simp only [tryK, h]
end

@[simp] theorem eqOp_bool (a b : Bool) : eqOp (.bool a) (.bool b) = some (.val (.bool (decide (a = b)))) := by
  cases a <;> cases b <;> rfl
@[simp] theorem neOp_bool (a b : Bool) : neOp (.bool a) (.bool b) = some (.val (.bool (!decide (a = b)))) := by
  cases a <;> cases b <;> rfl
@[simp] theorem gT_eq (n : Nat) (gs : List PyData → Env → Option Env) (ds : List PyData) (ρ : Env) : gT n gs (.tuple ds) ρ = if ds.length = n then gs ds ρ else none := by_rfl rfl
@[simp] theorem gTL_eq (n : Nat) (gs : List PyData → Env → Option Env) (ds : List PyData) (ρ : Env) : gT n gs (.list ds) ρ = if ds.length = n then gs ds ρ else none := by_rfl rfl
@[simp] theorem gsCons_eq (n : Nat) (gs : List PyData → Env → Option Env) (d : PyData) (ds : List PyData) (ρ : Env) : gsCons (gN n) gs (d :: ds) ρ = gs ds (ρ.set n (some (.val d))) := by_rfl rfl
@[simp] theorem gsNil_eq (ρ : Env) : gsNil [] ρ = some ρ := by_rfl rfl
@[simp] theorem gN_eq (n : Nat) (d : PyData) (ρ : Env) : gN n d ρ = some (ρ.set n (some (.val d))) := by_rfl rfl
theorem set_back {ρ : Env} {v : Nat} {x : Option Sl} (hv : ρ[v]? = some none) : (ρ.set v x).set v none = ρ := by
  rw [List.set_set]
  refine List.ext_getElem? fun j => ?_
  rw [List.getElem?_set]
  split
  · rename_i h; subst h
    rw [hv]
    split
    · rfl
    · rename_i h2
      rw [List.getElem?_eq_none (by omega)] at hv; cases hv
  · rfl
theorem lc_one {v : Nat} {fe : EF} (q : PyData → PyData) {ρ : Env} {ds : List PyData} (hl : ds.length ≤ 16777216) (hv : ρ[v]? = some none)
    (h : ∀ d ∈ ds, eFz fe (ρ.set v (some (.val d))) = .ok (.val (q d)) (ρ.set v (some (.val d)))) : lcL [v] (gN v) tYesT fe ds ρ [] = .ok (ds.map q) ρ := by
  have hw : wipeE ρ [v] = ρ := by
    show ρ.set v none = ρ
    have := set_back (x := none) hv
    rwa [List.set_set] at this
  have hb : ∀ d, backE ρ (ρ.set v (some (.val d))) [v] = ρ := fun d => by
    show (ρ.set v (some (.val d))).set v (match ρ[v]? with | some (some (.val d)) => some (.val d) | _ => none) = ρ
    rw [hv]; exact set_back hv
  have := lc_map (vs := [v]) (g := gN v) (ft := tYesT) (fe := fe) (fun _ => true) q (ρ := ρ) (ds := ds) (by rw [PySem.sizeLine_eq]; exact hl) fun d hd =>
    ⟨ρ.set v (some (.val d)), ρ.set v (some (.val d)), by rw [hw]; rfl, rfl, fun z => by simp at z, fun _ => ⟨ρ.set v (some (.val d)), h d hd, hb d⟩⟩
  rwa [List.filter_eq_self.mpr (fun _ _ => rfl)] at this
theorem lc_if {v : Nat} {ft : TF} {fe : EF} (p : PyData → Bool) (q : PyData → PyData) {ρ : Env} {ds : List PyData} (hl : ds.length ≤ 16777216) (hv : ρ[v]? = some none)
    (ht : ∀ d ∈ ds, ft (ρ.set v (some (.val d))) = .ok (p d) (ρ.set v (some (.val d))))
    (h : ∀ d ∈ ds, p d = true → eFz fe (ρ.set v (some (.val d))) = .ok (.val (q d)) (ρ.set v (some (.val d)))) : lcL [v] (gN v) ft fe ds ρ [] = .ok ((ds.filter p).map q) ρ := by
  have hw : wipeE ρ [v] = ρ := by
    show ρ.set v none = ρ
    have := set_back (x := none) hv
    rwa [List.set_set] at this
  have hb : ∀ d, backE ρ (ρ.set v (some (.val d))) [v] = ρ := fun d => by
    show (ρ.set v (some (.val d))).set v (match ρ[v]? with | some (some (.val d)) => some (.val d) | _ => none) = ρ
    rw [hv]; exact set_back hv
  exact lc_map (vs := [v]) (g := gN v) (ft := ft) (fe := fe) p q (ρ := ρ) (ds := ds) (by rw [PySem.sizeLine_eq]; exact hl) fun d hd =>
    ⟨ρ.set v (some (.val d)), ρ.set v (some (.val d)), by rw [hw]; rfl, ht d hd, fun _ => hb d, fun hp => ⟨ρ.set v (some (.val d)), h d hd hp, hb d⟩⟩
theorem lcL_inv {vs : List Nat} {g : GF} {fe : EF} {ds : List PyData} (P : Nat → Env → List PyData → Prop)
    (h : ∀ i (hi : i < ds.length) ρ acc, P i ρ acc → ∃ ρ1 e ρ3, g ds[i] (wipeE ρ vs) = some ρ1 ∧ eFz fe ρ1 = .ok (.val e) ρ3 ∧ acc.length < 16777216 ∧ P (i + 1) (backE ρ ρ3 vs) (acc ++ [e])) {ρ : Env} (h0 : P 0 ρ []) :
    ∃ ρ' acc, lcL vs g tYesT fe ds ρ [] = .ok acc ρ' ∧ P ds.length ρ' acc := by
  suffices H : ∀ (n : Nat) (es : List PyData) (ρ : Env) (acc : List PyData), ds.length = n + es.length → ds.drop n = es → P n ρ acc → ∃ ρ' acc', lcL vs g tYesT fe es ρ acc = .ok acc' ρ' ∧ P ds.length ρ' acc' from H 0 ds ρ [] (by simp) (by simp) h0
  intro n es
  induction es generalizing n with
  | nil => intro ρ acc hl _ hp; exact ⟨ρ, acc, rfl, by simpa [hl] using hp⟩
  | cons d es ih =>
    intro ρ acc hl hd hp
    have hn : n < ds.length := by simp at hl; omega
    have hdn : ds[n] = d := by
      have := List.drop_eq_getElem_cons hn
      rw [hd] at this
      exact (List.cons.inj this).1.symm
    have hes : ds.drop (n + 1) = es := by
      have := List.drop_eq_getElem_cons hn
      rw [hd] at this
      exact (List.cons.inj this).2.symm
    obtain ⟨ρ1, e, ρ3, h1, h2, h3, h4⟩ := h n hn ρ acc hp
    rw [hdn] at h1
    obtain ⟨ρ', acc', h5, h6⟩ := ih (n + 1) _ _ (by simp at hl; omega) hes h4
    refine ⟨ρ', acc', ?_, h6⟩
    rw [lcL, h1]
    simp only [tYesT, h2]
    rw [if_pos (by rw [PySem.sizeLine_eq]; exact h3), h5]
end Ls
namespace Ls
open PySem PySem.Spec PyProof.Rows L2 PySem.Froz
structure Laid (w : World) (D : SD) : Prop where
  up : Ris D.2.2.place.toList
  by_ : w.params.followText "set-order" = true ∨ D.2.2.led = true
theorem Laid.tail {w : World} {ep : Nat} {es : Array (Int × Value)} {t : SetTable} {q : Bool} (h : Ris t.place.toList) (h2 : w.params.followText "set-order" = true ∨ t.led = true) : Laid w (tailTx ep es t q) := by
  unfold tailTx
  split
  · exact ⟨relayAll_ris t es _, h2.imp id fun z => (relayAll_led t es _).trans z⟩
  · exact ⟨h, h2⟩
theorem Laid.add {w : World} {D : SD} {h : Int} {v : Value} (L : Laid w D) : Laid w (addTx h v D) := by
  obtain ⟨es, ep, t⟩ := D
  have r1 := layNew_ris t es h v L.up
  have r2 := (L.by_).imp id fun z => (layNew_led t es h v).trans z
  unfold addTx
  refine Laid.tail ?_ ?_
  · dsimp only; split <;> exact r1
  · dsimp only; split <;> exact r2
section
variable {P : Program} {w : World} {A : Around} {E : Value → Shared → Prop} {s : Shared}
theorem again_x {a : Addr} {T : String} {D : SD} {l : List Str} {k : Str} {u : Tok} {Q : Bool → Shared → Prop} (hob : s.heap.get? a = some (sObj T D)) (F : TxOk P w D l) (hin : k ∈ l) (room : l.length < scanBound)
    (hQ : Q false s) : wpAny (model P w) A (setAddHashed a (.str k u) (hashStr w k)) Q E s := by
  obtain ⟨es, ep, t⟩ := D
  have dat : (sObj T (es, ep, t)).data = .set es ep t := rfl
  have fit : t.fits es.size = true := F.fit
  have els : ElemsOf (strKind P w) es.toList := F.el
  have sz : es.size = l.length := F.sz
  have key : (strKind P w).is k (.str k u) = true := is_str k u
  obtain ⟨e0, me0, ie0⟩ := (F.mem k).mp hin
  unfold setAddHashed setAddHashedIn
  refine wpAny_holding (wpAny_bind (wpAny_setState_of hob dat fit ?_))
  dsimp only
  rw [byScan_of (show (Value.str k u).scannable = true from rfl) (by omega) els]
  simp only [if_true]
  unfold setAddByScan
  refine wpAny_bind (wpAny_bind (wpAny_rule (wpAny_bind (wpAny_setScan_of (knd := strKind P w) (k := k) key hob dat fit els ?_))))
  cases fnd : List.findIdx? (fun e => (strKind P w).is k e.2) es.toList with
  | none =>
    have no := List.findIdx?_eq_none_iff.mp fnd e0 me0
    rw [ie0] at no
    cases no
  | some j =>
    dsimp only
    exact wpAny_pure (wpAny_pure hQ)
def HoldsT (P : Program) (w : World) (h : Heap) (S : Addr) (l : List Str) : Prop := ∃ D : SD, h.get? S = some (sObj "set" D) ∧ TxOk P w D l ∧ Laid w D ∧ l.Nodup
theorem HoldsT.move {h h' : Heap} {S : Addr} {l : List Str} (x : HoldsT P w h S l) (k : ∀ o, h.get? S = some o → h'.get? S = some o) : HoldsT P w h' S l := by
  obtain ⟨D, e, r⟩ := x
  exact ⟨D, k _ e, r⟩
def cons1 (k : Str) (l : List Str) : List Str := if k ∈ l then l else k :: l
theorem mem_cons1 {k x : Str} {l : List Str} : x ∈ cons1 k l ↔ x = k ∨ x ∈ l := by
  unfold cons1
  split
  · rename_i h
    exact ⟨.inr, fun q => q.elim (fun z => z ▸ h) id⟩
  · exact List.mem_cons
theorem len_cons1 {k : Str} {l : List Str} : (cons1 k l).length ≤ l.length + 1 := by
  unfold cons1
  split <;> simp
theorem put_one {S : Addr} {l : List Str} {k : Str} {u : Tok} {Q : Shared → Prop} (x : HoldsT P w s.heap S l) (room : l.length + 1 < scanBound)
    (hQ : ∀ h', HoldsT P w h' S (cons1 k l) → (∀ b, b ≠ S → h'.get? b = s.heap.get? b) → h'.objs.size = s.heap.objs.size → Q { s with heap := h' }) :
    wpAny (model P w) A (setAddHashed S (.str k u) (hashStr w k)) (fun _ s' => Q s') E s := by
  obtain ⟨D, e, F, L, nd⟩ := x
  by_cases hin : k ∈ l
  · refine again_x e F hin (by omega) ?_
    refine hQ s.heap ⟨D, e, ?_⟩ (fun _ _ => rfl) rfl
    unfold cons1
    rw [if_pos hin]
    exact ⟨F, L, nd⟩
  · refine add_x e F hin room ?_
    refine hQ _ ⟨addTx (hashStr w k) (.str k u) D, get_upd _ e rfl, ?_⟩ (fun b ne => Heap.get?_update_ne _ _ _ _ ne) (Heap.size_update ..)
    unfold cons1
    rw [if_neg hin]
    exact ⟨add_ok u F, L.add, List.nodup_cons.mpr ⟨hin, nd⟩⟩
end
section
variable {prog : Program} {w : World} {A : Around} {R : Result → Shared → Prop} {I : Addr} {fp wr : List Addr} {G : Array GenState → Array GenState → Prop} {n : Nat} {Pv : Nat → Value → Prop} {St : Nat → Shared → Prop}
theorem run_texts (W : WalksS prog w A.in1 I fp wr G n Pv St) (S : Addr) (out : S ∉ fp) (xs : List Str) (many : xs.length = n) (few : n < 64) (at_ : ∀ i v, Pv i v → ∃ x t, xs[i]? = some x ∧ v = .str x t) :
    ∀ (k i : Nat) (s : Shared) (l : List Str), n - i = k → i ≤ n → St i s → HoldsT prog w s.heap S l → l.length ≤ i → (∀ x, x ∈ l ↔ x ∈ xs.take i) →
      (∀ s' l', Moved (S :: wr) G s s' → HoldsT prog w s'.heap S l' → l'.length ≤ n → (∀ x, x ∈ l' ↔ x ∈ xs) → R (.ok (.ret .none)) s') →
      codeAny (model prog w) A (.builtin "set.update.loop" ⟨[.ref S, .ref I], []⟩) R s := by
  have outw : S ∉ wr := fun h => out (W.sub _ h)
  intro k
  induction k with
  | zero =>
    intro i s l left le st hold len mem fin
    have full : i = n := by omega
    refine codeAny_builtin PyProof.Rows.F.entry_set_update_loop (by
      rw [Around.under_plainId PyProof.Rows.F.plain_set_update_loop _]
      refine wpAny_bind (W.done s _ _ (full ▸ st) fun s' mv => ?_)
      exact wpAny_pure (fin s' l (mv.mono fun b hb => List.mem_cons_of_mem _ hb) (hold.move fun o e => mv.heap S o outw e) (by omega) fun x => by
        rw [mem x, List.take_of_length_le (by omega)]))
  | succ k ih =>
    intro i s l left le st hold len mem fin
    have lt : i < n := by omega
    refine codeAny_builtin PyProof.Rows.F.entry_set_update_loop ?_
    rw [Around.under_plainId PyProof.Rows.F.plain_set_update_loop _]
    refine wpAny_bind (W.item i s _ _ lt st fun v s1 pv st1 mv => ?_)
    obtain ⟨x, t, gx, rfl⟩ := at_ i v pv
    have hold1 := hold.move fun o e => mv.heap S o outw e
    refine wpAny_bind (wpAny_holding ?_)
    unfold setAdd
    refine wpAny_holding (wpAny_bind ((PySem.strKind prog w).pyHash (k := x) (strKind_is _ _ _ _) ?_))
    refine put_one (s := { s1 with toks := s1.toks + 1 }) (u := t) hold1 (by unfold scanBound; omega) fun h2 hold2 oth siz => ?_
    have tk : xs.take (i + 1) = xs.take i ++ [x] := by
      rw [List.take_add_one, gx]; rfl
    refine wpAny_pure ⟨plainId_quiet PyProof.Rows.F.plain_set_update_loop _, ih (i + 1) _ (cons1 x l) (by omega) lt (W.frame _ s1 _ _ st1 (Nat.le_succ _) fun b hb o e => ?_) hold2 ?_ (fun y => ?_) fun s3 l3 mv3 hold3 len3 mem3 => ?_⟩
    · exact (oth b fun z => out (z ▸ hb)).trans e
    · have := len_cons1 (k := x) (l := l); omega
    · rw [mem_cons1, mem y, tk, List.mem_append, List.mem_singleton]
      exact Or.comm
    · refine fin s3 l3 (Moved.trans W.gtrans ((mv.mono fun b hb => List.mem_cons_of_mem _ hb).then_heap (Nat.le_succ _) fun b o nb e => ?_) mv3) hold3 len3 mem3
      exact (oth b fun z => nb (z ▸ List.mem_cons_self)).trans e
end
end Ls
namespace Ls
open PySem PySem.Spec PyProof.Rows L2 PySem.Froz

theorem strs_get : ∀ {us : List Value} {xs : List Str}, StrsAre us xs → ∀ {i : Nat} {v : Value}, us[i]? = some v → ∃ x t, xs[i]? = some x ∧ v = .str x t
  | _, _, .nil, i, v, h => by simp at h
  | _, _, .cons x t r, 0, v, h => by
    simp at h
    exact ⟨x, t, rfl, h.symm⟩
  | _, _, .cons x t r, i + 1, v, h => strs_get r (i := i) (by simpa using h)
abbrev newSet (w : World) : Obj := { cls := .type "set", dict := none, data := .set #[] 0 (.fresh 0 0 (!w.params.followText "set-order")) }
section
variable {P : Program} {w : World} {A : Around} {E : Value → Shared → Prop} {s : Shared}
theorem holds_new {h : Heap} {a : Addr} (e : h.get? a = some (newSet w)) : HoldsT P w h a [] :=
  ⟨(#[], 0, .fresh 0 0 (!w.params.followText "set-order")), e, TxOk.nil rfl, ⟨List.Pairwise.nil, by
    show _ ∨ (!w.params.followText "set-order") = true
    cases w.params.followText "set-order" <;> simp⟩, List.nodup_nil⟩
abbrev SetDone (P : Program) (w : World) (s : Shared) (xs : List Str) (s' : Shared) : Prop := ∃ (h' : Heap) (tk : Nat) (l : List Str), s' = { s with heap := h', toks := tk } ∧ HoldsT P w h' s.heap.objs.size l ∧ (∀ x, x ∈ l ↔ x ∈ xs) ∧
  (∀ b o, s.heap.get? b = some o → h'.get? b = some o)
theorem set_of_texts {l : Addr} {items : Array Value} {xs : List Str} {Q : Value → Shared → Prop} (calm : A.handled = none) (isl : s.heap.IsList l items) (are : PyProof.Rows.StrsAre items.toList xs) (few : xs.length < 64)
    (hQ : ∀ s', SetDone P w s xs s' → Q (.ref s.heap.objs.size) s') : wpAny (model P w) A (call (.type "set") [.ref l]) Q E s := by
  obtain ⟨mc, mt, mro⟩ := F.called_set.mro
  have made := F.called_set.made; have subd := F.called_set.sub
  have q1 := F.called_set.notType; have q2 := F.called_set.canCreate; have q3 := F.typeCall_set_1 (.ref l)
  refine wpAny_call (codeAny_of_tree (wpAny_pure ⟨Code.quiet_builtin _ (by decide +kernel), codeAny_builtin F.entry_type_call ?_⟩))
  rw [Around.under_plain (weight_type_call_type "set" [.ref l] []) rfl]
  repeat (any_goals (first | wp_step | assumption))
  refine codeAny_mono (code_set_led1 (.ref l) (E := E) (Q₁ := fun ob t => ob = .ref s.heap.objs.size ∧ t = { s with heap := s.heap.push (newSet w) }) ⟨rfl, rfl⟩) fun r t hr => ?_
  cases r with
  | error e => exact hr
  | ok fl =>
    cases fl with
    | ret ob =>
      obtain ⟨rfl, rfl⟩ := hr
      have at0 : (s.heap.push (newSet w)).get? s.heap.objs.size = some (newSet w) := Heap.get?_push_size _ rfl
      have ty0 : Shared.TypeIs { s with heap := s.heap.push (newSet w) } (.ref s.heap.objs.size) "set" := ⟨_, at0, rfl⟩
      have i1 := F.called_set.init.lookup; have i2 := F.called_set.init.bind (.ref s.heap.objs.size)
      repeat (any_goals (first | wp_step | assumption))
      refine codeAny_mono (codeAny_call_builtin (R := wants (fun r t => r = .none ∧ SetDone P w s xs t) E) F.called_set.init.plain F.entry_set_init (check_set_init_1 ty0 ?_)) fun r2 t2 hr2 => ?_
      · obtain ⟨⟨oc, od, oda, osl⟩, hol, rfl, nl, rfl⟩ := isl
        have lt : l < s.heap.objs.size := Heap.lt_size hol
        have hol1 : (s.heap.push (newSet w)).get? l = some { cls := .type "list", dict := od, data := .seq items nl, slots := osl } := Heap.get?_push_of_some _ hol
        have isl1 : (s.heap.push (newSet w)).IsList l items := ⟨_, hol1, rfl, nl, rfl⟩
        have u1 := F.sub_list_set; have u2 := F.sub_list_frozenset
        have u3 : (Value.type "list" == Value.type "dict") = false := by decide
        have siz : (s.heap.push (newSet w)).objs.size = s.heap.objs.size + 1 := Heap.size_push ..
        unfold Builtin.«set.__init__» noKeywords Builtin.Frozenset.updateFrom
        generalize hPI : pyIter = PI
        wp_walk
        subst hPI
        refine wpAny_pyIter_list isl1 (wpAny_bind (wpAny_runValue ?_))
        have calm3 : A.in1.in1.in1.handled = none := by simp [calm]
        have neI : l ≠ (s.heap.push (newSet w)).objs.size := siz ▸ Nat.ne_of_lt (Nat.lt_succ_of_lt lt)
        have apart : s.heap.objs.size ∉ [(s.heap.push (newSet w)).objs.size, l] := by
          simp only [List.mem_cons, List.not_mem_nil, or_false, not_or]
          exact ⟨siz ▸ Nat.ne_of_lt (Nat.lt_succ_self _), (Nat.ne_of_lt lt).symm⟩
        have many : xs.length = items.size := by rw [← StrsAre.len_eq are, Array.length_toList]
        refine run_texts ((Walks.list calm3 _ l neI items).toS) s.heap.objs.size apart xs many (by omega) (fun i v hv => strs_get are (by rw [Array.getElem?_toList]; exact hv)) (items.size - 0) 0 _ [] (by omega) (Nat.zero_le _)
          ⟨⟨_, Heap.get?_push_size _ rfl, rfl, rfl⟩, isl1.push _⟩ (holds_new (Heap.get?_push_of_some _ at0)) (Nat.zero_le _) (fun x => by simp) fun t3 l3 mv hold3 _ mem3 => ?_
        obtain ⟨h3, g3, d3, k3, o3⟩ := t3
        obtain rfl : g3 = s.gens := mv.gens
        obtain rfl : d3 = s.drawn := mv.drawn
        obtain rfl : o3 = s.os := mv.os
        refine wpAny_pure (wpAny_pure ⟨rfl, h3, k3, l3, rfl, hold3, mem3, fun b o e => ?_⟩)
        have ltb := Heap.lt_size e
        refine mv.heap b o ?_ (Heap.get?_push_of_some _ (Heap.get?_push_of_some _ e))
        simp only [List.mem_cons, List.not_mem_nil, or_false, not_or]
        exact ⟨Nat.ne_of_lt ltb, siz ▸ Nat.ne_of_lt (Nat.lt_succ_of_lt ltb)⟩
      · cases r2 with
        | error e => exact hr2
        | ok f2 =>
          cases f2 with
          | ret r =>
            obtain ⟨rfl, h3, k3, l3, rfl, z⟩ := hr2
            repeat (any_goals (first | wp_step | assumption))
            exact hQ _ ⟨h3, k3, l3, rfl, z⟩
          | _ => exact hr2.elim
    | _ => exact hr.elim
end
end Ls
namespace Ls
open PySem PySem.Spec PyProof.Rows L2 PySem.Froz

theorem perm_of_sub {α : Type} [DecidableEq α] : ∀ {l m : List α}, l.Nodup → (∀ x ∈ l, x ∈ m) → m.length ≤ l.length → l.Perm m
  | [], m, _, _, h => by
    have : m = [] := List.eq_nil_of_length_eq_zero (by simpa using h)
    rw [this]
  | x :: l, m, nd, sub, h => by
    obtain ⟨n1, n2⟩ := List.nodup_cons.mp nd
    have hx := sub x List.mem_cons_self
    have e := List.length_erase_of_mem hx
    have := perm_of_sub (l := l) (m := m.erase x) n2 (fun y hy => (List.mem_erase_of_ne (by rintro rfl; exact n1 hy)).mpr (sub y (List.mem_cons_of_mem _ hy))) (by simp at h; omega)
    exact (this.cons x).trans (List.perm_cons_erase hx).symm
section
variable {P : Program} {w : World} {A : Around} {E : Value → Shared → Prop} {s : Shared}
theorem strs_of_kind {vs : List Value} (h : ∀ v ∈ vs, ∃ x t, v = .str x t) : StrsAre vs (vs.map strOf) := strsAre_map vs h
theorem sorted_texts {S : Addr} {l : List Str} {Q : Value → Shared → Prop} (x : HoldsT P w s.heap S l) (calm : A.handled = none) (few : l.length < 64)
    (hQ : ∀ t p (out : Array Value) (c : Nat) (ys : List Str), (∀ b o, s.heap.get? b = some o → t.heap.get? b = some o) → t.gens = s.gens → t.os = s.os → s.heap.objs.size ≤ p →
      t.heap.get? p = some (seqObj "list" out c) → StrsAre out.toList ys → ys.Perm l → sortedS ys = true → Q (.ref p) t) :
    wpAny (model P w) A (call (.builtin "sorted") [.ref S]) Q E s := by
  obtain ⟨D, e, F, L, nd⟩ := x
  have szD : D.1.size = l.length := F.sz
  have few2 : D.1.size < scanBound := by unfold scanBound; omega
  -- the texts of the set, in the table's order
  have txt : ∀ q ∈ D.1.toList, ∃ y t, q.2 = .str y t := fun q hq => by
    obtain ⟨⟨k, hk, _⟩, _⟩ := F.el q hq
    have hk : Value.isStrOf k q.2 = true := hk
    cases hv : q.2 with
    | str y t => exact ⟨y, t, rfl⟩
    | _ => rw [hv] at hk; simp [Value.isStrOf] at hk
  refine Calls.call_function_entry kind_sorted plain_sorted entry_sorted (args_sorted1 _) ?_
  unfold Builtin.«sorted»
  refine wpAny_bind (m := checkCount "sorted" 1 1 _) (wpAny_pure (wpAny_bind (collect_set (A := A.in1) calm ⟨_, e, rfl, rfl⟩ F.fit few2 L.up L.by_ fun s1 vs keep siz gen os pm => ?_)))
  have len : vs.length = l.length := by rw [pm.length_eq, List.length_map, Array.length_toList]; exact szD
  have isStr : ∀ v ∈ vs, ∃ y t, v = Value.str y t := fun v hv => by
    obtain ⟨q, hq, rfl⟩ := List.mem_map.mp (pm.mem_iff.mp hv)
    exact txt q hq
  have are : StrsAre vs (vs.map strOf) := strs_of_kind isStr
  -- the texts are those of l
  have same : (vs.map strOf).Perm l := by
    have nd2 : (vs.map strOf).length = l.length := by rw [List.length_map, len]
    have sub : ∀ y ∈ l, y ∈ vs.map strOf := fun y hy => by
      obtain ⟨q, hq, iq⟩ := (F.mem y).mp hy
      have iq : Value.isStrOf y q.2 = true := iq
      obtain ⟨z, t, ez⟩ := txt q hq
      have : z = y := by rw [ez] at iq; simpa [Value.isStrOf] using iq
      exact List.mem_map.mpr ⟨q.2, pm.mem_iff.mpr (List.mem_map.mpr ⟨q, hq, rfl⟩), by rw [ez, ← this]; rfl⟩
    exact (perm_of_sub nd sub (Nat.le_of_eq nd2)).symm
  refine wpAny_bind (wpAny_newList ?_ (by rw [len, sizeLine_eq]; omega))
  have atN : (s1.heap.push (seqObj "list" vs.toArray 0)).get? s1.heap.objs.size = some (seqObj "list" vs.toArray 0) := Heap.get?_push_size _ rfl
  refine wpAny_bind (wpAny_holding (wpAny_call_entry slot_list_sort ⟨_, atN, rfl⟩ entry_list_sort (list_sort_treeK strKind_oneLt atN are.keysOf (fun v₁ v₂ rest q => keyKind_strs (by rw [← q]; exact are)) (by rw [len]; exact few) fun st b1 b2 => ⟨_, rfl, ?_⟩) (args_list_sort _)))
  obtain ⟨ys, c1, c2, c3⟩ := sorted_out_str are b1 b2
  obtain ⟨c, at2⟩ := sortedHeap_at (vs := vs) (out := (arrOf st).map (·.2)) atN
  refine wpAny_pure ⟨_, rfl, hQ _ s1.heap.objs.size _ c ys (fun b u h => ?_) gen os siz at2 c1 (c2.trans same) c3⟩
  have h1 := keep b u h
  have lt := Heap.lt_size h1
  refine (sortedHeap_old (Nat.ne_of_lt lt) ?_).trans (Heap.get?_push_of_some _ h1)
  exact size_push' _ _ ▸ Nat.lt_succ_of_lt lt
end
def SetS (P : Program) (w : World) (S : Addr) (l : List Str) : HO := .ext fun h => HoldsT P w h S l
section
variable {X : Cx}
def rSetS (P : Program) (w : World) (K : PySem.W.Frag) : List V → Hp → VK → Prop := fun vs H Q => ∃ (a : Addr) (xs : List Str), vs = [V.ref a] ∧ SqL K H a (xs.map V.str) ∧ xs.length < 64 ∧
  ∀ (p : Addr) (l : List Str), H p = none → (∀ x, x ∈ l ↔ x ∈ xs) → l.Nodup → Q (.ref p) (upd H p (SetS P w p l))
theorem cr_setS (hc : X.calm = true) : CallR X (.type "set") (rSetS X.prog X.w X.K) := by
  intro pins s σ H vs us Q I r h
  obtain ⟨a, xs, rfl, hs, few, q⟩ := h
  obtain ⟨its, rv, hl, _⟩ := I.list hs
  rw [Vals.ref1 r]
  refine set_of_texts (P := X.prog) (w := X.w) (I.ok.hd hc) hl.isList (xs := xs) (by simpa using rv.strs) few ?_
  rintro s' ⟨h', tk, l, rfl, hold, mem, keep⟩
  have ho : ObjOk X.prog X.w (upd H s.heap.objs.size (SetS X.prog X.w s.heap.objs.size l)) h' s.heap.objs.size (SetS X.prog X.w s.heap.objs.size l) := by
    obtain ⟨D, e, _⟩ := id hold
    exact ⟨hold, ⟨_, e⟩, fun h1 h2 p k => HoldsT.move p k⟩
  obtain ⟨D, e, F, L, nd⟩ := id hold
  exact ⟨.ref _, upd H s.heap.objs.size (SetS X.prog X.w s.heap.objs.size l), I.laid (t' := tk) (fun b u e => keep b u e) (Nat.le_refl _) ho, rfl, q _ l (I.hok.fresh (Nat.le_refl _)) mem nd⟩
def rSortedSetS (P : Program) (w : World) : List V → Hp → VK → Prop := fun vs H Q => ∃ (a : Addr) (l : List Str), vs = [V.ref a] ∧ H a = some (SetS P w a l) ∧ l.length < 64 ∧
  ∀ (ys : List Str) (p : Addr), ys.Perm l → sortedS ys = true → H p = none → Q (.ref p) (upd H p (.lst (ys.map V.str)))
theorem cr_sortedSetS (hc : X.calm = true) : CallR X (.builtin "sorted") (rSortedSetS X.prog X.w) := by
  intro pins s σ H vs us Q I r h
  obtain ⟨a, l, rfl, ha, few, q⟩ := h
  have hold : HoldsT X.prog X.w s.heap a l := (I.hok a _ ha).1
  rw [Vals.ref1 r]
  refine sorted_texts hold (I.ok.hd hc) few fun t p out c ys keep gen os le at_ are perm srt => ?_
  have hlen : (ys.map V.str).length ≤ sizeLine := by rw [List.length_map, perm.length_eq, sizeLine_eq]; omega
  have new : H p = none := I.hok.fresh le
  have J : Inv X pins σ (upd H p (.lst (ys.map V.str))) { s with heap := t.heap, gens := t.gens, drawn := t.drawn, toks := t.toks } :=
    I.call (ch := []) (Un.laid keep le new) (I.hok.laid keep le ⟨hlen, out.toList, c, vals_of_strs are, at_⟩) (gen ▸ I.bare) (fun _ z => nomatch z)
  obtain ⟨t1, t2, t3, t4, t5⟩ := t
  obtain rfl : t5 = s.os := os
  exact ⟨.ref p, _, J, rfl, q ys p perm srt new⟩
end
def uniqS : List Str → List Str
  | [] => []
  | x :: xs => if x ∈ xs then uniqS xs else x :: uniqS xs
theorem mem_uniqS {y : Str} : ∀ {xs : List Str}, y ∈ uniqS xs ↔ y ∈ xs
  | [] => Iff.rfl
  | x :: xs => by
    unfold uniqS
    split
    · rename_i h
      rw [mem_uniqS (xs := xs), List.mem_cons]
      exact ⟨.inr, fun q => q.elim (fun z => z ▸ h) id⟩
    · rw [List.mem_cons, List.mem_cons, mem_uniqS (xs := xs)]
theorem nodup_uniqS : ∀ xs : List Str, (uniqS xs).Nodup
  | [] => List.nodup_nil
  | x :: xs => by
    unfold uniqS
    split
    · exact nodup_uniqS xs
    · rename_i h
      exact List.nodup_cons.mpr ⟨fun q => h (mem_uniqS.mp q), nodup_uniqS xs⟩
theorem len_uniqS : ∀ xs : List Str, (uniqS xs).length ≤ xs.length
  | [] => Nat.le_refl _
  | x :: xs => by
    have := len_uniqS xs
    unfold uniqS
    split <;> simp <;> omega
def ssetS (xs : List Str) : List Str := sortS (uniqS xs)
def sortedSetFn : PyData → Option Ans := fun d => match d with
  | .list ds => (strsOf ds).bind fun ss => if ss.length < 64 then some (.new ((ssetS ss).map .str)) else none
  | _ => none
section
variable {X : Cx} {C : Cof} {Z : WX} {e : Expr} {f : EF} {p1 p2 pos pos2 : Pos}
theorem r_sortedSet (hc : X.calm = true) (hm1 : X.mg "sorted" = none) (hm2 : X.mg "set" = none) (he : PEr X C Z e f) (hg1 : Gl X "sorted" := by rfl) (hg2 : Gl X "set" := by rfl)
    (hs : starEach [e] X.env = (false, eval e X.env) :: starEach [] X.env := by rfl) (hp1 : (backTo pos2 (starEach [] X.env)).any (·.1) = false := by rfl) (hp2 : (backTo pos (starEach [] X.env)).any (·.1) = false := by rfl)
    (hs2 : starEach [.Call (.Name "set" p2) [e] [] pos2] X.env = (false, eval (.Call (.Name "set" p2) [e] [] pos2) X.env) :: starEach [] X.env := by rfl) :
    PEr X C Z (.Call (.Name "sorted" p1) [.Call (.Name "set" p2) [e] [] pos2] [] pos) (eCall1 sortedSetFn f) := by
  obtain ⟨t, ht, hg⟩ := he.ex
  have h1 := pe_callTy (pos := pos2) (p := p2) (cr_setS (X := X) hc) hg2 hm2 (by decide +kernel) (pa_cons ht pa_nil hs) (by decide) (by decide) hs hp1
  refine ⟨_, pe_callB (cr_sortedSetS hc) hg1 hm1 (by decide +kernel) (pa_cons h1 pa_nil hs2) (by decide) (by decide) hs2 hp2, fun F B σ H ρ E => ?_⟩
  refine EGo.bind (T := fun v H1 Q => rSetS X.prog X.w X.K [v] H1 fun v2 H2 => rSortedSetS X.prog X.w [v2] H2 Q) (hg F B σ H ρ E) (fun Q q => q) fun v w ρ' F' H' _ g E' r => ?_
  cases hd : rdW ρ' w with
  | none => trivial
  | some d =>
    dsimp only
    have rr := rdW_ok E' r hd
    cases hfn : sortedSetFn d with
    | none => trivial
    | some a =>
      dsimp only
      cases d with
      | list ds =>
        obtain ⟨ss, hss, ha⟩ := Option.bind_eq_some_iff.mp hfn
        by_cases few : ss.length < 64
        · rw [if_pos few] at ha
          cases ha
          obtain ⟨a, vs, rfl, hrd, ra⟩ := rr.lst
          obtain rfl := strsOf_ok ra hss
          intro Q hQ
          refine ⟨a, ss, rfl, .inl hrd, few, fun p l hp mem nd => ?_⟩
          have N := E'.newF (o := SetS X.prog X.w p l) hp
          have lp : l.Perm (uniqS ss) := (List.perm_ext_iff_of_nodup nd (nodup_uniqS ss)).mpr fun x => (mem x).trans mem_uniqS.symm
          have ll := lp.length_eq
          have lu := len_uniqS ss
          refine ⟨p, l, rfl, upd_same, by omega, fun ys q perm srt hq => ?_⟩
          have ey : ys = ssetS ss := sortS_uniq (perm.trans lp) (sorted_pair ys srt)
          subst ey
          have M := N.2.newT (o := .lst ((ssetS ss).map V.str)) hq
          exact hQ _ _ _ (N.1.trans M.1) M.2 (N.2.tmp hq (rep_strs _))
        · rw [if_neg few] at ha; cases ha
      | _ => cases hfn
end
@[simp] theorem sortedSetFn_strs {ss : List Str} (h : ss.length < 64) : sortedSetFn (.list (ss.map .str)) = some (.new ((ssetS ss).map .str)) := by
  show (strsOf _).bind _ = _
  rw [strsOf_map]
  simp [h]
end Ls
namespace Ls
open PySem PySem.Spec PyProof.Rows L2
section
variable {X : Cx} {C : Cof} {Z : WX} {a b : Expr} {f g : EF} {apos cpos pos : Pos}
def joinFn (x : Str) : PyData → Option Ans
  | .list ds => match strsOf ds with
    | some ys => if (ys.map (·.length)).sum + ys.length * x.length ≤ 16777216 then some (.val (.str (Txt.join x ys))) else none
    | none => none
  | _ => none
theorem k_join {K : PySem.W.Frag} {x : Str} : CallS K (fun vs H Q => ∃ p, ∃ ys : List Str, vs = [.ref p] ∧ (SqL K H p (ys.map V.str) ∨ SqT K H p (ys.map V.str)) ∧ (ys.map (·.length)).sum + ys.length * x.length ≤ 16777216 ∧ Q (.str (Txt.join x ys)) H) (joinFn x) := call_val fun F H v d a r e => by
  unfold joinFn at e
  split at e
  · split at e
    · rename_i ys hy
      split at e
      · rename_i hz
        cases e
        obtain ⟨l, vs, rfl, h1, ra⟩ := r.lst
        have := strsOf_ok ra hy
        subst this
        exact ⟨_, rfl, _, fun F' H' => .str _, fun Q q => ⟨l, ys, rfl, .inl (.inl h1), hz, q⟩⟩
      · cases e
    · cases e
  · cases e
theorem r_join {x : Str} {j : Nat} {p0 : Pos} (hb : PEr X C Z b g) (hs : starEach [b] X.env = [(false, eval b X.env)] := by rfl) (hbase : attributeBase (.Constant (.str x) j p0) (Str.ofString "join") X.env (eval (.Constant (.str x) j p0) X.env) = eval (.Constant (.str x) j p0) X.env := by rfl)
    (hline : (apos.endLine == pos.line) = true := by rfl) : PEr X C Z (.Call (.Attribute (.Constant (.str x) j p0) (Str.ofString "join") apos) [b] [] pos) (eCall1 (joinFn x) g) := by
  obtain ⟨t, ht, h⟩ := hb.ex
  refine ⟨_, pe_join pe_str ht hs hbase hline, fun F B σ H ρ E => ?_⟩
  refine EGo.bind (T := fun y H1 Q => ∃ a p, ∃ ys : List Str, V.str x = .str a ∧ [y] = [.ref p] ∧ (SqL X.K H1 p (ys.map V.str) ∨ SqT X.K H1 p (ys.map V.str)) ∧ (ys.map (·.length)).sum + ys.length * a.length ≤ 16777216 ∧ Q (.str (Txt.join a ys)) H1) (h F B σ H ρ E) (fun Q q => ⟨⟨x, rfl⟩, q⟩) fun v w ρ' F' H' _ g1 E' rv => ?_
  cases h1 : rdW ρ' w with
  | none => trivial
  | some d =>
    dsimp only
    cases h2 : joinFn x d with
    | none => trivial
    | some an =>
      refine fun Q hQ => ?_
      obtain ⟨p, ys, e1, e2, e3, e4⟩ := k_join F' B σ H' ρ' v d an E' (rdW_ok E' rv h1) h2 Q hQ
      exact ⟨x, p, ys, rfl, e1, e2, e3, e4⟩
def upperFn : PyData → Option Ans
  | .str x => if x.length ≤ 5592405 then some (.val (.str (Txt.upper x))) else none
  | _ => none
theorem r_upper (ha : PEr X C Z a f) (hbase : attributeBase a (Str.ofString "upper") X.env (eval a X.env) = eval a X.env := by rfl) (hline : (apos.endLine == pos.line) = true := by rfl) :
    PEr X C Z (.Call (.Attribute a (Str.ofString "upper") apos) [] [] pos) (eCall1 upperFn f) := by
  obtain ⟨t, ht, h⟩ := ha.ex
  refine ⟨_, pe_upper ht hbase hline, fun F B σ H ρ E => ?_⟩
  refine EGo.bind (T := fun y H1 Q => (∃ a, y = V.str a) ∧ ∃ a, y = V.str a ∧ ([] : List V) = [] ∧ a.length ≤ 5592405 ∧ Q (.str (Txt.upper a)) H1) (h F B σ H ρ E) (fun Q q => q) fun v w ρ' F' H' _ g1 E' rv => ?_
  cases h1 : rdW ρ' w with
  | none => trivial
  | some d =>
    dsimp only
    cases h2 : upperFn d with
    | none => trivial
    | some an =>
      unfold upperFn at h2
      split at h2
      · split at h2
        · rename_i hz
          cases h2
          have e := (rdW_ok E' rv h1).str
          subst e
          exact fun Q hQ => ⟨⟨_, rfl⟩, _, rfl, rfl, hz, hQ _ F' H' Gd.refl E' (.str _)⟩
        · cases h2
      · cases h2
def countSFn (y : Str) : PyData → Option Ans
  | .str x => some (.val (.int (Txt.count x y)))
  | _ => none
theorem r_countS {y : Str} {j : Nat} {p0 : Pos} (ha : PEr X C Z a f) (hs : starEach [.Constant (.str y) j p0] X.env = [(false, eval (.Constant (.str y) j p0) X.env)] := by rfl) (hbase : attributeBase a (Str.ofString "count") X.env (eval a X.env) = eval a X.env := by rfl) (hline : (apos.endLine == pos.line) = true := by rfl) :
    PEr X C Z (.Call (.Attribute a (Str.ofString "count") apos) [.Constant (.str y) j p0] [] pos) (eCall1 (countSFn y) f) := by
  obtain ⟨t, ht, h⟩ := ha.ex
  refine ⟨_, pe_m1 PySem.F.slot_str_count PySem.F.type_str_count mt_count ht pe_str hs hbase hline, fun F B σ H ρ E => ?_⟩
  refine EGo.bind (T := fun v H1 Q => (∃ a, v = V.str a) ∧ ∃ a b, v = V.str a ∧ [V.str y] = [V.str b] ∧ Q (.int (Txt.count a b)) H1) (h F B σ H ρ E) (fun Q q => q) fun v w ρ' F' H' _ g1 E' rv => ?_
  cases h1 : rdW ρ' w with
  | none => trivial
  | some d =>
    dsimp only
    cases h2 : countSFn y d with
    | none => trivial
    | some an =>
      unfold countSFn at h2
      split at h2
      · cases h2
        have e := (rdW_ok E' rv h1).str
        subst e
        exact fun Q hQ => ⟨⟨_, rfl⟩, _, y, rfl, rfl, hQ _ F' H' Gd.refl E' (.int _)⟩
      · cases h2
def mulSOp : PyData → PyData → Option Ans
  | .str x, .int k => if 0 < x.length ∧ x.length ≤ 1000 ∧ 2 ≤ k ∧ k ≤ 1000 then some (.val (.str (Txt.mul x k))) else none
  | _, _ => none
def rMulS : V → V → Hp → VK → Prop := fun x y H Q => ∃ a k, x = .str a ∧ y = .int k ∧ MulOk a k ∧ Q (.str (Txt.mul a k)) H
theorem op_mulS : OpR X (binaryOp .Mult) rMulS := by
  intro pins s σ H x y v u Q I rx ry h
  obtain ⟨i, j, rfl, rfl, hz, q⟩ := h
  obtain ⟨t, rfl⟩ := rx
  obtain ⟨t', rfl⟩ := ry
  exact PySem.SB.mul hz (fun t' k => ⟨.str (Txt.mul i j), H, I.tok _, ⟨_, rfl⟩, q⟩)
theorem b_mulS {K : PySem.W.Frag} : BinS K rMulS mulSOp := bin_val fun F H x y d1 d2 a r1 r2 e => by
  unfold mulSOp at e
  split at e
  · split at e
    · rename_i x k h
      cases e
      obtain ⟨h0, h1, h2, h3⟩ := h
      have ok : MulOk x k := by
        refine ⟨by rw [decide_eq_false (by omega), decide_eq_false (by omega)]; rfl, fun _ _ => ?_, fun _ _ => ?_⟩
        · have a1 : (1000 : Int) ≤ (2 ^ 63 - 1) / k := (Int.le_ediv_iff_mul_le (by omega)).mpr (by omega)
          omega
        · have a1 : x.length * k.toNat ≤ 1000 * 1000 := Nat.mul_le_mul h1 (by omega)
          unfold Builtin.Str.tooLong
          rw [sizeLine_eq]
          exact decide_eq_false (by omega)
      exact ⟨_, rfl, _, fun F' H' => .str _, fun Q q => ⟨_, _, r1.str, r2.int, ok, q⟩⟩
    · cases e
  · cases e
def maxL : List Int → Int → Int
  | [], m => m
  | n :: ns, m => maxL ns (if n > m then n else m)
theorem maxL_ok : ∀ (ns : List Int) (m : Int), (maxL ns m = m ∨ maxL ns m ∈ ns) ∧ m ≤ maxL ns m ∧ ∀ n ∈ ns, n ≤ maxL ns m
  | [], m => ⟨.inl rfl, Int.le_refl _, by simp⟩
  | n :: ns, m => by
    obtain ⟨h1, h2, h3⟩ := maxL_ok ns (if n > m then n else m)
    have e : maxL (n :: ns) m = maxL ns (if n > m then n else m) := rfl
    rw [e]
    by_cases c : n > m
    · rw [if_pos c] at h1 h2 h3 ⊢
      refine ⟨.inr ?_, by omega, fun k hk => ?_⟩
      · rcases h1 with h1 | h1
        · rw [h1]; simp
        · simp [h1]
      · rcases List.mem_cons.mp hk with rfl | q
        · exact h2
        · exact h3 k q
    · rw [if_neg c] at h1 h2 h3 ⊢
      refine ⟨?_, h2, fun k hk => ?_⟩
      · rcases h1 with h1 | h1
        · exact .inl h1
        · exact .inr (by simp [h1])
      · rcases List.mem_cons.mp hk with rfl | q
        · omega
        · exact h3 k q
def maxFn1 : PyData → Option Ans
  | .list ds => match intsOf ds with
    | some (n :: ns) => some (.val (.int (maxL ns n)))
    | _ => none
  | _ => none
theorem k_max1 {K : PySem.W.Frag} : CallS K (rMax K) maxFn1 := call_val fun F H v d a r e => by
  unfold maxFn1 at e
  split at e
  · split at e
    · rename_i n ns hn
      cases e
      obtain ⟨l, vs, rfl, h1, ra⟩ := r.lst
      have := intsOf_ok ra hn
      subst this
      refine ⟨_, rfl, _, fun F' H' => .int _, fun Q q => ⟨l, n :: ns, rfl, .inl h1, by simp, fun m hm hle => ?_⟩⟩
      obtain ⟨g1, g2, g3⟩ := maxL_ok ns n
      have : m = maxL ns n := by
        have a1 : maxL ns n ≤ m := by
          rcases g1 with g | g
          · rw [g]; exact hle n (by simp)
          · exact hle _ (by simp [g])
        have a2 : m ≤ maxL ns n := by
          rcases List.mem_cons.mp hm with rfl | z
          · exact g2
          · exact g3 m z
        omega
      rw [this]; exact q
    · cases e
  · cases e
end
@[simp] theorem joinFn_strs (x : Str) (ys : List Str) : joinFn x (.list (ys.map .str)) = if (ys.map (·.length)).sum + ys.length * x.length ≤ 16777216 then some (.val (.str (Txt.join x ys))) else none := by
  unfold joinFn
  simp
@[simp] theorem upperFn_str (x : Str) : upperFn (.str x) = if x.length ≤ 5592405 then some (.val (.str (Txt.upper x))) else none := rfl
@[simp] theorem countSFn_str (y x : Str) : countSFn y (.str x) = some (.val (.int (Txt.count x y))) := rfl
@[simp] theorem mulSOp_str (x : Str) (k : Int) : mulSOp (.str x) (.int k) = if 0 < x.length ∧ x.length ≤ 1000 ∧ 2 ≤ k ∧ k ≤ 1000 then some (.val (.str (Txt.mul x k))) else none := rfl
end Ls
namespace Ls
open PySem PySem.Spec PyProof.Rows L2
def maxL0 : List Int → Int
  | [] => 0
  | n :: ns => maxL ns n
theorem maxOf_eq : ∀ (ns : List Int) (m : Int), PySem.W.maxOf m ns = maxL ns m
  | [], m => rfl
  | n :: ns, m => by
    have e : PySem.W.maxOf m (n :: ns) = PySem.W.maxOf (if m < n then n else m) ns := by
      show List.foldl _ (if decide (m < n) = true then n else m) ns = _
      by_cases c : m < n <;> simp [c, PySem.W.maxOf]
    rw [e, maxOf_eq ns]
    show maxL ns (if m < n then n else m) = maxL ns (if n > m then n else m)
    rfl
theorem holds_int_inv {h : Heap} {v : Value} {n : Int} (H : PySem.W.Holds h v n) : ∃ t, v = .int n t := by
  obtain ⟨as, r⟩ := H
  have r : Reads h v (.int n) as := r
  cases r
  exact ⟨_, rfl⟩
def rMaxD (K : PySem.W.Frag) : List V → List V → Hp → VK → Prop := fun vs zs H Q => ∃ (a : Addr) (ns : List Int), vs = [V.ref a] ∧ zs = [V.int 0] ∧ SqL K H a (ns.map V.int) ∧ Q (.int (maxL0 ns)) H
theorem cr_maxD {X : Cx} (hc : X.calm = true) (hu : X.A.units + 200 < cLine) : CallRK X (.builtin "max") [Str.ofString "default"] (rMaxD X.K) := by
  intro pins s σ H vs zs us ws Q I r rz h
  obtain ⟨a, ns, rfl, rfl, hs, q⟩ := h
  obtain ⟨its, rv, hl, _⟩ := I.list hs
  obtain rfl := Vals.ref1 r
  obtain ⟨w1, rfl, t0, rfl⟩ := vals1 rz
  refine PySem.W.max_list_datum_default (α := Int) (xs := ns) (I.ok.hd hc) hl.isList (by rw [List.toList_toArray]; exact PySem.W.HoldAll.of_ints rv.ints) (by show X.A.units + 1 + 0 < cLine; omega) (fun e h' tk k => ?_) (fun y ys i v h' tk e hi hv k => ?_)
  · subst e
    exact ⟨.int 0, H, I.kept k, ⟨_, rfl⟩, q⟩
  · subst e
    obtain ⟨t, rfl⟩ := holds_int_inv hv
    rw [maxOf_eq]
    exact ⟨.int (maxL ys y), H, I.kept k, ⟨_, rfl⟩, q⟩
def maxDFn : PyData → Option Ans
  | .list ds => (intsOf ds).map fun ns => .val (.int (maxL0 ns))
  | _ => none
section
variable {X : Cx} {C : Cof} {Z : WX} {a b c : Expr} {f g h : EF} {p pos kpos p2 : Pos} {j : Nat}
theorem r_maxD (hu : X.A.units + 200 < cLine) (hc : X.calm = true) (hm : X.mg "max" = none) (ha : PEr X C Z a f) (hg : Gl X "max" := by rfl) (he : backTo pos (starEach [a] X.env) = (false, eval a X.env) :: backTo pos (starEach [] X.env) := by rfl) (hpl : (backTo pos (starEach [a] X.env)).any (·.1) = false := by rfl)
    (hall : (backToKw pos (keywordEach [⟨some "default", .Constant (.int 0) j p2, kpos⟩] X.env)).all (·.1.isSome) = true := by rfl) (hnone : (backToKw pos (keywordEach [⟨some "default", .Constant (.int 0) j p2, kpos⟩] X.env)).any (·.1.isNone) = false := by rfl)
    (hks : (backToKw pos (keywordEach [⟨some "default", .Constant (.int 0) j p2, kpos⟩] X.env)).filterMap (·.1) = [Str.ofString "default"] := by rfl) (hs : starEach [a] X.env = (false, eval a X.env) :: starEach [] X.env := by rfl) :
    PEr X C Z (.Call (.Name "max" p) [a] [⟨some "default", .Constant (.int 0) j p2, kpos⟩] pos) (eCall1 maxDFn f) := by
  obtain ⟨t, ht, hh⟩ := ha.ex
  refine ⟨_, pe_callBK (cr_maxD hc hu) hg hm (by decide +kernel) (pa_cons ht pa_nil hs) (pk_cons pe_int pk_nil) (by decide) (by decide) he hpl hall hnone hks, fun F B σ H ρ E => ?_⟩
  refine EGo.bind (T := fun v H1 Q => rMaxD X.K [v] [.int 0] H1 Q) (hh F B σ H ρ E) (fun Q q => q) fun v w ρ' F' H' _ g1 E' rv => ?_
  cases h1 : rdW ρ' w with
  | none => trivial
  | some d =>
    dsimp only
    cases h2 : maxDFn d with
    | none => trivial
    | some an =>
      unfold maxDFn at h2
      split at h2
      · obtain ⟨ns, h3, rfl⟩ := Option.map_eq_some_iff.mp h2
        obtain ⟨l, vs, rfl, hr, ra⟩ := (rdW_ok E' rv h1).lst
        have := intsOf_ok ra h3
        subst this
        exact fun Q hQ => ⟨l, ns, rfl, rfl, .inl hr, hQ _ F' H' Gd.refl E' (.int _)⟩
      · cases h2
def sortedRevFn : PyData → Option Ans
  | .list ds => (intsOf ds).map fun ns => .new ((sortI ns).reverse.map .int)
  | _ => none
theorem r_sortedRev (hm : X.mg "sorted" = none) (ha : PEr X C Z a f) (hg : Gl X "sorted" := by rfl) (he : backTo pos (starEach [a] X.env) = (false, eval a X.env) :: backTo pos (starEach [] X.env) := by rfl) (hpl : (backTo pos (starEach [a] X.env)).any (·.1) = false := by rfl)
    (hall : (backToKw pos (keywordEach [⟨some "reverse", .Constant (.bool true) j p2, kpos⟩] X.env)).all (·.1.isSome) = true := by rfl) (hnone : (backToKw pos (keywordEach [⟨some "reverse", .Constant (.bool true) j p2, kpos⟩] X.env)).any (·.1.isNone) = false := by rfl)
    (hks : (backToKw pos (keywordEach [⟨some "reverse", .Constant (.bool true) j p2, kpos⟩] X.env)).filterMap (·.1) = [Str.ofString "reverse"] := by rfl) (hs : starEach [a] X.env = (false, eval a X.env) :: starEach [] X.env := by rfl) :
    PEr X C Z (.Call (.Name "sorted" p) [a] [⟨some "reverse", .Constant (.bool true) j p2, kpos⟩] pos) (eCall1 sortedRevFn f) := by
  obtain ⟨t, ht, hh⟩ := ha.ex
  refine ⟨_, pe_callBK (cr_sortedRev (b := true)) hg hm (by decide +kernel) (pa_cons ht pa_nil hs) (pk_cons pe_bl pk_nil) (by decide) (by decide) he hpl hall hnone hks, fun F B σ H ρ E => ?_⟩
  refine EGo.bind (T := fun v H1 Q => rSortedKw X.K true [.bl true] [v] [.bl true] H1 Q) (hh F B σ H ρ E) (fun Q q => q) fun v w ρ' F' H' _ g1 E' rv => ?_
  cases h1 : rdW ρ' w with
  | none => trivial
  | some d =>
    dsimp only
    cases h2 : sortedRevFn d with
    | none => trivial
    | some an =>
      unfold sortedRevFn at h2
      split at h2
      · obtain ⟨ns, h3, rfl⟩ := Option.map_eq_some_iff.mp h2
        obtain ⟨l, vs, rfl, hr, ra⟩ := (rdW_ok E' rv h1).lst
        have := intsOf_ok ra h3
        subst this
        refine fun Q hQ => ⟨l, ns, rfl, rfl, .inl hr, fun ns' q hp ho hn => ?_⟩
        have ho : ns'.Pairwise (· ≥ ·) := ho
        have e : ns' = (sortI ns).reverse := by
          have := sortI_uniq (ys := ns'.reverse) (ss := ns) ((List.reverse_perm ns').trans hp) (List.pairwise_reverse.mpr ho)
          rw [← this, List.reverse_reverse]
        rw [e]
        exact hQ _ _ _ (E'.newT hn).1 (E'.newT hn).2 (E'.tmp hn (rep_ints _))
      · cases h2
def min3 (x y z : Int) : Int := if y < x then (if z < y then z else y) else (if z < x then z else x)
theorem call_min3 (hc : X.calm = true) : CallR X (.builtin "min") (fun xs H Q => ∃ i j k, xs = [.int i, .int j, .int k] ∧ Q (.int (min3 i j k)) H) := by
  intro pins s σ H xs us Q I r h
  obtain ⟨i, j, k, rfl, q⟩ := h
  obtain ⟨u1, u2, u3, rfl, ⟨t1, rfl⟩, ⟨t2, rfl⟩, t3, rfl⟩ := vals3 r
  refine min_three_ints (I.ok.hd hc) fun h' tk kk => ⟨_, H, I.kept kk, ?_, q⟩
  unfold min3
  split
  · split <;> exact ⟨_, rfl⟩
  · split <;> exact ⟨_, rfl⟩
def eMin3 (f g h : EF) : EF := fun ρ => (eFz f ρ).bind fun w1 ρ1 => (eFz g ρ1).bind fun w2 ρ2 => (eFz h ρ2).bind fun w3 ρ3 => match w1, w2, w3 with
  | .val (.int x), .val (.int y), .val (.int z) => .ok (.val (.int (min3 x y z))) ρ3
  | _, _, _ => .stuck
theorem r_min3 (hc : X.calm = true) (hm : X.mg "min" = none) (ha : PEr X C Z a f) (hb : PEr X C Z b g) (hd : PEr X C Z c h) (hg : Gl X "min" := by rfl) (he : starEach [a, b, c] X.env = (false, eval a X.env) :: starEach [b, c] X.env := by rfl)
    (he2 : starEach [b, c] X.env = (false, eval b X.env) :: starEach [c] X.env := by rfl) (he3 : starEach [c] X.env = (false, eval c X.env) :: starEach [] X.env := by rfl) (hpl : (backTo pos (starEach [b, c] X.env)).any (·.1) = false := by rfl) :
    PEr X C Z (.Call (.Name "min" p) [a, b, c] [] pos) (eMin3 f g h) := by
  obtain ⟨t1, ht1, h1⟩ := ha.ex
  obtain ⟨t2, ht2, h2⟩ := hb.ex
  obtain ⟨t3, ht3, h3⟩ := hd.ex
  refine ⟨_, pe_callB (call_min3 hc) hg hm (by decide +kernel) (pa_cons ht1 (pa_cons ht2 (pa_cons ht3 pa_nil he3) he2) he) (by decide) (by decide) he hpl, fun F B σ H ρ E => ?_⟩
  refine EGo.bind (T := fun x H1 Q => t2 σ H1 fun y H2 => t3 σ H2 fun z H3 => ∃ i j k, [x, y, z] = [V.int i, V.int j, V.int k] ∧ Q (.int (min3 i j k)) H3) (fzGo h1 F B σ H ρ E) (fun Q q => q) fun x w1 ρ1 F1 H1 _ g1 E1 rx => ?_
  refine EGo.bind (T := fun y H2 Q => t3 σ H2 fun z H3 => ∃ i j k, [x, y, z] = [V.int i, V.int j, V.int k] ∧ Q (.int (min3 i j k)) H3) (fzGo h2 F1 B σ H1 ρ1 E1) (fun Q q => q) fun y w2 ρ2 F2 H2 _ g2 E2 ry => ?_
  refine EGo.bind (T := fun z H3 Q => ∃ i j k, [x, y, z] = [V.int i, V.int j, V.int k] ∧ Q (.int (min3 i j k)) H3) (fzGo h3 F2 B σ H2 ρ2 E2) (fun Q q => q) fun z w3 ρ3 F3 H3 _ g3 E3 rz => ?_
  split
  · rename_i i j k _ _ _
    have rx : Rep X.K F1 H1 x (.int i) := rx
    have ry : Rep X.K F2 H2 y (.int j) := ry
    have rz : Rep X.K F3 H3 z (.int k) := rz
    cases rx; cases ry; cases rz
    exact fun Q hQ => ⟨i, j, k, rfl, hQ _ F3 H3 Gd.refl E3 (.int _)⟩
  · trivial
end
@[simp] theorem maxDFn_ints (ns : List Int) : maxDFn (.list (ns.map .int)) = some (.val (.int (maxL0 ns))) := by
  unfold maxDFn; simp
@[simp] theorem maxFn1_ints (n : Int) (ns : List Int) : maxFn1 (.list (.int n :: ns.map .int)) = some (.val (.int (maxL ns n))) := by
  have := intsOf_map (n :: ns)
  simp only [List.map_cons] at this
  unfold maxFn1
  simp only [this]
@[simp] theorem sortedRevFn_ints (ns : List Int) : sortedRevFn (.list (ns.map .int)) = some (.new ((sortI ns).reverse.map .int)) := by
  unfold sortedRevFn; simp
def removeM : MutF
  | ds, [.int k] => match intsOf ds with
    | some ns => if k ∈ ns then some (.none, (ns.erase k).map .int) else none
    | none => none
  | _, _ => none
theorem firstI {k : Int} : ∀ {ns : List Int}, k ∈ ns → ∃ j, j < ns.length ∧ ns[j]? = some k ∧ (∀ i : Nat, i < j → ns[i]? ≠ some k) ∧ ns.eraseIdx j = ns.erase k
  | n :: ns, h => by
    by_cases e : n = k
    · subst e
      exact ⟨0, by simp, rfl, fun i hi => absurd hi (by omega), by simp⟩
    · obtain ⟨j, h1, h2, h3, h4⟩ := firstI (ns := ns) ((List.mem_cons.mp h).resolve_left fun z => e z.symm)
      refine ⟨j + 1, by simp; omega, by simpa using h2, fun i hi => ?_, ?_⟩
      · cases i with
        | zero => simp; exact e
        | succ i => simpa using h3 i (by omega)
      · rw [List.eraseIdx_cons_succ, h4, List.erase_cons_tail (by simpa using e)]
theorem mt_removeX {X : Cx} : MtM X "list.remove" rRemI := mt_remove
theorem m_remove {K : PySem.W.Frag} : MutS K rRemI removeM := by
  intro F H l vs ds args dargs res ds' hl rl ra e Q hQ
  unfold removeM at e
  split at e
  · split at e
    · rename_i k _ ns hn
      split at e
      · rename_i hk
        cases e
        obtain ⟨v, rfl, rv⟩ := ra.one
        cases rv
        have := intsOf_ok rl hn
        subst this
        obtain ⟨j, hj, h1, h2, h3⟩ := firstI hk
        exact ⟨l, ns, k, j, rfl, rfl, hl, h1, h2, hQ _ _ .non (by rw [h3]; exact rep_ints _)⟩
      · cases e
    · cases e
  · cases e
@[simp] theorem removeM_ints (ns : List Int) (k : Int) : removeM (ns.map .int) [.int k] = if k ∈ ns then some (.none, (ns.erase k).map .int) else none := by
  unfold removeM; simp
end Ls
namespace Ls
open PySem PySem.Spec PyProof.Rows L2
section
variable {X : Cx} {k : Nat} {f : Addr} {fd : FuncData} {ps : List Str} {sp : Sp} {E : L2.St → XK} {x : Str} {p pos : Pos}
theorem pe_callM0 (F : FnM X.prog X.w X.K X.mg X.base k f fd ps sp) (hr : RM k X.A) (hg : Gl X x) (hm : X.mg x = some (.ref f)) (hk : PySem.W.keepIn X.K (.ref f) = true) (hb : Binds X.K fd ps []) (hx : ∀ σ, PassesAt (L2.CX X.prog X.w) X σ (E σ))
    (hdb : (x == ("__debug__" : Str)) = false := by decide) : PE X (.Call (.Name x p) [] [] pos) (fun σ H Q => sp [] H Q (E σ)) := by
  constructor
  intro pins s σ H Q I q
  refine wpAny_Call_Name_kw (ld_glob I hg hm (PySem.W.callWith_K0 I.kIn hk ?_) hdb)
  have hl : ([] : List Value).length = ps.length := F.len _ _ _ _ q
  have b := hb s [] I.kIn hl
  rw [List.append_nil] at b
  refine wpAny_call (codeAny_mono (F.run X.A X.stack s H ⟨[], []⟩ [] [] Q (E σ) hr I.env0 b .nil q) ?_)
  intro r s' z
  match r, z with
  | .error e1, z => exact hx σ pins H s e1 s' I z
  | .ok (.ret u), z => exact I.after z
  | .ok .next, z => exact z.elim
  | .ok .brk, z => exact z.elim
  | .ok .cont, z => exact z.elim
end
section
variable {X : Cx} {C : Cof} {Z : WX} {k : Nat} {m : DF} {x : Str} {p pos : Pos}
theorem r_call0 (G : Kn X.prog X.w X.K X.mg X.base C k x 0 m) (hr : RM k X.A) (tk : Takes X Z) (hg : Gl X x := by rfl) (hdb : (x == ("__debug__" : Str)) = false := by decide) : PEr X C Z (.Call (.Name x p) [] [] pos) (eCall [] m aNil) := by
  obtain ⟨f, fd, ps, FO, hm, hk, hb⟩ := G.ex
  refine ⟨_, pe_callM0 FO hr hg hm hk hb (fun σ => passAt tk σ) hdb, fun F B σ H ρ E => ?_⟩
  refine EGo.bindA (t1 := fun Q => Q [] H) (T := fun vs H1 Q => spM C X.K 0 m vs H1 Q (WE Z σ)) (r := aNil ρ) (fun Q hQ => hQ [] F H Gd.refl E trivial) (fun Q q => q) fun vs ws ρ1 F1 H1 hfa g1 E1 rs => ?_
  have hws : ws = [] ∧ ρ1 = ρ := by cases hfa; exact ⟨rfl, rfl⟩
  obtain ⟨rfl, rfl⟩ := hws
  have hv : vs = [] := by
    cases vs with
    | nil => rfl
    | cons a b => exact rs.elim
  subst hv
  cases h1 : argsOf [] ρ1 0 [] with
  | none => trivial
  | some args =>
    dsimp only
    split
    · rename_i nd
      have EI := call_in E1 rs h1 nd
      cases h2 : m args with
      | stuck => trivial
      | exc c =>
        refine fun xx Q => ⟨rfl, F1, _, args, EI, ?_⟩
        rw [h2]
        intro F2 H2 g2
        have gd : Gd F1 (callB B σ ρ1 []) H1 (fun b => F2 b ∧ ∃ o, H2 b = some o) H2 := ⟨fun b h => ⟨g2.sub b h, by obtain ⟨o, e⟩ := E1.dom b h; exact ⟨o, g2.st b o (.inl h) e⟩⟩, g2.st, fun b h z => g2.pr b h z.1⟩
        obtain ⟨q1, q2⟩ := call_exc E1 gd fun b h => h.2
        exact xx _ H2 q1 q2
      | ok r outs =>
        dsimp only
        split
        · rename_i hlo
          refine fun Q hQ => ⟨rfl, F1, _, args, EI, ?_⟩
          rw [h2]
          intro v F2 H2 g2 E2 r2
          obtain ⟨q1, q2, q3⟩ := call_out E1 rs nd hlo g2 E2 r2
          exact hQ v F2 H2 q1 q2 q3
        · trivial
    · trivial
end

mutual
def noL : PyData → Bool
  | .list _ => false
  | .tuple ds => noLs ds
  | .dict _ => false
  | .none => true
  | .bool _ => true
  | .int _ => true
  | .str _ => true
def noLs : List PyData → Bool
  | [] => true
  | d :: ds => noL d && noLs ds
end
mutual
theorem Rep.thaw {K : PySem.W.Frag} {F : Addr → Prop} {H : Hp} {a : Addr} {us : List V} (ha : H a = some (.lst us)) : ∀ (d : PyData) (v : V), noL d = true → Rep K F H v d → Rep K (fun b => F b ∧ b ≠ a) H v d
  | .none, _, _, h => by cases h; exact .non
  | .bool b, _, _, h => by cases h; exact .bl b
  | .int i, _, _, h => by cases h; exact .int i
  | .str x, _, _, h => by cases h; exact .str x
  | .list ds, _, n, _ => by simp [noL] at n
  | .tuple ds, _, n, h => by
    cases h with
    | tup f r ra =>
      have n' : noLs ds = true := by simpa [noL] using n
      refine .tup ?_ r (RepA.thaw ha ds _ n' ra)
      rcases f with f | f
      · rcases r with r | r
        · refine .inl ⟨f, fun e => ?_⟩
          subst e
          rcases r with r | ⟨o, r⟩
          · rw [ha] at r; cases r
          · rw [ha] at r; cases r
        · exact .inr fun H' => .inr r
      · exact .inr f
  | .dict _, _, n, _ => by simp [noL] at n
theorem RepA.thaw {K : PySem.W.Frag} {F : Addr → Prop} {H : Hp} {a : Addr} {us : List V} (ha : H a = some (.lst us)) : ∀ (ds : List PyData) (vs : List V), noLs ds = true → RepA K F H vs ds → RepA K (fun b => F b ∧ b ≠ a) H vs ds
  | [], _, _, h => by cases h; exact .nil
  | d :: ds, _, n, h => by
    have n' : noL d = true ∧ noLs ds = true := by simpa [noLs] using n
    cases h with
    | cons h1 h2 => exact .cons (Rep.thaw ha d _ n'.1 h1) (RepA.thaw ha ds _ n'.2 h2)
end
def noLW : W → Bool
  | .val d => noL d
  | .tmp ds => noLs ds
  | .loc _ => false
def noLE : Env → Bool
  | [] => true
  | some (.mut ds) :: ρ => noLs ds && noLE ρ
  | _ :: ρ => noLE ρ
theorem noLE_get : ∀ {ρ : Env} {j : Nat} {es : List PyData}, noLE ρ = true → ρ[j]? = some (some (.mut es)) → noLs es = true
  | [], _, _, _, h => by simp at h
  | x :: ρ, 0, es, n, h => by
    simp at h
    subst h
    have : noLs es = true ∧ noLE ρ = true := by simpa [noLE] using n
    exact this.1
  | x :: ρ, j + 1, es, n, h => by
    refine noLE_get (ρ := ρ) (j := j) ?_ (by simpa using h)
    cases x with
    | none => simpa [noLE] using n
    | some s => cases s with
      | val d => simpa [noLE] using n
      | «mut» ds =>
        have : noLs ds = true ∧ noLE ρ = true := by simpa [noLE] using n
        exact this.2
open Classical in
noncomputable def eThaw (i : Nat) (fe : EF) : EF := fun ρ => match ρ[i]? with
  | some (some (.mut ds)) => (match fe (ρ.set i (some (.val (.list ds)))) with
    | .ok w ρ1 => if ρ1 = ρ.set i (some (.val (.list ds))) ∧ noLW w = true ∧ noLE ρ = true then .ok w ρ else .stuck
    | _ => .stuck)
  | _ => .stuck
section
variable {X : Cx} {C : Cof} {Z : WX} {e : Expr} {fe : EF}
theorem r_thaw (i : Nat) (h : PEr X C Z e fe) : PEr X C Z e (eThaw i fe) := by
  obtain ⟨t, ht, hs⟩ := h.ex
  refine ⟨t, ht, fun F B σ H ρ E => ?_⟩
  unfold eThaw
  cases h0 : ρ[i]? with
  | none => trivial
  | some s0 => cases s0 with
    | none => trivial
    | some s => cases s with
      | val d => trivial
      | «mut» ds =>
        dsimp only
        obtain ⟨a, us, e1, e2, nF, nB, ra⟩ := E.mt i ds h0
        have fz : fzW ρ (.loc i) = some (.list ds, ρ.set i (some (.val (.list ds)))) := by unfold fzW; dsimp only; rw [h0]
        obtain ⟨F', g0, E0, r0⟩ := fzW_ok E (show RW X.K F B H σ ρ (.ref a) (.loc i) from e1) fz
        have fa : F' a := by cases r0 with | lst f _ _ => exact f
        have hh := hs F' B σ H _ E0
        cases h1 : fe (ρ.set i (some (.val (.list ds)))) with
        | stuck => trivial
        | exc c ρ1 => trivial
        | ok w ρ1 =>
          rw [h1] at hh
          dsimp only
          split
          · rename_i hc
            obtain ⟨c1, c2, c3⟩ := hc
            subst c1
            intro Q hQ
            refine hh Q fun v F1 H1 g1 E1 r1 => hQ v (fun b => F1 b ∧ b ≠ a) H1 ?_ ?_ ?_
            · exact ⟨fun b hb => ⟨g1.sub b (g0.sub b hb), fun z => nF (z ▸ hb)⟩, fun b o z q => g1.st b o (z.imp (g0.sub b) id) q, fun b hb z => g0.pr b hb (g1.pr b hb z.1)⟩
            · have ha : H1 a = some (.lst us) := g1.st a _ (.inl fa) e2
              have gF : Gd F B H (fun b => F1 b ∧ b ≠ a) H1 := ⟨fun b hb => ⟨g1.sub b (g0.sub b hb), fun z => nF (z ▸ hb)⟩, fun b o z q => g1.st b o (z.imp (g0.sub b) id) q, fun b hb z => g0.pr b hb (g1.pr b hb z.1)⟩
              refine ⟨E.len, fun b hb => E1.dom b hb.1, E1.domB, fun j d hj => ?_, fun j es hj => ?_, E.inj⟩
              · obtain ⟨u, q1, q2⟩ := E.sl j d hj
                exact ⟨u, q1, Rep.gd gF q2⟩
              · by_cases ij : j = i
                · subst ij
                  rw [h0] at hj; cases hj
                  exact ⟨a, us, e1, ha, fun z => z.2 rfl, nB, RepA.gd gF ra⟩
                · have hj' : (ρ.set i (some (.val (.list ds))))[j]? = some (some (.mut es)) := by rw [List.getElem?_set_ne (fun z => ij z.symm)]; exact hj
                  obtain ⟨b, ws, z1, z2, z3, z4, z5⟩ := E1.mt j es hj'
                  exact ⟨b, ws, z1, z2, fun z => z3 z.1, z4, RepA.thaw ha es _ (noLE_get c3 hj) z5⟩
            · have ha : H1 a = some (.lst us) := g1.st a _ (.inl fa) e2
              cases w with
              | val d => exact Rep.thaw ha d _ c2 r1
              | loc j => simp [noLW] at c2
              | tmp es =>
                obtain ⟨b, ws, z1, z2, z3, z4, z5, z6⟩ := r1
                refine ⟨b, ws, z1, z2, fun z => z3 z.1, z4, fun j fs hj hs2 => ?_, RepA.thaw ha es _ c2 z6⟩
                by_cases ij : j = i
                · subst ij
                  rw [e1] at hs2; cases hs2
                  exact z3 (g1.sub _ fa)
                · exact z5 j fs (by rw [List.getElem?_set_ne (fun z => ij z.symm)]; exact hj) hs2
          · trivial
end
theorem eThaw_ok {i : Nat} {fe : EF} {ρ ρ0 : Env} {ds : List PyData} {w : W} (h0 : ρ[i]? = some (some (.mut ds))) (e0 : ρ.set i (some (.val (.list ds))) = ρ0) (h : fe ρ0 = .ok w ρ0) (n1 : noLW w = true) (n2 : noLE ρ = true) : eThaw i fe ρ = .ok w ρ := by
  subst e0
  unfold eThaw
  rw [h0]
  dsimp only
  rw [h]
  dsimp only
  rw [if_pos ⟨rfl, n1, n2⟩]
theorem noLs_map {α : Type} {f : α → PyData} {l : List α} (h : ∀ x ∈ l, noL (f x) = true) : noLs (l.map f) = true := by
  induction l with
  | nil => rfl
  | cons a l ih => simp only [List.map_cons, noLs, Bool.and_eq_true]; exact ⟨h a (by simp), ih fun x hx => h x (by simp [hx])⟩
end Ls
namespace Ls
open PySem PySem.Spec PyProof.Rows L2
def noMutE : Env → Bool
  | [] => true
  | some (.mut _) :: _ => false
  | _ :: ρ => noMutE ρ
theorem noMutE_get : ∀ {ρ : Env} {j : Nat} {es : List PyData}, noMutE ρ = true → ρ[j]? ≠ some (some (.mut es))
  | [], _, _, _ => by simp
  | x :: ρ, 0, es, n => by
    intro h
    simp at h
    subst h
    simp [noMutE] at n
  | x :: ρ, j + 1, es, n => by
    intro h
    refine noMutE_get (ρ := ρ) (j := j) (es := es) ?_ (by simpa using h)
    cases x with
    | none => simpa [noMutE] using n
    | some s => cases s with
      | val d => simpa [noMutE] using n
      | «mut» ds => simp [noMutE] at n
def keepE (pin : List Nat) (i : Nat) : Nat → Env → Env
  | _, [] => []
  | k, s :: ρ => (if pin.contains k && !(k == i) then s else none) :: keepE pin i (k + 1) ρ
theorem keepE_len {pin : List Nat} {i : Nat} : ∀ {k : Nat} {ρ : Env}, (keepE pin i k ρ).length = ρ.length
  | _, [] => rfl
  | k, s :: ρ => congrArg (· + 1) keepE_len
theorem keepE_get {pin : List Nat} {i : Nat} : ∀ {k j : Nat} {ρ : Env} {s : Sl}, (keepE pin i k ρ)[j]? = some (some s) → k + j ∈ pin ∧ k + j ≠ i ∧ ρ[j]? = some (some s)
  | _, _, [], _, h => by simp [keepE] at h
  | k, 0, x :: ρ, s, h => by
    simp only [keepE, List.getElem?_cons_zero, Option.some.injEq] at h
    split at h
    · rename_i q
      subst h
      simp at q
      exact ⟨by simpa using q.1, by simpa using q.2, rfl⟩
    · cases h
  | k, j + 1, x :: ρ, s, h => by
    simp only [keepE, List.getElem?_cons_succ] at h
    obtain ⟨a, b, c⟩ := keepE_get h
    rw [show k + 1 + j = k + (j + 1) by omega] at a b
    exact ⟨a, b, by simpa using c⟩
def two : List W → Option (List PyData × List PyData)
  | [.tmp d1, .tmp d2] => some (d1, d2)
  | _ => none
theorem two_eq {ws : List W} {q : List PyData × List PyData} (h : two ws = some q) : ws = [.tmp q.1, .tmp q.2] := by
  unfold two at h
  split at h
  · cases h; rfl
  · cases h
def frK (n : Nat) (k : SRes) : SRes → SRes
  | .nx ρ2 => if ρ2.length = n then k else .stuck
  | .ret (.val d) ρ2 => .ret (.val d) ρ2
  | _ => .stuck
def sFresh (pin2 : List Nat) (i : Nat) (fa : AF) (f2 g : SF) : SF := fun ρ => match fa ρ with
  | .ok ws ρ1 => (match two ws with
    | some (d1, d2) => if noMutE ρ1 = true ∧ d1.length < sizeLine ∧ i < ρ1.length then frK ρ1.length (g (keepE pin2 i 0 ρ1)) (f2 (ρ1.set i (some (.val (.list [.list d1, .list d2]))))) else .stuck
    | none => .stuck)
  | _ => .stuck
section
variable {X : Cx} {C : Cof} {Z : WX} {pin : List Nat}
theorem s_fresh (pin2 : List Nat) (i : Nat) {x y : Str} {es : List Expr} {fa : AF} {f2 g : SF} {st2 : Stmt} {rest : List Stmt} {p1 p2 pos pos3 cpos apos : Pos} {spos j1 j2 : _} {pc1 pc2 : Pos}
    (hN : X.N.Nodup) (hi : X.N[i]? = some x) (hx : Loc X.env.scope x) (hv : Vis X.env.scope x)
    (hA : PAr X C Z es fa) (h2 : PSr X C Z pin2 st2 f2) (h3 : PSsr X C Z pin rest g)
    (hp : ∀ j ∈ pin, j ∈ pin2) (hip : i ∉ pin) (hip2 : i ∈ pin2)
    (hs : swapsWith (.List es spos) (some (.Name x p1)) pos.line X.env = pure false := by rfl)
    (hf : X.fn x = true ∨ X.env.scope.names.lookup x = some .local := by first | exact .inl rfl | exact .inr rfl)
    (hd : (x == ("__debug__" : Str)) = false := by decide) (hcd : (x == ("__classdict__" : Str)) = false := by decide)
    (hbase : attributeBase (.Subscript (.Name x p2) (.Constant (.int 0) j1 pc1) pos3) "append" X.env (eval (.Subscript (.Name x p2) (.Constant (.int 0) j1 pc1) pos3) X.env) = eval (.Subscript (.Name x p2) (.Constant (.int 0) j1 pc1) pos3) X.env := by rfl)
    (hfew : ((backTo cpos (starEach [.Constant (.str y) j2 pc2] X.env)).all (fun x => !x.1) && (backToKw cpos (keywordEach [] X.env)).all (fun x => x.1.isSome)
      && decide (([.Constant (.str y) j2 pc2] : List Expr).length + ([] : List Keyword).length + (if ([] : List Keyword).isEmpty then 0 else 1) < 30)) = true := by rfl)
    (hline : (apos.endLine == cpos.line) = true := by rfl) (hst : starEach [.Constant (.str y) j2 pc2] X.env = (false, eval (.Constant (.str y) j2 pc2) X.env) :: starEach [] X.env := by rfl) (hplain : (backTo cpos (starEach [] X.env)).any (·.1) = false := by rfl)
    {epos : Pos} (hse : swapsWith (.Call (.Attribute (.Subscript (.Name x p2) (.Constant (.int 0) j1 pc1) pos3) "append" apos) [.Constant (.str y) j2 pc2] [] cpos) none epos.line X.env = pure false := by rfl) :
    PSsr X C Z pin (.Assign [.Name x p1] (.List es spos) pos :: st2 :: .Expr (.Call (.Attribute (.Subscript (.Name x p2) (.Constant (.int 0) j1 pc1) pos3) "append" apos) [.Constant (.str y) j2 pc2] [] cpos) epos :: rest) (sFresh pin2 i fa f2 g) := by
  obtain ⟨ta, hta, ha⟩ := hA.ex
  obtain ⟨t2, ht2, hs2⟩ := h2.ex
  obtain ⟨t3, ht3, hs3⟩ := h3.ex
  refine ⟨_, pss_cons (ps_set hN hi hx (pe_lst hta) hs hf) (pss_cons ht2 (pss_cons (ps_expr (pe_bm PySem.F.plainAttrs_list PySem.F.slot_list_append PySem.F.type_list_append mt_append (pe_ix ix_list (pe_var hi hv hd hcd) pe_int (fun _ _ => rfl)) (pa_cons pe_str pa_nil hst) hbase hfew hline hst hplain) hse) ht3)), fun F B σ H ρ D E h => ?_⟩
  have hh := ha F B σ H ρ E
  unfold sFresh at h
  cases h0 : fa ρ with
  | stuck => rw [h0] at h; exact h.elim
  | exc c ρ1 => rw [h0] at h; exact h.elim
  | ok ws ρ1 =>
    rw [h0] at h hh
    dsimp only at h
    cases hw : two ws with
    | none => rw [hw] at h; exact h.elim
    | some q =>
      obtain ⟨d1, d2⟩ := q
      have hw2 := two_eq hw
      rw [hw] at h
      dsimp only at h hw2
      subst hw2
      split at h
      · rename_i hc
        obtain ⟨c1, c2, c3⟩ := hc
        refine hh _ fun vs F1 H1 g1 E1 rs => ?_
        match vs, rs with
        | [v1, v2], rs =>
          obtain ⟨r1, r2, _⟩ := rs
          obtain ⟨a1, us1, rfl, e1, nF1, nB1, nM1, ra1⟩ := r1
          obtain ⟨a2, us2, rfl, e2, nF2, nB2, nM2, ra2⟩ := r2
          have nB2' : ¬ B a2 := fun z => nB2 (.inl z)
          have ne12 : a1 ≠ a2 := fun z => nB2 (.inr (by rw [z]))
          refine ⟨by show (2 : Nat) ≤ sizeLine; decide, fun p hp0 => ?_⟩
          obtain ⟨nFp, nBp, _⟩ := E1.nofresh hp0
          have np1 : p ≠ a1 := fun z => by subst z; rw [hp0] at e1; cases e1
          have np2 : p ≠ a2 := fun z => by subst z; rw [hp0] at e2; cases e2
          obtain ⟨gT, ET⟩ := E1.newT (o := .lst [.ref a1, .ref a2]) hp0
          -- all three frozen
          obtain ⟨H2, hH2⟩ : ∃ H2, H2 = upd H1 p (.lst [.ref a1, .ref a2]) := ⟨_, rfl⟩
          rw [← hH2] at gT ET ⊢
          have k1 : H2 a1 = some (.lst us1) := by rw [hH2]; exact stab_new hp0 a1 _ e1
          have k2 : H2 a2 = some (.lst us2) := by rw [hH2]; exact stab_new hp0 a2 _ e2
          have kp : H2 p = some (.lst [.ref a1, .ref a2]) := by rw [hH2]; exact upd_same
          let F2 : Addr → Prop := fun b => F1 b ∨ b = a1 ∨ b = a2 ∨ b = p
          have gZ : Gd F1 B H2 F2 H2 := ⟨fun _ h => .inl h, fun _ _ _ h => h, fun b hb z => by
            rcases z with z | rfl | rfl | rfl
            · exact z
            · exact absurd hb nB1
            · exact absurd hb nB2'
            · exact absurd hb nBp⟩
          have EZ : ER X.K F2 B H2 σ ρ1 := by
            refine ⟨ET.len, ?_, ET.domB, fun j d hj => ?_, fun j ds hj => absurd hj (noMutE_get c1), fun j k ds es a hj => absurd hj (noMutE_get c1)⟩
            · rintro b (z | rfl | rfl | rfl)
              · exact ET.dom b z
              · exact ⟨_, k1⟩
              · exact ⟨_, k2⟩
              · exact ⟨_, kp⟩
            · obtain ⟨u, q1, q2⟩ := ET.sl j d hj
              exact ⟨u, q1, Rep.gd gZ q2⟩
          have rep : Rep X.K F2 H2 (.ref p) (.list [.list d1, .list d2]) :=
            .lst (.inr (.inr (.inr rfl))) (.inl kp) (.cons (.lst (.inr (.inl rfl)) (.inl k1) (RepA.gd (gT.trans gZ) ra1)) (.cons (.lst (.inr (.inr (.inl rfl))) (.inl k2) (RepA.gd (gT.trans gZ) ra2)) .nil))
          have ES := EZ.setV (i := i) rep
          have gA : Gd F B H F2 H2 := g1.trans (gT.trans gZ)
          have pset : PinEq pin σ (σ.set i (some (.ref p))) := PinEq.set hip
          show tSeq t2 (tSeq _ t3) D (σ.set i (some (.ref p))) H2
          refine hs2 F2 B (σ.set i (some (.ref p))) H2 _ _ ES ?_
          obtain ⟨kk, hkk⟩ : ∃ kk, kk = g (keepE pin2 i 0 ρ1) := ⟨_, rfl⟩
          rw [← hkk] at h
          cases h4 : f2 (ρ1.set i (some (.val (.list [.list d1, .list d2])))) with
          | stuck => rw [h4] at h; exact h.elim
          | exc c ρ2 => rw [h4] at h; exact h.elim
          | brk ρ2 => rw [h4] at h; exact h.elim
          | cnt ρ2 => rw [h4] at h; exact h.elim
          | ret r ρ2 =>
            rw [h4] at h
            cases r with
            | «mut» ds => exact h.elim
            | val d => exact fun v σ' F' H' g' p' E' rr => h v σ' F' H' (gA.trans g') (pset.trans fun j hj => p' j (hp j hj)) E' rr
          | nx ρ2 =>
            rw [h4] at h
            obtain ⟨hlen, h⟩ : ρ2.length = ρ1.length ∧ SPost X C Z pin F B H σ D kk := by
              by_cases q : ρ2.length = ρ1.length
              · have e : frK ρ1.length kk (.nx ρ2) = kk := if_pos q
                rw [e] at h
                exact ⟨q, h⟩
              · have e : frK ρ1.length kk (.nx ρ2) = .stuck := if_neg q
                rw [e] at h
                exact h.elim
            intro σ2 F3 H3 g3 p3 E3
            have lt : i < σ.length := by rw [E1.len]; exact c3
            have s2i : σ2[i]? = some (some (.ref p)) := by rw [p3 i hip2, List.getElem?_set_self lt]
            have m1 : H3 a1 = some (.lst us1) := g3.st a1 _ (.inl (.inr (.inl rfl))) k1
            have mp : H3 p = some (.lst [.ref a1, .ref a2]) := g3.st p _ (.inl (.inr (.inr (.inr rfl)))) kp
            have l1 : us1.length < sizeLine := by rw [ra1.len]; exact c2
            -- the change
            refine ⟨_, s2i, p, _, 0, .ref a1, rfl, rfl, .inl (.inl mp), rfl, .inl ⟨rfl, _, .inl (.inl m1)⟩, ?_⟩
            refine ⟨a1, us1, .str y, rfl, rfl, m1, l1, ?_⟩
            have keep : ∀ b o, F1 b ∨ B b → H1 b = some o → upd H3 a1 (.lst (us1 ++ [.str y])) b = some o := fun b o z e => by
              have nb : b ≠ a1 := fun q => by subst q; exact z.elim nF1 nB1
              rw [upd_ne nb]
              have z2 : H2 b = some o := by rw [hH2]; exact stab_new hp0 b _ e
              exact g3.st b o (z.imp (fun q => .inl q) id) z2
            have gF : Gd F1 B H1 F1 (upd H3 a1 (.lst (us1 ++ [.str y]))) := ⟨fun _ z => z, keep, fun _ _ z => z⟩
            have EF : ER X.K F1 B (upd H3 a1 (.lst (us1 ++ [.str y]))) σ2 (keepE pin2 i 0 ρ1) := by
              refine ⟨?_, fun b z => ?_, fun b z => ?_, fun j d hj => ?_, fun j ds hj => ?_, fun j k ds es a hj => ?_⟩
              · rw [keepE_len]
                rw [E3.len, hlen]
              · obtain ⟨o, e⟩ := E1.dom b z
                exact ⟨o, keep b o (.inl z) e⟩
              · obtain ⟨o, e⟩ := E1.domB b z
                exact ⟨o, keep b o (.inr z) e⟩
              · obtain ⟨q1, q2, q3⟩ := keepE_get hj
                rw [Nat.zero_add] at q1 q2
                obtain ⟨u, z1, z2⟩ := E1.sl j d q3
                refine ⟨u, ?_, Rep.gd gF z2⟩
                rw [p3 j q1, List.getElem?_set_ne (fun z => q2 z.symm)]
                exact z1
              · exact absurd (keepE_get hj).2.2 (noMutE_get c1)
              · exact absurd (keepE_get hj).2.2 (noMutE_get c1)
            subst hkk
            exact hs3 F1 B σ2 _ _ D EF (SPost.after (g1.trans gF) (pset.trans fun j hj => p3 j (hp j hj)) h)
        | [], rs => exact rs.elim
        | [_], rs => exact rs.2.elim
        | _ :: _ :: _ :: _, rs => exact rs.2.2.elim
      · exact h.elim
theorem sFresh_eq {pin2 : List Nat} {i : Nat} {fa : AF} {f2 g : SF} {ρ ρ1 : Env} {d1 d2 : List PyData} (h : fa ρ = .ok [.tmp d1, .tmp d2] ρ1) (n : noMutE ρ1 = true) (l : d1.length < sizeLine) (hi : i < ρ1.length) :
    sFresh pin2 i fa f2 g ρ = frK ρ1.length (g (keepE pin2 i 0 ρ1)) (f2 (ρ1.set i (some (.val (.list [.list d1, .list d2]))))) := by
  unfold sFresh
  rw [h]
  show (if noMutE ρ1 = true ∧ d1.length < sizeLine ∧ i < ρ1.length then _ else _) = _
  rw [if_pos ⟨n, l, hi⟩]
end
end Ls
namespace Ls
open PySem PySem.Spec PyProof.Rows L2
def Grow (H H' : Hp) : Prop := ∀ b o, H b = some o → H' b = some o
theorem Grow.refl {H : Hp} : Grow H H := fun _ _ h => h
theorem Grow.trans {H H1 H2 : Hp} (a : Grow H H1) (b : Grow H1 H2) : Grow H H2 := fun x o h => b x o (a x o h)
theorem Grow.new {H : Hp} {p : Addr} {o : HO} (hp : H p = none) : Grow H (upd H p o) := fun b u e => stab_new hp b u e
section
variable {K : PySem.W.Frag} {F B : Addr → Prop} {H H' : Hp} {σ : L2.St} {ρ : Env}
theorem Grow.gd (g : Grow H H') : Gd F B H F H' := ⟨fun _ h => h, fun b o _ e => g b o e, fun _ _ z => z⟩
theorem ER.grow (E : ER K F B H σ ρ) (g : Grow H H') : ER K F B H' σ ρ := by
  refine ⟨E.len, ?_, ?_, ?_, ?_, E.inj⟩
  · intro b h
    obtain ⟨o, e⟩ := E.dom b h
    exact ⟨o, g b o e⟩
  · intro b h
    obtain ⟨o, e⟩ := E.domB b h
    exact ⟨o, g b o e⟩
  · intro i d h
    obtain ⟨u, h1, h2⟩ := E.sl i d h
    exact ⟨u, h1, Rep.gd (B := B) g.gd h2⟩
  · intro i ds h
    obtain ⟨a, vs, h1, h2, h3, h4, h5⟩ := E.mt i ds h
    exact ⟨a, vs, h1, g a _ h2, h3, h4, RepA.gd (B := B) g.gd h5⟩
end
structure FnE (P : Program) (w : World) (K : PySem.W.Frag) (mg : Str → Option Value) (base : Heap) (D f : Addr) (fd : FuncData) (ps : List Str) (b : Bool) : Prop where
  len : ps.length = 1
  run : ∀ (A : Around) (outer : List PySem.Env) (s : Shared) (H : Hp) (args : Args) (us : List Value) (Q : VK) (E : XK) (p : Addr × Obj), A.depth + 3 < recursionLimit → L2H.PinOk outer H s p → Zc (.ref D) none p.2 → (∃ vs, p.2.data = .fields vs) →
    Env0 P w K mg base A outer s H → BindsTo s fd args (ps.zip us) → us = [.ref p.1] → (∀ H', Grow H H' → Q (.bl b) H') → codeAny (model P w) A (.call (.ref f) args) (CR (L2.CX P w) outer P w H s Q E) s
section
variable {P : Program} {w : World} {K : PySem.W.Frag} {mg : Str → Option Value} {base : Heap} {x qual : Str} {st : Stmt} {D f : Addr} {fd : FuncData} {N ps : List Str} {b : Bool}
theorem fn_e (G : Fun K x qual st f fd) (S : FnScope N ps (defScope st)) (len : ps.length = 1)
    (hbody : ∀ (cdv : Value) (A : Around) (outer : List PySem.Env) (s : Shared) (H : Hp) (Q : VK) (E : XK) (p : Addr × Obj), Zc (.ref D) none p.2 → (∃ vs, p.2.data = .fields vs) → (∀ H', Grow H H' → Q (.bl b) H') →
      ∃ t, PSs (L2H.cxH (L2.CX P w) P w K mg base N qual (defScope st) f cdv A outer s H E p) (defBody st) t ∧ t { nx := fun _ H' => Q .non H', rt := Q } (L2.start N [.ref p.1]) H) : FnE P w K mg base D f fd ps b where
  len := len
  run := by
    obtain ⟨oc, od, kV, doc, pm, an, cdv, ct, osl, rfl, lk, hcd⟩ := G.ex
    intro A outer s H args us Q E p room hpin hz hf en hbi hus wish
    have up := fun b o e => (en.bs b o e).1
    have KX := en.mod.kin.keeps up
    have lim := en.mod.nolimit.keeps up
    have kinds : ∀ y ∈ ps.zip us, (defScope st).names.lookup y.1 = some .local ∨ ((defScope st).names.lookup y.1 = some .cell ∧ ((cellsFrom (s.heap.objs.size + 1) (defScope st).names []).lookup y.1).isSome = true) := by
      rintro ⟨n, v⟩ hy
      exact (S.par n (List.of_mem_zip hy).1).imp id fun q => ⟨q, PySem.W.cellsFrom_some _ _ _ (.inl q)⟩
    refine codeAny_call_function (by omega) (KX _ _ lk) rfl S.co S.gen rfl (PySem.W.codeRec_of KX hcd) (hbi _ _ _ _ (wpAny_newFunctionEnv_cells S.kind kinds ?_))
    rintro env rfl s1 x1
    obtain ⟨t, ht, hq⟩ := hbody cdv A outer s H Q E p hz hf wish
    have rel : Vals [V.ref p.1] us := by rw [hus]; exact .cons rfl .nil
    refine ⟨lim.keeps x1.toInCall.keep, codeAny_func (wpAny_mono (ht.run [] s1 (L2.start N [.ref p.1]) H _ (L2H.inv_startH S hpin en (by rw [len]; rfl) rel x1) hq) ?_ fun _ _ z => z)⟩
    intro fl s' z
    match fl, z with
    | .next, ⟨σ', H', J, q⟩ => exact ⟨V.non, H', J.os, J.bare, J.base, J.hok, rfl, q⟩
    | .ret u, ⟨v, σ', H', J, rv, q⟩ => exact ⟨v, H', J.os, J.bare, J.base, J.hok, rv, q⟩
    | .brk, ⟨_, _, _, q⟩ => exact q.elim
    | .cont, ⟨_, _, _, q⟩ => exact q.elim
end
section
variable {X : Cx} {a D : Addr} {oe : Obj}
theorem call_isE1 (hp : (a, oe) ∈ X.pn) (C : ExcC X.K D) (hz : Zc (.ref D) none oe) (hf : ∃ vs, oe.data = .fields vs) : CallR X (.builtin "isinstance") (rIsE X.K D a) := by
  intro pins s σ H xs us Q I r h
  obtain ⟨c, cv, b, rfl, hcv, e, q⟩ := h
  obtain ⟨u1, u2, rfl, r1, r2⟩ := vals2 r
  cases (show u1 = Value.ref a from r1)
  have ec := hcv _ r2
  subst ec
  obtain ⟨hget, _⟩ := I.pin (a, oe) (List.mem_append_left _ hp)
  obtain ⟨vs, hv⟩ := hf
  have J : PySem.W.InstAt s.heap a oe D none := by
    obtain ⟨oc, od, oda, osl⟩ := oe
    obtain ⟨h1, h2⟩ := hz
    dsimp only at h1 h2 hv
    subst h1 h2 hv
    exact ⟨hget, rfl, rfl, trivial⟩
  exact PySem.W.kia_one (PySem.W.handS_kitx_exc C.hg C.hk C.hs C.hd C.ha C.hn C.ht C.hm) I.kIn J e (fun z => nomatch z) fun tk => ⟨.bl b, H, I.tok tk, rfl, q⟩
def rIsET (K : PySem.W.Frag) (D a : Addr) : List V → Hp → VK → Prop := fun xs H Q => ∃ (tp : Addr) (cs : List V) (us : List Value) (b : Bool), xs = [.ref a, .ref tp] ∧ H tp = some (.tup cs) ∧ Paired ClsV cs us ∧ PySem.W.kitAny K (.ref D) us = some b ∧ Q (.bl b) H
theorem call_isET (hp : (a, oe) ∈ X.pn) (C : ExcC X.K D) (hz : Zc (.ref D) none oe) (hf : ∃ vs, oe.data = .fields vs) : CallR X (.builtin "isinstance") (rIsET X.K D a) := by
  intro pins s σ H xs us Q I r h
  obtain ⟨tp, cs, ws, b, rfl, hT, k, e, q⟩ := h
  obtain ⟨u1, u2, rfl, r1, r2⟩ := vals2 r
  cases (show u1 = Value.ref a from r1)
  cases (show u2 = Value.ref tp from r2)
  obtain ⟨hget, _⟩ := I.pin (a, oe) (List.mem_append_left _ hp)
  obtain ⟨vs, hv⟩ := hf
  have J : PySem.W.InstAt s.heap a oe D none := by
    obtain ⟨oc, od, oda, osl⟩ := oe
    obtain ⟨h1, h2⟩ := hz
    dsimp only at h1 h2 hv
    subst h1 h2 hv
    exact ⟨hget, rfl, rfl, trivial⟩
  obtain ⟨_, its, rv, o, h1, h2, n, h3⟩ := (show ObjOk X.prog X.w H s.heap tp (.tup cs) from I.hok tp _ hT)
  have e3 := ClsV.all k rv
  subst e3
  obtain ⟨oc, od, dt, sl⟩ := o
  simp only at h2 h3
  subst h2 h3
  exact PySem.W.kia_tup (PySem.W.handS_kitx_exc C.hg C.hk C.hs C.hd C.ha C.hn C.ht C.hm) I.kIn J h1 e (fun z => nomatch z) fun tk => ⟨.bl b, H, I.tok tk, rfl, q⟩
end
section
variable {X : Cx} {a D f : Addr} {oe : Obj} {pn : List (Addr × Obj)} {fd : FuncData} {ps : List Str} {b : Bool} {i : Nat} {n x : Str} {q p2 pos : Pos}
def tOnly (i : Nat) (a : Addr) (b : Bool) : TE := fun σ H Q => σ[i]? = some (some (.ref a)) ∧ ∀ H', Grow H H' → Q (.bl b) H'
theorem pe_callE (F : FnE X.prog X.w X.K X.mg X.base D f fd ps b) (hd : X.A.depth + 3 < recursionLimit) (hz : Zc (.ref D) none oe) (hf : ∃ vs, oe.data = .fields vs) (hg : Gl X x) (hm : X.mg x = some (.ref f)) (hk : PySem.W.keepIn X.K (.ref f) = true) (hb : Binds X.K fd ps [])
    (hni : X.N[i]? = some n) (hv : Vis X.env.scope n) (hdn : (n == ("__debug__" : Str)) = false := by decide) (hcn : (n == ("__classdict__" : Str)) = false := by decide) (hdb : (x == ("__debug__" : Str)) = false := by decide)
    (he : starEach [.Name n p2] X.env = (false, eval (.Name n p2) X.env) :: starEach [] X.env := by rfl) (hpl : (backTo pos (starEach [] X.env)).any (·.1) = false := by rfl) :
    PE (X.suite a ((a, oe) :: pn)) (.Call (.Name x q) [.Name n p2] [] pos) (tOnly i a b) := by
  have ha : PA (X.suite a ((a, oe) :: pn)) [.Name n p2] (tCons (tVar i) tNil) := pa_cons (pe_var (X := X.suite a ((a, oe) :: pn)) hni hv hdn hcn) pa_nil he
  refine ⟨fun pins s σ H Q I h => ?_⟩
  obtain ⟨hs, hQ⟩ := h
  refine wpAny_Call_Name_kw (ld_glob (X := X.suite a ((a, oe) :: pn)) I hg hm ?_ hdb)
  refine PySem.W.callWith_K (h₀ := X.base) I.ok.mod.kin hk (thn (ha.run pos pins s σ H (fun vs H1 => vs = [.ref a] ∧ H1 = H) I ⟨_, hs, rfl, rfl⟩) ?_) he hpl
  rintro us s1 ⟨vs, H1, I1, r, rfl, rfl⟩
  have hus : us = [.ref a] := by
    cases r with
    | cons r1 rr => cases rr; exact congrArg (fun z => [z]) r1
  refine ⟨I1.kIn, ?_⟩
  have bb := hb s1 us I1.kIn (by rw [List.append_nil, hus, F.len]; rfl)
  rw [List.append_nil] at bb
  have P1 := I1.pin (a, oe) (List.mem_append_left _ List.mem_cons_self)
  have hpin : L2H.PinOk (X.suite a ((a, oe) :: pn)).stack H1 s1 (a, oe) := ⟨P1.1, P1.2.1, fun hm => (List.mem_cons.mp (I1.stkSub a hm)).elim P1.2.2.1 P1.2.2.2.1, P1.2.2.2.2⟩
  refine wpAny_call (codeAny_mono (F.run (X.suite a ((a, oe) :: pn)).A (X.suite a ((a, oe) :: pn)).stack s1 H1 ⟨us, []⟩ us Q (fun _ _ _ => False) (a, oe) hd hpin hz hf I1.env0 bb hus hQ) fun r s' hq => ?_)
  match r, hq with
  | .error e, hq =>
    obtain ⟨_, _, _, _, _, _, _, _, _, _, _, _, hE⟩ := hq
    exact hE.elim
  | .ok (.ret u), hq => exact I1.after hq
  | .ok .next, hq => exact hq.elim
  | .ok .brk, hq => exact hq.elim
  | .ok .cont, hq => exact hq.elim
end
def OutE (sh : Option Str) (b : Bool) (H H' : Hp) (v : V) : Prop := match sh with
  | none => v = .bl b ∧ Grow H H'
  | some w => ∃ H1 p, Grow H H1 ∧ H1 p = none ∧ v = .ref p ∧ H' = upd H1 p (.tup [.str w, .bl b])
def outE (sh : Option Str) (b : Bool) : PyData := match sh with
  | none => .bool b
  | some w => .tuple [.str w, .bool b]
def tOut (i : Nat) (a : Addr) (b : Bool) (sh : Option Str) : TE := fun σ H Q => σ[i]? = some (some (.ref a)) ∧ ∀ H' v, OutE sh b H H' v → Q v H'
section
variable {X : Cx} {e : Expr} {i j : Nat} {a : Addr} {b : Bool} {w : Str} {p1 pos : Pos}
theorem pe_out0 (h : PE X e (tOnly i a b)) : PE X e (tOut i a b none) := ⟨fun pins s σ H Q I ⟨h1, h2⟩ => h.run pins s σ H Q I ⟨h1, fun H' g => h2 H' _ ⟨rfl, g⟩⟩⟩
theorem pe_out1 {k1} (h : PE X e (tOnly i a b)) (hs1 : starEach [.Constant (.str w) j p1, e] X.env = (false, eval (.Constant (.str w) j p1) X.env) :: starEach [e] X.env := by rfl) (hs2 : starEach [e] X.env = (false, eval e X.env) :: starEach [] X.env := by rfl) :
    PE X (.Tuple [.Constant (.str w) j p1, e] k1 pos) (tOut i a b (some w)) := by
  have q := pe_tup (pos := pos) (x1 := k1) (pa_cons (pe_str (x := w) (j := j) (pos := p1)) (pa_cons h pa_nil hs2) hs1)
  exact ⟨fun pins s σ H Q I ⟨h1, h2⟩ => q.run pins s σ H Q I ⟨h1, fun H' g => ⟨by show (2 : Nat) ≤ sizeLine; decide, fun p hp => h2 _ _ ⟨H', p, g, hp, rfl, rfl⟩⟩⟩⟩
end
theorem outE_ok {K : PySem.W.Frag} {F B : Addr → Prop} {H H' : Hp} {σ : L2.St} {ρ : Env} {sh : Option Str} {b : Bool} {v : V} (E : ER K F B H σ ρ) (h : OutE sh b H H' v) : ∃ F', Gd F B H F' H' ∧ ER K F' B H' σ ρ ∧ Rep K F' H' v (outE sh b) := by
  cases sh with
  | none =>
    obtain ⟨rfl, g⟩ := h
    exact ⟨F, g.gd, E.grow g, .bl b⟩
  | some w =>
    obtain ⟨H1, p, g, hp, rfl, rfl⟩ := h
    have E1 := E.grow g
    exact ⟨_, g.gd.trans (E1.newF hp).1, (E1.newF hp).2, E1.tupN hp (.cons (.str w) (.cons (.bl b) .nil))⟩
theorem ER.setX {K : PySem.W.Frag} {F B : Addr → Prop} {H : Hp} {σ : L2.St} {ρ : Env} {i : Nat} {x : Option V} (E : ER K F B H σ ρ) (h : ρ[i]? = some none) : ER K F B H (σ.set i x) ρ := by
  have ne : ∀ {j : Nat} {s : Sl}, ρ[j]? = some (some s) → i ≠ j := fun {j s} hj z => by subst z; rw [h] at hj; cases hj
  refine ⟨by rw [List.length_set]; exact E.len, E.dom, E.domB, fun j d hj => ?_, fun j ds hj => ?_, fun j k ds es b hj hk h1 h2 => ?_⟩
  · rw [List.getElem?_set_ne (ne hj)]; exact E.sl j d hj
  · rw [List.getElem?_set_ne (ne hj)]; exact E.mt j ds hj
  · rw [List.getElem?_set_ne (ne hj)] at h1
    rw [List.getElem?_set_ne (ne hk)] at h2
    exact E.inj j k ds es b hj hk h1 h2
def noneAt (ρ : Env) (i : Nat) : Bool := match ρ[i]? with | some none => true | _ => false
theorem noneAt_eq {ρ : Env} {i : Nat} (h : noneAt ρ i = true) : ρ[i]? = some none := by
  unfold noneAt at h
  split at h
  · assumption
  · cases h
def tryAsK (cs : List Str) (i : Nat) (r : PyData) : SRes → SRes
  | .exc c ρ => if c ∈ cs ∧ noneAt ρ i = true then .ret (.val r) ρ else .stuck
  | x => x
def sTryAs (cs : List Str) (i : Nat) (r : PyData) (fb : SF) : SF := fun ρ => tryAsK cs i r (fb ρ)
section
variable {X : Cx} {C : Cof} {Z : WX} {pin : List Nat} {x n : Str} {cv : Value} {body : List Stmt} {e : Expr} {np rpos pos pos' : Pos} {fb : SF} {cs : List Str} {b : Bool}
theorem s_tryAs (sh : Option Str) (i : Nat) (hN : X.N.Nodup) (hi : X.N[i]? = some n) (hln : X.env.kindOf n = some .local) (hc : Names X x cv) (tk : Takes X Z) (hC : ∀ c ∈ cs, PySem.W.exmOne X.K (C c) cv = some true)
    (hb : ∀ (W : WX) (pn : List (Addr × Obj)) (xe : Value → Shared → Prop), Takes (X.tr pn xe) W → PassesOwn (model X.prog X.w) X.A X.env xe → PSsr (X.tr pn xe) C W pin body fb)
    (hsu : ∀ c ∈ cs, ∀ (a : Addr) (oe : Obj) (pn : List (Addr × Obj)), Zc (C c) none oe → (∃ vs, oe.data = .fields vs) → PE (X.suite a ((a, oe) :: pn)) e (tOut i a b sh)) (hip : i ∉ pin)
    (hs : X.stack = X.env :: X.outer := by rfl) (hf : X.env.frame = some X.env.locals := by rfl) :
    PSr X C Z pin (.Try body [.ExceptHandler (some (.Name x np)) (some n) [.Return (some e) rpos] pos'] [] [] pos) (sTryAs cs i (outE sh b) fb) := by
  refine ⟨_, ps_try_as (tb := fun W D σ H => ∃ F B ρ, ER X.K F B H σ ρ ∧ SPost X C W pin F B H σ D (fb ρ)) (ts := fun a cls d D σ H => ∃ c, c ∈ cs ∧ cls = C c ∧ d = none ∧ σ[i]? = some (some (.ref a)) ∧ ∀ H' v, OutE sh b H H' v → D.rt v H') hs hf hN hi hln hc tk (fun W pn xe tk2 po => ?_) (fun a oe cls d pn hz hfs => ?_), fun F B σ H ρ D E h => ?_⟩
  · obtain ⟨t, ht, hg⟩ := (hb W pn xe tk2 po).ex
    exact ⟨fun pins s σ H D I ⟨F, B, ρ, E, h⟩ => ht.run pins s σ H D I (hg F B σ H ρ D E h)⟩
  · refine ⟨fun pins s σ H D I ⟨c, hc, h1, h2, h3, h4⟩ => ?_⟩
    subst h1 h2
    exact (pss_one (ps_ret (hsu c hc a oe pn hz hfs))).run pins s σ H D I ⟨h3, h4⟩
  · refine ⟨F, B, ρ, E, ?_⟩
    have h : SPost X C Z pin F B H σ D (tryAsK cs i (outE sh b) (fb ρ)) := h
    cases hr : fb ρ with
    | exc c ρ' =>
      rw [hr] at h
      intro σ' F' H' g p E'
      by_cases hcs : c ∈ cs ∧ noneAt ρ' i = true
      · have e1 : tryAsK cs i (outE sh b) (.exc c ρ') = .ret (.val (outE sh b)) ρ' := if_pos hcs
        rw [e1] at h
        refine ⟨true, hC c hcs.1, fun _ a _ => ⟨c, hcs.1, rfl, rfl, List.getElem?_set_self (by rw [E'.len]; exact (List.getElem?_eq_some_iff.mp (noneAt_eq hcs.2)).1), fun H2 v hv => ?_⟩, fun z => nomatch z⟩
        obtain ⟨F2, g2, E2, r2⟩ := outE_ok (E'.setX (i := i) (x := some (.ref a)) (noneAt_eq hcs.2)) hv
        exact h v _ F2 H2 (g.trans g2) (p.trans (PinEq.set hip)) E2 r2
      · have e1 : tryAsK cs i (outE sh b) (.exc c ρ') = .stuck := if_neg hcs
        rw [e1] at h
        exact h.elim
    | _ => rw [hr] at h; exact h
end
section
variable (cs : List Str) (i : Nat) (d : PyData) (fb : SF) (ρ : Env) (r : Sl) (c : Str) (w : Str) (b : Bool)
@[simp] theorem sTryAs_eq : sTryAs cs i d fb ρ = tryAsK cs i d (fb ρ) := by_rfl rfl
@[simp] theorem tryAsK_nx : tryAsK cs i d (.nx ρ) = .nx ρ := by_rfl rfl
@[simp] theorem tryAsK_ret : tryAsK cs i d (.ret r ρ) = .ret r ρ := by_rfl rfl
@[simp] theorem outE_none : outE none b = .bool b := by_rfl rfl
@[simp] theorem outE_some : outE (some w) b = .tuple [.str w, .bool b] := by_rfl rfl
theorem tryAsK_exc (h : c ∈ cs) (h2 : noneAt ρ i = true) : tryAsK cs i d (.exc c ρ) = .ret (.val d) ρ := if_pos ⟨h, h2⟩
end
structure ExE (K : PySem.W.Frag) (mg : Str → Option Value) (x : Str) (no : List Str) : Prop where
  ex : ∃ D, mg x = some (.ref D) ∧ ExcC K D ∧ PySem.W.kitOne K (.ref D) (.type "ValueError") = some true ∧ ∀ y ∈ no, ∃ C, mg y = some (.ref C) ∧ PySem.W.kitOne K (.ref D) (.ref C) = some false
theorem kit_self {K : PySem.W.Frag} {D : Addr} : PySem.W.kitOne K (.ref D) (.ref D) = some true := by
  unfold PySem.W.kitOne
  rw [if_pos (by simp)]
theorem kit_no {K : PySem.W.Frag} {D C : Addr} (ne : D ≠ C) (h2 : PySem.W.isClsIn K C = true) (h3 : PySem.W.typeIn K (.ref C) = some (.type "type")) (h : PySem.W.subIn K (.ref D) (.ref C) = some false) : PySem.W.kitOne K (.ref D) (.ref C) = some false := by
  unfold PySem.W.kitOne
  rw [if_neg (by simp [ne])]
  have h2' : (PySem.W.clsIn K C).isSome = true := h2
  have e2 : ((PySem.W.clsIn K C).isSome && PySem.W.typeIn K (.ref C) == some (.type "type")) = true := by rw [h2', h3]; decide
  show (if ((PySem.W.clsIn K C).isSome && PySem.W.typeIn K (.ref C) == some (.type "type")) = true then PySem.W.subIn K (.ref D) (.ref C) else none) = some false
  rw [if_pos e2]
  exact h
theorem kit_val {K : PySem.W.Frag} {D : Addr} (h : PySem.W.subIn K (.ref D) (.type "ValueError") = some true) : PySem.W.kitOne K (.ref D) (.type "ValueError") = some true := by
  unfold PySem.W.kitOne
  rw [if_neg (by simp)]
  show (if PySem.W.kitMeta "ValueError" = true then PySem.W.subIn K (.ref D) (.type "ValueError") else none) = some true
  rw [if_pos (by decide +kernel)]
  exact h
theorem kitAny_no {K : PySem.W.Frag} {t : Value} : ∀ {cs : List Value}, (∀ c ∈ cs, PySem.W.kitOne K t c = some false) → PySem.W.kitAny K t cs = some false
  | [], _ => rfl
  | c :: cs, h => kitAny_cons (h c (by simp)) (fun _ => kitAny_no fun x hx => h x (by simp [hx])) (fun z => nomatch z)
structure KnE (P : Program) (w : World) (K : PySem.W.Frag) (mg : Str → Option Value) (base : Heap) (x c : Str) (b : Bool) : Prop where
  ex : ∃ (D f : Addr) (fd : FuncData) (ps : List Str), mg c = some (.ref D) ∧ FnE P w K mg base D f fd ps b ∧ mg x = some (.ref f) ∧ PySem.W.keepIn K (.ref f) = true ∧ Binds K fd ps []
section
variable {X : Cx} {a : Addr} {oe : Obj} {pn : List (Addr × Obj)} {b : Bool} {i k : Nat} {n x c : Str} {q p2 pos : Pos}
theorem pe_only (G : KnE X.prog X.w X.K X.mg X.base x c b) (hr : RM k X.A) (hz : Zc (cof X.mg c) none oe) (hf : ∃ vs, oe.data = .fields vs) (hg : Gl X x)
    (hni : X.N[i]? = some n) (hv : Vis X.env.scope n) (hdn : (n == ("__debug__" : Str)) = false := by decide) (hcn : (n == ("__classdict__" : Str)) = false := by decide) (hdb : (x == ("__debug__" : Str)) = false := by decide)
    (he : starEach [.Name n p2] X.env = (false, eval (.Name n p2) X.env) :: starEach [] X.env := by rfl) (hpl : (backTo pos (starEach [] X.env)).any (·.1) = false := by rfl) :
    PE (X.suite a ((a, oe) :: pn)) (.Call (.Name x q) [.Name n p2] [] pos) (tOnly i a b) := by
  obtain ⟨D, f, fd, ps, hD, F, hm, hk, hb⟩ := G.ex
  rw [cof_of hD] at hz
  exact pe_callE F (by have := hr.dp; omega) hz hf hg hm hk hb hni hv hdn hcn hdb he hpl
end
end Ls
namespace Ls
open PySem PySem.Spec PyProof.Rows L2
def mulTOp : PyData → PyData → Option Ans
  | .str x, .int k => if x.length ≤ 16 ∧ 0 ≤ k ∧ k ≤ 1048576 then some (.val (.str (Txt.mul x k))) else none
  | _, _ => none
theorem b_mulT {K : PySem.W.Frag} : BinS K rMulS mulTOp := bin_val fun F H x y d1 d2 a r1 r2 e => by
  unfold mulTOp at e
  split at e
  · split at e
    · rename_i x k h
      cases e
      obtain ⟨h1, h2, h3⟩ := h
      have ok : MulOk x k := mulOk_of 16 1048576 h1 (by omega) (by omega) (by decide) (by decide)
      exact ⟨_, rfl, _, fun F' H' => .str _, fun Q q => ⟨_, _, r1.str, r2.int, ok, q⟩⟩
    · cases e
  · cases e
@[simp] theorem mulTOp_str (x : Str) (k : Int) : mulTOp (.str x) (.int k) = if x.length ≤ 16 ∧ 0 ≤ k ∧ k ≤ 1048576 then some (.val (.str (Txt.mul x k))) else none := by_rfl rfl
end Ls
namespace Ls
open PySem PySem.Spec PyProof.Rows L2
def revS (z : Str) : Str := ⟨((Builtin.Str.strSliceIndices none none (-1) z.length).filterMap (z.cps[·]?)).toArray⟩
def tRevT (te : TE) : TE := fun σ H Q => te σ H fun x H1 => ∃ z, x = .str z ∧ (revS z).length ≤ sizeLine ∧ Q (.str (revS z)) H1
theorem pe_revT {X : Cx} {e : Expr} {te : TE} {k : Nat} {p1 p2 p3 pos : Pos} (he : PE X e te) : PE X (.Subscript e (.Slice none none (some (.UnaryOp .USub (.Constant (.int 1) k p1) p2)) p3) pos) (tRevT te) := by
  refine ⟨fun pins s σ H Q I h => ?_⟩
  refine Subscript_ (thn (he.run pins s σ H _ I h) fun v s1 ⟨x, H1, I1, r1, q1⟩ => ?_)
  obtain ⟨z, ex, hx, q⟩ := q1
  subst ex
  obtain ⟨t, rfl⟩ := r1
  have hst : PO X (some (.UnaryOp .USub (.Constant (.int 1) k p1) p2)) (tPart (tUn (rU fun i => .int (-i)) (tC (.int 1)))) := po_some (pe_un un_neg pe_int)
  refine wpAny_Slice (thn (po_none.run pins s1 σ H1 (fun o H2 => o = none ∧ H2 = H1) I1 ⟨rfl, rfl⟩) fun vl s2 ⟨l, H2, I2, pl, el, e2⟩ => ?_)
  subst el e2
  refine thn (po_none.run pins s2 σ H2 (fun o H3 => o = none ∧ H3 = H2) I2 ⟨rfl, rfl⟩) fun vu s3 ⟨u, H3, I3, pu, eu, e3⟩ => ?_
  subst eu e3
  refine thn (hst.run pins s3 σ H3 (fun o H4 => o = some (-1) ∧ H4 = H3) I3 ⟨1, rfl, -1, rfl, rfl, rfl⟩) fun vs s4 ⟨o, H4, I4, ps, eo, e4⟩ => ?_
  subst eo e4
  have I5 : Inv X pins σ H4 { s4 with heap := s4.heap.push { cls := .type "slice", data := .fields #[vl, vu, vs] } } := I4.kept (t' := s4.toks) fun b ob q => Heap.get?_push_of_some _ q
  show wpAny (model X.prog X.w) X.A (subscriptTail e (.Slice none none (some (.UnaryOp .USub (.Constant (.int 1) k p1) p2)) p3) (.str z t) (.ref s4.heap.objs.size)) (EP X pins σ Q) X.xe { s4 with heap := s4.heap.push { cls := .type "slice", data := .fields #[vl, vu, vs] } }
  refine tail_any (ops := [.str z t, .ref s4.heap.objs.size]) (typeIs_str _ z t) (F.slot_str_getitem.lookup) ?_ (by with_unfolding_all rfl)
  obtain ⟨lp, hl1, hl2⟩ := IsPart.raw pl
  obtain ⟨up, hu1, hu2⟩ := IsPart.raw pu
  obtain ⟨sp, hs1, hs2⟩ := IsPart.raw ps
  subst hl1 hu1 hs1
  have e1 : (lp.map (·.1)) = none := hl2
  have e2 : (up.map (·.1)) = none := hu2
  have e3 : (sp.map (·.1)) = some (-1) := hs2
  refine wpAny_getItem_str_slice (l := lp) (u := up) (st := sp) (Heap.IsSliceOf.new _ _ _ _) (by rw [e3]; rfl) ?_
  unfold sliceMade slicePicked
  rw [e1, e2, e3]
  show Made.post (if (((-1 : Int)) == 1 && _) = true then Made.val (.str z t) else Made.str (revS z)) (EP X pins σ Q) _
  rw [if_neg (by simp)]
  exact ⟨hx, .str _, H4, I5.tok _, ⟨_, rfl⟩, q⟩
def revTFn : PyData → Option Ans
  | .str z => if z.length ≤ 2 then some (.val (.str (revS z))) else none
  | _ => none
theorem revS_len (z : Str) (h : z.length ≤ 2) : (revS z).length ≤ sizeLine := by
  rw [sizeLine_eq]
  show (((Builtin.Str.strSliceIndices none none (-1) z.length).filterMap (z.cps[·]?)).toArray).size ≤ 16777216
  rw [List.size_toArray]
  refine Nat.le_trans (List.length_filterMap_le _ _) ?_
  have : ∀ n : Nat, n ≤ 2 → (Builtin.Str.strSliceIndices none none (-1) n).length ≤ 16777216 := by
    intro n hn
    have : n = 0 ∨ n = 1 ∨ n = 2 := by omega
    rcases this with rfl | rfl | rfl <;> decide
  exact this _ h
theorem r_revT {X : Cx} {C : Cof} {Z : WX} {e : Expr} {f : EF} {k : Nat} {p1 p2 p3 pos : Pos} (he : PEr X C Z e f) : PEr X C Z (.Subscript e (.Slice none none (some (.UnaryOp .USub (.Constant (.int 1) k p1) p2)) p3) pos) (eCall1 revTFn f) := by
  obtain ⟨t, ht, h1⟩ := he.ex
  refine ⟨_, pe_revT ht, fun F B σ H ρ E => ?_⟩
  refine EGo.bind (T := fun x H1 Q => ∃ z, x = .str z ∧ (revS z).length ≤ sizeLine ∧ Q (.str (revS z)) H1) (h1 F B σ H ρ E) (fun Q q => q) fun v w ρ' F' H' _ g1 E' rv => ?_
  cases h1 : rdW ρ' w with
  | none => trivial
  | some d =>
    dsimp only
    have rs := rdW_ok E' rv h1
    cases h2 : revTFn d with
    | none => trivial
    | some an =>
      unfold revTFn at h2
      split at h2
      · split at h2
        · rename_i z hz
          cases h2
          exact fun Q hQ => ⟨z, rs.str, revS_len z hz, hQ _ F' H' Gd.refl E' (.str _)⟩
        · cases h2
      · cases h2
@[simp] theorem revTFn_str (z : Str) : revTFn (.str z) = if z.length ≤ 2 then some (.val (.str (revS z))) else none := by_rfl rfl
end Ls
namespace Ls
open PySem PySem.Spec PyProof.Rows L2
section
variable {K : PySem.W.Frag} {F F' B : Addr → Prop} {H H' : Hp} {σ σ' : L2.St} {ρ ρ' : Env}
theorem Gd.poke {a : Addr} {o : HO} (nF : ¬ F a) (nB : ¬ B a) : Gd F B H F (upd H a o) := ⟨fun _ h => h, fun b u h e => by
  have : b ≠ a := fun z => by subst z; exact h.elim nF nB
  rw [upd_ne this]; exact e, fun _ _ z => z⟩
theorem Rep.poke {a : Addr} {o : HO} {v : V} {d : PyData} (nF : ¬ F a) (r : Rep K F H v d) : Rep K F (upd H a o) v d := Rep.gd (B := fun _ => False) (Gd.poke nF id) r
theorem RepA.poke {a : Addr} {o : HO} {vs : List V} {ds : List PyData} (nF : ¬ F a) (r : RepA K F H vs ds) : RepA K F (upd H a o) vs ds := RepA.gd (B := fun _ => False) (Gd.poke nF id) r
theorem ER.poke {a : Addr} {o : HO} (E : ER K F B H σ ρ) (nF : ¬ F a) (hB : B a) : ER K F B (upd H a o) σ ρ := by
  have ex : ∀ b, (∃ u, H b = some u) → ∃ u, upd H a o b = some u := fun b ⟨u, e⟩ => by
    by_cases q : b = a
    · subst q; exact ⟨_, upd_same⟩
    · exact ⟨u, by rw [upd_ne q]; exact e⟩
  refine ⟨E.len, fun b h => ex b (E.dom b h), fun b h => ex b (E.domB b h), fun i d h => ?_, fun i ds h => ?_, E.inj⟩
  · obtain ⟨u, h1, h2⟩ := E.sl i d h
    exact ⟨u, h1, h2.poke nF⟩
  · obtain ⟨b, vs, h1, h2, h3, h4, h5⟩ := E.mt i ds h
    have : b ≠ a := fun z => by subst z; exact h4 hB
    exact ⟨b, vs, h1, by rw [upd_ne this]; exact h2, h3, h4, h5.poke nF⟩
theorem ER.frz {a : Addr} {vs : List V} (E : ER K F B H σ ρ) (nM : NotMut σ ρ a) (e : H a = some (.lst vs)) : ER K (fun b => F b ∨ b = a) B H σ ρ := by
  have hF : ∀ b, F b → F b ∨ b = a := fun _ h => .inl h
  have st : Stab F H H := fun _ _ _ h => h
  refine ⟨E.len, ?_, E.domB, fun i d h => ?_, fun i ds h => ?_, E.inj⟩
  · rintro b (h | h)
    · exact E.dom b h
    · subst h; exact ⟨_, e⟩
  · obtain ⟨u, h1, h2⟩ := E.sl i d h
    exact ⟨u, h1, Rep.mono hF st _ _ h2⟩
  · obtain ⟨b, ws, h1, h2, h3, h4, h5⟩ := E.mt i ds h
    refine ⟨b, ws, h1, h2, ?_, h4, RepA.mono hF st _ _ h5⟩
    rintro (z | z)
    · exact h3 z
    · subst z; exact nM i ds h h1
theorem ER.apart {a : Addr} {o : HO} (E : ER K F B H σ ρ) (nM : NotMut σ ρ a) (e : H a = some o) : ER K F (fun b => B b ∨ b = a) H σ ρ := by
  refine ⟨E.len, E.dom, ?_, E.sl, fun i ds h => ?_, E.inj⟩
  · rintro b (h | h)
    · exact E.domB b h
    · subst h; exact ⟨_, e⟩
  · obtain ⟨b, ws, h1, h2, h3, h4, h5⟩ := E.mt i ds h
    refine ⟨b, ws, h1, h2, h3, ?_, h5⟩
    rintro (z | z)
    · exact h4 z
    · subst z; exact nM i ds h h1
end
abbrev BB (B : Addr → Prop) (a a0 : Addr) : Addr → Prop := fun b => (B b ∨ b = a) ∨ b = a0
structure FlS (K : PySem.W.Frag) (a a0 : Addr) (d0 : PyData) (us tl : List PyData) (F B : Addr → Prop) (H : Hp) (σ : L2.St) (ρ : Env) : Prop where
  s : σ[1]? = some (some (.ref a))
  ne : a ≠ a0
  ex : ∃ vn vu vt, H a = some (.lst (.ref a0 :: vt)) ∧ H a0 = some (.lst [vn, vu]) ∧ Rep K F H vn d0 ∧ Rep K F H vu (.list us) ∧ RepA K F H vt tl
  fa : ¬ F a
  f0 : ¬ F a0
  ba : ¬ B a
  b0 : ¬ B a0
  E : ER K F (BB B a a0) H σ ρ
  r : noneAt ρ 1 = true
section
variable {K : PySem.W.Frag} {a a0 : Addr} {d0 : PyData} {us tl : List PyData} {F F' B : Addr → Prop} {H H' : Hp} {σ σ' : L2.St} {ρ ρ' : Env}
theorem Gd.lessB (g : Gd F (BB B a a0) H F' H') : Gd F B H F' H' := g.less fun _ h => .inl (.inl h)
theorem FlS.step (S : FlS K a a0 d0 us tl F B H σ ρ) (g : Gd F (BB B a a0) H F' H') (hs : σ'[1]? = σ[1]?) (E : ER K F' (BB B a a0) H' σ' ρ') (r : noneAt ρ' 1 = true) : FlS K a a0 d0 us tl F' B H' σ' ρ' := by
  obtain ⟨vn, vu, vt, h1, h2, h3, h4, h5⟩ := S.ex
  exact ⟨hs.trans S.s, S.ne, ⟨vn, vu, vt, g.st a _ (.inr (.inl (.inr rfl))) h1, g.st a0 _ (.inr (.inr rfl)) h2, Rep.gd g h3, Rep.gd g h4, RepA.gd g h5⟩,
    fun z => S.fa (g.pr a (.inl (.inr rfl)) z), fun z => S.f0 (g.pr a0 (.inr rfl) z), S.ba, S.b0, E, r⟩
end
abbrev QF := List PyData → List PyData → Env → Option (List PyData × List PyData × Env)
section
variable (X : Cx) (pin : List Nat)
def QPost (a a0 : Addr) (d0 : PyData) (D : Ends) (F B : Addr → Prop) (H : Hp) (σ : L2.St) : Option (List PyData × List PyData × Env) → Prop
  | none => False
  | some (us, tl, ρ') => ∀ σ' F' H', Gd F B H F' H' → PinEq pin σ σ' → FlS X.K a a0 d0 us tl F' B H' σ' ρ' → D.nx σ' H'
structure PQ (st : Stmt) (f : QF) : Prop where
  ex : ∃ t, PS X st t ∧ ∀ a a0 d0 us tl F B σ H ρ D, FlS X.K a a0 d0 us tl F B H σ ρ → QPost X pin a a0 d0 D F B H σ (f us tl ρ) → t D σ H
structure PQs (st : List Stmt) (f : QF) : Prop where
  ex : ∃ t, PSs X st t ∧ ∀ a a0 d0 us tl F B σ H ρ D, FlS X.K a a0 d0 us tl F B H σ ρ → QPost X pin a a0 d0 D F B H σ (f us tl ρ) → t D σ H
end
def qSeq (f g : QF) : QF := fun us tl ρ => match f us tl ρ with | some (us', tl', ρ') => g us' tl' ρ' | none => none
section
variable {X : Cx} {C : Cof} {Z : WX} {pin : List Nat} {st : Stmt} {sts : List Stmt} {f g : QF}
theorem QPost.after {a a0 : Addr} {d0 : PyData} {D : Ends} {F B F1 : Addr → Prop} {H H1 : Hp} {σ σ1 : L2.St} {r : Option (List PyData × List PyData × Env)} (g : Gd F B H F1 H1) (p : PinEq pin σ σ1) (h : QPost X pin a a0 d0 D F B H σ r) : QPost X pin a a0 d0 D F1 B H1 σ1 r := by
  cases r with
  | none => exact h
  | some x => exact fun σ' F' H' g' p' S => h σ' F' H' (g.trans g') (p.trans p') S
theorem q_one (h : PQ X pin st f) : PQs X pin [st] f := by
  obtain ⟨t, ht, hs⟩ := h.ex
  exact ⟨_, pss_one ht, hs⟩
theorem q_cons (h1 : PQ X pin st f) (h2 : PQs X pin sts g) : PQs X pin (st :: sts) (qSeq f g) := by
  obtain ⟨t, ht, hs⟩ := h1.ex
  obtain ⟨t2, ht2, hs2⟩ := h2.ex
  refine ⟨_, pss_cons ht ht2, fun a a0 d0 us tl F B σ H ρ D S h => ?_⟩
  show t { D with nx := t2 D } σ H
  refine hs a a0 d0 us tl F B σ H ρ _ S ?_
  unfold qSeq at h
  cases h1 : f us tl ρ with
  | none => rw [h1] at h; exact h
  | some x =>
    obtain ⟨us', tl', ρ'⟩ := x
    rw [h1] at h
    exact fun σ' F' H' g' p' S' => hs2 a a0 d0 us' tl' F' B σ' H' ρ' D S' (QPost.after g' p' h)
def qOwn (fs : SF) : QF := fun us tl ρ => match fs ρ with | .nx ρ' => if noneAt ρ' 1 = true then some (us, tl, ρ') else none | _ => none
theorem q_own {fs : SF} (h : PSr X C Z (1 :: pin) st fs) : PQ X pin st (qOwn fs) := by
  obtain ⟨t, ht, hs⟩ := h.ex
  refine ⟨t, ht, fun a a0 d0 us tl F B σ H ρ D S h => ?_⟩
  refine hs F (BB B a a0) σ H ρ D S.E ?_
  unfold qOwn at h
  cases h1 : fs ρ with
  | nx ρ' =>
    rw [h1] at h
    dsimp only at h
    split at h
    · rename_i hn
      exact fun σ' F' H' g p E => h σ' F' H' g.lessB (fun j hj => p j (by simp [hj])) (S.step g (p 1 (by simp)) E hn)
    · exact h.elim
  | _ => rw [h1] at h; exact h.elim
def qLen (i : Nat) : QF := fun us tl ρ => if i ≠ 1 then some (us, tl, ρ.set i (some (.val (.int (tl.length + 1))))) else none
theorem noneAt_of {ρ : Env} {i : Nat} (h : ρ[i]? = some none) : noneAt ρ i = true := by unfold noneAt; rw [h]
theorem noneAt_set {ρ : Env} {i j : Nat} {x : Option Sl} (h : noneAt ρ j = true) (n : i ≠ j) : noneAt (ρ.set i x) j = true := noneAt_of (by rw [List.getElem?_set_ne n]; exact noneAt_eq h)
theorem q_len (i : Nat) {x y : Str} {p1 p2 p3 p4 pos : Pos} (hN : X.N.Nodup) (hi : X.N[i]? = some y) (hy : Loc X.env.scope y) (h1 : X.N[1]? = some x) (hv : Vis X.env.scope x) (hm : X.mg "len" = none) (hip : i ∉ pin) (hg : Gl X "len" := by rfl)
    (hd : (x == ("__debug__" : Str)) = false := by decide) (hcd : (x == ("__classdict__" : Str)) = false := by decide)
    (he : starEach [.Name x p4] X.env = (false, eval (.Name x p4) X.env) :: starEach [] X.env := by rfl) (hpl : (backTo p2 (starEach [] X.env)).any (·.1) = false := by rfl)
    (hs : swapsWith (.Call (.Name "len" p3) [.Name x p4] [] p2) (some (.Name y p1)) pos.line X.env = pure false := by rfl) (hf : X.fn y = true ∨ X.env.scope.names.lookup y = some .local := by first | exact .inl rfl | exact .inr rfl) :
    PQ X pin (.Assign [.Name y p1] (.Call (.Name "len" p3) [.Name x p4] [] p2) pos) (qLen i) := by
  refine ⟨_, ps_set hN hi hy (pe_callB c_lenA hg hm (by decide +kernel) (pa_cons (pe_var h1 hv hd hcd) pa_nil he) (by decide) (by decide) he hpl) hs hf, fun a a0 d0 us tl F B σ H ρ D S h => ?_⟩
  obtain ⟨vn, vu, vt, e1, e2, e3, e4, e5⟩ := S.ex
  unfold qLen at h
  split at h
  · rename_i ni
    refine ⟨_, S.s, .inl ⟨a, _, rfl, .inl (.inl (.inl e1)), ?_⟩⟩
    have el : ((V.ref a0 :: vt).length : Int) = tl.length + 1 := by rw [List.length_cons, e5.len]; omega
    refine h _ F H Gd.refl (PinEq.set hip) (S.step Gd.refl (by rw [List.getElem?_set_ne ni]) ?_ (noneAt_set S.r ni))
    rw [el]
    exact S.E.setV (.int _)
  · exact h.elim
def qApp (fa : AF) : QF := fun us tl ρ => match fa ρ with
  | .ok ws ρ' => (match vals ws with
    | some [d] => if noneAt ρ' 1 = true ∧ tl.length + 1 < sizeLine then some (us, tl ++ [d], ρ') else none
    | _ => none)
  | _ => none
theorem q_app {fa : AF} {e : Expr} {x : Str} {p1 apos cpos pos : Pos} (ha : PAr X C Z [e] fa) (h1 : X.N[1]? = some x) (hv : Vis X.env.scope x)
    (hd : (x == ("__debug__" : Str)) = false := by decide) (hcd : (x == ("__classdict__" : Str)) = false := by decide)
    (hbase : attributeBase (.Name x p1) "append" X.env (eval (.Name x p1) X.env) = eval (.Name x p1) X.env := by rfl)
    (hfew : ((backTo cpos (starEach [e] X.env)).all (fun x => !x.1) && (backToKw cpos (keywordEach [] X.env)).all (fun x => x.1.isSome)
      && decide (([e] : List Expr).length + ([] : List Keyword).length + (if ([] : List Keyword).isEmpty then 0 else 1) < 30)) = true := by rfl)
    (hline : (apos.endLine == cpos.line) = true := by rfl) (hst : starEach [e] X.env = (false, eval e X.env) :: starEach [] X.env := by rfl) (hplain : (backTo cpos (starEach [] X.env)).any (·.1) = false := by rfl)
    (hse : swapsWith (.Call (.Attribute (.Name x p1) "append" apos) [e] [] cpos) none pos.line X.env = pure false := by rfl) :
    PQ X pin (.Expr (.Call (.Attribute (.Name x p1) "append" apos) [e] [] cpos) pos) (qApp fa) := by
  obtain ⟨ta, hta, hs⟩ := ha.ex
  refine ⟨_, ps_expr (pe_bm PySem.F.plainAttrs_list PySem.F.slot_list_append PySem.F.type_list_append mt_append (pe_var h1 hv hd hcd) hta hbase hfew hline hst hplain) hse, fun a a0 d0 us tl F B σ H ρ D S h => ?_⟩
  obtain ⟨vn, vu, vt, e1, e2, e3, e4, e5⟩ := S.ex
  refine ⟨_, S.s, .inl ⟨rfl, _, .inl (.inl e1)⟩, ?_⟩
  have q := hs F (BB B a a0) σ H ρ S.E
  unfold qApp at h
  cases h2 : fa ρ with
  | stuck => rw [h2] at h; exact h.elim
  | exc c ρ' => rw [h2] at h; exact h.elim
  | ok ws ρ' =>
    rw [h2] at h q
    dsimp only at h
    split at h
    · rename_i d hv2
      split at h
      · rename_i hc
        obtain ⟨c1, c2⟩ := hc
        refine q _ fun vs F1 H1 g1 E1 rs => ?_
        have rv := vals_ok rs hv2
        obtain ⟨w0, rfl, r1⟩ : ∃ w0, vs = [w0] ∧ Rep X.K F1 H1 w0 d := by
          cases rv with
          | cons r1 rn =>
            cases rn
            exact ⟨_, rfl, r1⟩
        have S1 := S.step g1 rfl E1 c1
        obtain ⟨vn, vu, vt, k1, k2, k3, k4, k5⟩ := S1.ex
        refine ⟨a, _, _, rfl, rfl, k1, by rw [List.length_cons, k5.len]; omega, ?_⟩
        have gp : Gd F1 B H1 F1 (upd H1 a (.lst (V.ref a0 :: vt ++ [w0]))) := Gd.poke S1.fa S1.ba
        refine h σ F1 _ (g1.lessB.trans gp) PinEq.refl ⟨S1.s, S1.ne, ⟨vn, vu, vt ++ [w0], by rw [upd_same]; rfl, by rw [upd_ne (fun z => S1.ne z.symm)]; exact k2, k3.poke S1.fa, k4.poke S1.fa, RepA.app (k5.poke S1.fa) (.cons (r1.poke S1.fa) .nil)⟩, S1.fa, S1.f0, S1.ba, S1.b0, S1.E.poke S1.fa (.inl (.inr rfl)), S1.r⟩
      · exact h.elim
    · exact h.elim
end
end Ls
namespace Ls
open PySem PySem.Spec PyProof.Rows L2
def qForL (g : GF) (fb : QF) : List PyData → QF
  | [], us, tl, ρ => some (us, tl, ρ)
  | d :: ds, us, tl, ρ => match g d ρ with
    | none => none
    | some ρa => if noneAt ρa 1 = true then (match fb us tl ρa with | none => none | some (us', tl', ρb) => qForL g fb ds us' tl' ρb) else none
def qFor (fi : IF) (g : GF) (fb : QF) : QF := fun us tl ρ => match fi ρ with | .ok ds ρ1 => if noneAt ρ1 1 = true then qForL g fb ds us tl ρ1 else none | _ => none
section
variable {X : Cx} {C : Cof} {Z : WX} {pin : List Nat} {tg iter : Expr} {body : List Stmt} {fi : IF} {g : GF} {fb : QF} {pos : Pos}
theorem q_for {vs : List Nat} (hp : PassesOwn (model X.prog X.w) X.A X.env X.xe) (hc : X.calm = true) (hi : PIr X C Z tg iter fi) (hg : PGr X vs tg g) (hb : PQs X pin body fb) (hd : ∀ j ∈ pin, j ∉ vs := by decide) (h1v : 1 ∉ vs := by decide)
    (hs : ∀ x, foldedSetIterable iter X.env x = pure x := by intro _; rfl) : PQ X pin (.For tg iter body [] pos) (qFor fi g fb) := by
  obtain ⟨wi, hwi, h1⟩ := hi.ex
  obtain ⟨tg', htg, h2⟩ := hg.ex
  obtain ⟨tb, htb, h3⟩ := hb.ex
  refine ⟨_, ps_for hp hc hwi htg htb hs, fun a a0 d0 us tl F B σ H ρ D S h => ?_⟩
  have q1 := h1 F (BB B a a0) σ H ρ S.E
  unfold qFor at h
  cases q2 : fi ρ with
  | stuck => rw [q2] at h; exact h.elim
  | exc c ρ' => rw [q2] at h; exact h.elim
  | ok ds ρ1 =>
    rw [q2] at h q1
    dsimp only at h
    split at h
    · rename_i n1
      obtain ⟨R, hR⟩ : ∃ R, R = qForL g fb ds us tl ρ1 := ⟨_, rfl⟩
      rw [← hR] at h
      refine q1 _ fun J F1 H1 g1 E1 it => ?_
      have S1 := S.step g1 rfl E1 n1
      refine ⟨fun i m σ2 H2 => m = ds.length - i ∧ i ≤ ds.length ∧ ∃ F2 us2 tl2 ρ2, Gd F1 B H1 F2 H2 ∧ PinEq pin σ σ2 ∧ FlS X.K a a0 d0 us2 tl2 F2 B H2 σ2 ρ2 ∧ qForL g fb (ds.drop i) us2 tl2 ρ2 = R,
        ⟨ds.length, by simp, Nat.zero_le _, F1, us, tl, ρ1, Gd.refl, PinEq.refl, S1, hR.symm⟩, ?_⟩
      rintro i m σ2 H2 ⟨rfl, hil, F2, us2, tl2, ρ2, g2, p2, S2, hl⟩
      have itH := it F2 H2 g2.sub g2.stab
      have h' : QPost X pin a a0 d0 D F2 B H2 σ2 R := QPost.after (g1.lessB.trans g2) p2 h
      rw [← hl] at h'
      by_cases hlt : i < ds.length
      · have hget : ds[i]? = some ds[i] := List.getElem?_eq_getElem hlt
        obtain ⟨hgo, hy⟩ := itH.1 i _ hget
        rw [List.drop_eq_getElem_cons hlt] at hl h'
        unfold qForL at hl h'
        cases q3 : g ds[i] ρ2 with
        | none => rw [q3] at h'; exact h'.elim
        | some ρa =>
          rw [q3] at hl h'
          dsimp only at hl h'
          by_cases na : noneAt ρa 1 = true
          · rw [if_pos na] at hl h'
            refine .inr ⟨hgo, fun σ3 H3 => ∃ F3 us3 tl3 ρ3, Gd F1 B H1 F3 H3 ∧ PinEq pin σ σ3 ∧ FlS X.K a a0 d0 us3 tl3 F3 B H3 σ3 ρ3 ∧ qForL g fb (ds.drop (i + 1)) us3 tl3 ρ3 = R, fun σ3 H3 ⟨F3, us3, tl3, ρ3, z⟩ => ⟨ds.length - (i + 1), by omega, rfl, hlt, F3, us3, tl3, ρ3, z⟩, fun x H3 yy => ?_⟩
            have hyld : ∃ F3, Gd F2 (BB B a a0) H2 F3 H3 ∧ ER X.K F3 (BB B a a0) H3 σ2 ρ2 ∧ Rep X.K F3 H3 x ds[i] := by
              rcases hy x H3 yy with ⟨rfl, rx⟩ | ⟨T, tv, es, hT, rfl, rfl, e, rx⟩
              · exact ⟨F2, Gd.refl, S2.E, rx⟩
              · rw [e]
                exact ⟨_, (S2.E.newF hT).1, (S2.E.newF hT).2, S2.E.tupN hT rx⟩
            obtain ⟨F3, g3, E3, rx⟩ := hyld
            have S3 := S2.step g3 rfl E3 S2.r
            refine h2 F3 (BB B a a0) σ2 H3 ρ2 x _ ρa E3 rx q3 _ fun σa Ea hwa => ?_
            have pa : PinEq pin σ2 σa := pinEq_wipe hwa hd
            have p1 : PinEq [1] σ2 σa := pinEq_wipe hwa (by simpa using h1v)
            have Sa := S3.step Gd.refl (p1 1 (by simp)) Ea na
            refine h3 a a0 d0 us2 tl2 F3 B σa H3 ρa _ Sa ?_
            have h'' := QPost.after g3.lessB pa h'
            cases q4 : fb us2 tl2 ρa with
            | none => rw [q4] at h''; exact h''
            | some y =>
              obtain ⟨us3, tl3, ρb⟩ := y
              rw [q4] at hl
              exact fun σb F4 H4 g4 p4 S4 => ⟨F4, us3, tl3, ρb, g2.trans (g3.lessB.trans g4), p2.trans (pa.trans p4), S4, hl⟩
          · rw [if_neg na] at h'; exact h'.elim
      · have e : i = ds.length := by omega
        subst e
        rw [List.drop_length] at h'
        exact .inl ⟨itH.2, h' σ2 F2 H2 Gd.refl PinEq.refl S2⟩
    · exact h.elim
end
theorem at_0 {α : Type} (x : α) (l : List α) : atI (x :: l) 0 = some x := by simp [atI, ixN]
def qUps (fe : EF) : QF := fun us tl ρ => match fe ρ with
  | .ok w ρ' => (match w with
    | .tmp rs => if noneAt ρ' 1 = true ∧ us.length + rs.length ≤ sizeLine then some (us ++ rs, tl, ρ') else none
    | _ => none)
  | _ => none
section
variable {X : Cx} {C : Cof} {Z : WX} {pin : List Nat}
theorem q_ups {fe : EF} {e3 : Expr} {x : Str} {j1 j2 j3 j4 : Nat} {p1 p2 c1 c2 c3 c4 s1 s2 tpos bpos pos : Pos} (he : PEr X C Z e3 fe) (h1 : X.N[1]? = some x) (hv : Vis X.env.scope x)
    (hd : (x == ("__debug__" : Str)) = false := by decide) (hcd : (x == ("__classdict__" : Str)) = false := by decide)
    (hs : swapsWithSole [.Subscript (.Subscript (.Name x p1) (.Constant (.int 0) j1 c1) s1) (.Constant (.int 1) j2 c2) tpos] (.BinOp (.Subscript (.Subscript (.Name x p2) (.Constant (.int 0) j3 c3) s2) (.Constant (.int 1) j4 c4) bpos) .Add e3 pos) pos.line X.env = pure false := by rfl)
    (hw : swappedStores [.Subscript (.Subscript (.Name x p1) (.Constant (.int 0) j1 c1) s1) (.Constant (.int 1) j2 c2) tpos] (.BinOp (.Subscript (.Subscript (.Name x p2) (.Constant (.int 0) j3 c3) s2) (.Constant (.int 1) j4 c4) bpos) .Add e3 pos) X.env = pure none := by rfl)
    (hg : ∀ (to ti : TE), PE X (.Subscript (.Name x p1) (.Constant (.int 0) j1 c1) s1) to → PE X (.Constant (.int 1) j2 c2) ti → PG X (.Subscript (.Subscript (.Name x p1) (.Constant (.int 0) j1 c1) s1) (.Constant (.int 1) j2 c2) tpos) (gSub to ti rSetL) := by exact fun _ _ h1 h2 => pg_sub h1 h2 set_list)
    {npos : Pos} (hs' : swapsWithSole [.Subscript (.Subscript (.Name x p1) (.Constant (.int 0) j1 c1) s1) (.Constant (.int 1) j2 c2) tpos] (.BinOp (.Subscript (.Subscript (.Name x p2) (.Constant (.int 0) j3 c3) s2) (.Constant (.int 1) j4 c4) bpos) .Add e3 pos) npos.line X.env = pure false := by rfl)
    (ha : (assignEach [.Subscript (.Subscript (.Name x p1) (.Constant (.int 0) j1 c1) s1) (.Constant (.int 1) j2 c2) tpos] X.env).map (·.2) = [assign (.Subscript (.Subscript (.Name x p1) (.Constant (.int 0) j1 c1) s1) (.Constant (.int 1) j2 c2) tpos) X.env] := by rfl) :
    PQ X pin (.Assign [.Subscript (.Subscript (.Name x p1) (.Constant (.int 0) j1 c1) s1) (.Constant (.int 1) j2 c2) tpos] (.BinOp (.Subscript (.Subscript (.Name x p2) (.Constant (.int 0) j3 c3) s2) (.Constant (.int 1) j4 c4) bpos) .Add e3 pos) npos) (qUps fe) := by
  obtain ⟨t3, ht3, h3⟩ := he.ex
  have pv : ∀ {p : Pos}, PE X (.Name x p) (tVar 1) := fun {p} => pe_var h1 hv hd hcd
  refine ⟨_, ps_asg (pe_op op_addA (pe_ix ix_list (pe_ix ix_list pv pe_int (fun _ _ => rfl)) pe_int (fun _ _ => rfl)) ht3) (hg _ _ (pe_ix ix_list pv pe_int (fun _ _ => rfl)) pe_int) hs' hw ha, fun a a0 d0 us tl F B σ H ρ D S h => ?_⟩
  obtain ⟨vn, vu, vt, e1, e2, e3, e4, e5⟩ := S.ex
  refine ⟨_, S.s, a, _, 0, .ref a0, rfl, rfl, .inl (.inl e1), at_0 _ _, a0, _, 1, vu, rfl, rfl, .inl (.inl e2), rfl, ?_⟩
  have q := h3 F (BB B a a0) σ H ρ S.E
  unfold qUps at h
  cases h2 : fe ρ with
  | stuck => rw [h2] at h; exact h.elim
  | exc c ρ' => rw [h2] at h; exact h.elim
  | ok w ρ' =>
    rw [h2] at h q
    dsimp only at h
    split at h
    · rename_i rs
      split at h
      · rename_i hc
        obtain ⟨c1, c2⟩ := hc
        refine q _ fun v3 F3 H3 g3 E3 r3 => ?_
        have rv : RepS X.K F3 H3 v3 (.list rs) := rdW_ok E3 r3 rfl
        have ru : RepS X.K F3 H3 vu (.list us) := .inl (Rep.gd g3 e4)
        refine b_add F3 (BB B a a0) σ H3 ρ' vu v3 (.list us) (.list rs) (.new (us ++ rs)) E3 ru rv (by rw [addOp_lst, if_pos c2]) _ fun v4 F4 H4 g4 E4 r4 => ?_
        obtain ⟨a4, vs4, rfl, k1, nF4, nB4, nM4, ra4⟩ := r4
        have S4 := S.step (g3.trans g4) rfl E4 c1
        obtain ⟨vn, vu, vt, m1, m2, m3, m4, m5⟩ := S4.ex
        refine ⟨_, S4.s, a, _, 0, .ref a0, rfl, rfl, .inl (.inl m1), at_0 _ _, a0, [vn, vu], 1, 1, rfl, rfl, m2, rfl, ?_⟩
        -- the new list is frozen, and put in
        have n40 : a4 ≠ a0 := fun z => nB4 (.inr z)
        have n4a : a4 ≠ a := fun z => nB4 (.inl (.inr z))
        have nB4' : ¬ B a4 := fun z => nB4 (.inl (.inl z))
        have gz : Gd F4 B H4 (fun b => F4 b ∨ b = a4) H4 := Gd.freeze nB4'
        have E5 := E4.frz nM4 k1
        have f5a : ¬ (F4 a ∨ a = a4) := fun z => z.elim S4.fa fun q => n4a q.symm
        have f50 : ¬ (F4 a0 ∨ a0 = a4) := fun z => z.elim S4.f0 fun q => n40 q.symm
        have gp : Gd (fun b => F4 b ∨ b = a4) B H4 (fun b => F4 b ∨ b = a4) (upd H4 a0 (.lst [vn, .ref a4])) := Gd.poke f50 S4.b0
        have r5 : Rep X.K (fun b => F4 b ∨ b = a4) H4 (.ref a4) (.list (us ++ rs)) := .lst (.inr rfl) (.inl k1) (RepA.gd gz ra4)
        refine h σ _ _ ((g3.lessB.trans g4.lessB).trans (gz.trans gp)) PinEq.refl ⟨S4.s, S4.ne, ⟨vn, .ref a4, vt, by rw [upd_ne S4.ne]; exact m1, upd_same, (Rep.gd gz m3).poke f50, r5.poke f50, (RepA.gd gz m5).poke f50⟩, f5a, f50, S4.ba, S4.b0, E5.poke f50 (.inr rfl), c1⟩
      · exact h.elim
    · exact h.elim
end
def sFlat (fa : AF) (fq : QF) : SF := fun ρ => match fa ρ with
  | .ok ws ρ1 => (match vals ws with
    | some [d0, .list us] => if noneAt ρ1 1 = true then (match fq us [] ρ1 with
      | some (us', tl, ρ2) => .ret (.val (.list (.list [d0, .list us'] :: tl))) ρ2
      | none => .stuck) else .stuck
    | _ => .stuck)
  | _ => .stuck
section
variable {X : Cx} {C : Cof} {Z : WX} {pin : List Nat}
theorem s_flat {x : Str} {es : List Expr} {fa : AF} {fq : QF} {st : Stmt} {p1 p2 l1 l2 pos rpos : Pos} (hN : X.N.Nodup) (h1 : X.N[1]? = some x) (hx : Loc X.env.scope x) (hv : Vis X.env.scope x) (ha : PAr X C Z es fa) (hq : PQ X pin st fq) (hip : 1 ∉ pin)
    (hd : (x == ("__debug__" : Str)) = false := by decide) (hcd : (x == ("__classdict__" : Str)) = false := by decide)
    (hs : swapsWith (.List [.List es l1] l2) (some (.Name x p1)) pos.line X.env = pure false := by rfl) (hst : starEach [.List es l1] X.env = (false, eval (.List es l1) X.env) :: starEach [] X.env := by rfl)
    (hf : X.fn x = true ∨ X.env.scope.names.lookup x = some .local := by first | exact .inl rfl | exact .inr rfl) :
    PSsr X C Z pin [.Assign [.Name x p1] (.List [.List es l1] l2) pos, st, .Return (some (.Name x p2)) rpos] (sFlat fa fq) := by
  obtain ⟨ta, hta, hsa⟩ := ha.ex
  obtain ⟨tq, htq, hsq⟩ := hq.ex
  refine ⟨_, pss_cons (ps_set hN h1 hx (pe_lst (pa_cons (pe_lst hta) pa_nil hst)) hs hf) (pss_cons htq (pss_one (ps_ret (pe_var h1 hv hd hcd)))), fun F B σ H ρ D E h => ?_⟩
  have q := hsa F B σ H ρ E
  unfold sFlat at h
  cases h2 : fa ρ with
  | stuck => rw [h2] at h; exact h.elim
  | exc c ρ' => rw [h2] at h; exact h.elim
  | ok ws ρ1 =>
    rw [h2] at h q
    dsimp only at h
    split at h
    · rename_i d0 us hvals
      split at h
      · rename_i n1
        refine q _ fun vs F1 H1 g1 E1 rs => ?_
        obtain ⟨vn, vu, rfl, rn, ru⟩ : ∃ vn vu, vs = [vn, vu] ∧ Rep X.K F1 H1 vn d0 ∧ Rep X.K F1 H1 vu (.list us) := by
          have rv := vals_ok rs hvals
          cases rv with
          | cons r1 rn =>
            cases rn with
            | cons r2 rn =>
              cases rn
              exact ⟨_, _, rfl, r1, r2⟩
        refine ⟨by show (2 : Nat) ≤ sizeLine; decide, fun p0 hp0 => ⟨by show (1 : Nat) ≤ sizeLine; decide, fun p hp => ?_⟩⟩
        obtain ⟨nF0, nB0, nM0⟩ := E1.nofresh hp0
        obtain ⟨gT0, ET0⟩ := E1.newT (o := .lst [vn, vu]) hp0
        obtain ⟨nFp, nBp, nMp⟩ := ET0.nofresh hp
        obtain ⟨gT, ET⟩ := ET0.newT (o := .lst [.ref p0]) hp
        have pne : p ≠ p0 := fun z => by subst z; rw [upd_same] at hp; cases hp
        have lt : 1 < σ.length := by
          have := (List.getElem?_eq_some_iff.mp (noneAt_eq n1)).1
          rw [E1.len]; exact this
        have EA := (ET.apart nMp (show _ = some _ from upd_same)).apart (a := p0) nM0 (show _ = some (HO.lst [vn, vu]) by rw [upd_ne (fun z => pne z.symm)]; exact upd_same)
        have S0 : FlS X.K p p0 d0 us [] F1 B (upd (upd H1 p0 (.lst [vn, vu])) p (.lst [.ref p0])) (σ.set 1 (some (.ref p))) ρ1 :=
          ⟨List.getElem?_set_self lt, pne, ⟨vn, vu, [], upd_same, by rw [upd_ne (fun z => pne z.symm)]; exact upd_same, Rep.gd (gT0.trans gT) rn, Rep.gd (gT0.trans gT) ru, .nil⟩, nFp, nF0, nBp, nB0, EA.setX (noneAt_eq n1), n1⟩
        have gA : Gd F B H F1 _ := g1.trans (gT0.trans gT)
        show tq { D with nx := tRet (tVar 1) D } (σ.set 1 (some (.ref p))) _
        refine hsq p p0 d0 us [] F1 B _ _ ρ1 _ S0 ?_
        cases h3 : fq us [] ρ1 with
        | none => rw [h3] at h; exact h.elim
        | some y =>
          obtain ⟨us', tl, ρ2⟩ := y
          rw [h3] at h
          dsimp only at h
          intro σ' F' H' g' p' S'
          refine ⟨_, S'.s, ?_⟩
          obtain ⟨wn, wu, wt, k1, k2, k3, k4, k5⟩ := S'.ex
          have nm : ∀ b, BB B p p0 b → NotMut σ' ρ2 b := fun b hb i ds hi hs2 => by
            obtain ⟨c, _, z1, _, _, z4, _⟩ := S'.E.mt i ds hi
            rw [hs2] at z1; cases z1
            exact z4 hb
          have E2 := (S'.E.frz (nm p (.inl (.inr rfl))) k1).frz (a := p0) (nm p0 (.inr rfl)) k2
          have gz : Gd F' B H' (fun b => (F' b ∨ b = p) ∨ b = p0) H' := ⟨fun _ h => .inl (.inl h), fun _ _ _ h => h, fun b hb z => by
            rcases z with (z | rfl) | rfl
            · exact z
            · exact absurd hb S'.ba
            · exact absurd hb S'.b0⟩
          have E3 : ER X.K (fun b => (F' b ∨ b = p) ∨ b = p0) B H' σ' ρ2 := E2.less fun b hb => .inl (.inl hb)
          refine h _ σ' _ H' (gA.trans (g'.trans gz)) ((PinEq.set hip).trans p') E3 ?_
          exact .lst (.inl (.inr rfl)) (.inl k1) (.cons (.lst (.inr rfl) (.inl k2) (.cons (Rep.gd gz k3) (.cons (Rep.gd gz k4) .nil))) (RepA.gd gz k5))
      · exact h.elim
    · exact h.elim
end
end Ls
namespace Ls
open PySem PySem.Spec PyProof.Rows L2
section
variable {X : Cx} {C : Cof} {Z : WX} {a b : Expr} {ga : AF} {pos pos2 p p2 : Pos}
theorem r_range2 (hm1 : X.mg "list" = none) (hm2 : X.mg "range" = none) (ha : PAr X C Z [a, b] ga) (hc : X.calm = true := by rfl) (hg1 : Gl X "list" := by rfl) (hg2 : Gl X "range" := by rfl)
    (hs : starEach [a, b] X.env = (false, eval a X.env) :: starEach [b] X.env := by rfl) (hpl : (backTo pos (starEach [b] X.env)).any (·.1) = false := by rfl)
    (na : starEach [.Call (.Name "range" p) [a, b] [] pos] X.env = (false, eval (.Call (.Name "range" p) [a, b] [] pos) X.env) :: starEach [] X.env := by rfl) :
    PEr X C Z (.Call (.Name "list" p2) [.Call (.Name "range" p) [a, b] [] pos] [] pos2) (eRange2 ga) := by
  obtain ⟨t, ht, h1⟩ := ha.ex
  let T : List V → Hp → VK → Prop := fun vs H1 Q => ∃ i j, vs = [.int i, .int j] ∧ rgOk i = true ∧ rgOk j = true ∧ (j - i).toNat ≤ 2 ^ 24 ∧ ∀ q, H1 q = none → Q (.ref q) (upd H1 q (.lst (rgV i j)))
  refine ⟨fun σ H Q => t σ H fun vs H1 => T vs H1 Q, ⟨fun pins s σ H Q I h => ?_⟩, fun F B σ H ρ E => ?_⟩
  · refine Call_ (ld_blt I hg1 hm1 boot_list (PyProof.Rows.callWith_type1 (Calls.spliced_cons ?_) na rfl))
    refine Call_ (ld_blt I hg2 hm2 boot_range (PyProof.Rows.callWith_type1 (thn (ht.run pos pins s σ H _ I h) fun us s1 ⟨vs, H1, I1, r1, q1⟩ => ?_) hs hpl))
    obtain ⟨i, j, e, h1, h2, hz, q⟩ := q1
    subst e
    obtain ⟨h1a, h1b⟩ := rgOk_ok h1
    obtain ⟨h2a, h2b⟩ := rgOk_ok h2
    cases r1 with
    | cons r rr =>
      cases rr with
      | cons r' rr =>
          cases rr
          obtain ⟨t1, rfl⟩ := r
          obtain ⟨t2, rfl⟩ := r'
          refine call_range_2 ?_
          refine Calls.spliced_nil ?_
          have I2 : Inv X pins σ H1 { s1 with heap := s1.heap.push { cls := .type "range", data := .fields #[.int i t1, .int j t2, .int 1 s1.toks] }, toks := s1.toks + 1 } := I1.kept (t' := s1.toks + 1) fun b o' e => Heap.get?_push_of_some _ e
          refine call_list_range (n := (j - i).toNat) (I2.ok.hd hc) (IsRange.new ..) (small_one h1a h1b h2a h2b) (rangeSize_nat i j) hz fun h' tk acc c' hk e' hi => ?_
          refine ⟨.ref _, upd H1 _ (.lst (rgV i j)), I2.laid (o := .lst _) (t' := tk) hk (Nat.le_refl _) ⟨?_, acc.toList, c', vals_rg hi, ?_⟩, rfl, q _ (I2.hok.fresh (Nat.le_refl _))⟩
          · rw [rgV_length, sizeLine_eq]; omega
          · rw [Array.toArray_toList]; exact e'
  · refine EGo.bindA (T := T) (h1 F B σ H ρ E) (fun Q q => q) fun vs ws ρ' F' H' _ g1 E' ra => ?_
    split
    · rename_i i j _
      split
      · rename_i hk
        obtain ⟨hi, hj, hz⟩ := hk
        have rv := vals_ok ra (ds := [.int i, .int j]) rfl
        cases rv with
        | cons r1 rv => cases rv with
          | cons r2 rv =>
              cases rv; cases r1; cases r2
              exact fun Q hQ => ⟨i, j, rfl, hi, hj, hz, fun q hq => hQ _ _ _ (E'.newT hq).1 (E'.newT hq).2 (E'.tmp hq repA_ints)⟩
      · trivial
    · trivial
end
def rg2L : List W → Env → Res W := fun ws ρ1 => match ws with
  | [.val (.int i), .val (.int j)] => if rgOk i = true ∧ rgOk j = true ∧ (j - i).toNat ≤ 2 ^ 24 then .ok (.tmp (rangeL i j)) ρ1 else .stuck
  | _ => .stuck
@[simp] theorem eRange2_eq {a : AF} {ρ : Env} : eRange2 a ρ = (a ρ).bind rg2L := by_rfl rfl
@[simp] theorem rg2L_eq {ρ : Env} (k l : Int) : rg2L [.val (.int k), .val (.int l)] ρ = if rgOk k = true ∧ rgOk l = true ∧ (l - k).toNat ≤ 2 ^ 24 then .ok (.tmp (rangeL k l)) ρ else .stuck := by_rfl rfl
end Ls
namespace Ls
open PySem PySem.Spec PyProof.Rows L2
def relabelS (sc out : Scope) : Scope := { sc with names := sc.names.map fun (n, k) => if (k == .free && out.kind == .function && out.names.lookup n == some .cell) then (n, .cell) else (n, k) }
theorem blkOk_in {N : List Str} {env : PySem.Env} {sc scope : Scope} {own : List (Str × Nat)} (h : blkC N (relabelS sc env.scope) scope own = true) : BlkOk N (PySem.relabel sc env) scope own := blkOk_by h
end Ls
namespace Ls
open PySem PySem.Spec PyProof.Rows L2
section
variable {X : Cx} {pins : List (Addr × Obj)} {s : Shared} {σ : L2.St} {H : Hp}
theorem inv_thaw {H2 : Hp} (I : Inv X pins σ H s) (h : ∀ b, H2 b = H b ∨ ∃ o u, H b = some (.frz o u) ∧ H2 b = some u ∧ ∀ o' u', X.H_0 b ≠ some (.frz o' u')) : Inv X pins σ H2 s := by
  have same : ∀ b o, H b = some o → (∀ o' u', o ≠ .frz o' u') → H2 b = some o := fun b o e hne => by
    rcases h b with q | ⟨o', u, q, _⟩
    · rw [q]; exact e
    · rw [e] at q; cases q; exact absurd rfl (hne _ _)
  have none' : ∀ b, H b = none → H2 b = none := fun b e => by
    rcases h b with q | ⟨o', u, q, _⟩
    · rw [q]; exact e
    · rw [e] at q; cases q
  refine ⟨I.ok, I.os, I.bare, ⟨I.base.keep, I.base.slot, fun b o e n hx => none' b (I.base.free b o e n hx), I.base.there, fun b xs e => same b _ (I.base.tups b xs e) (fun _ _ z => nomatch z), fun b o x e => ?_, fun b ps e => ?_⟩, I.loc, I.cell, none' _ I.free, fun x c e => none' _ (I.freeC x c e), fun p hp => ?_, fun b o e => ?_, I.len⟩
  · rcases h b with q | ⟨o', u, q, _, n⟩
    · rw [q]; exact I.base.frzs b o x e
    · exact absurd e (n _ _)
  · obtain ⟨m, q⟩ := I.base.tbls b ps e
    exact ⟨m, same b _ q (fun _ _ z => nomatch z)⟩
  · obtain ⟨e, n, r⟩ := I.pin p hp
    exact ⟨e, none' _ n, r⟩
  · have stay : ∀ {u}, ObjOk X.prog X.w H s.heap b u → ObjOk X.prog X.w H2 s.heap b u := fun x => x.stay (fun c v _ q => q) (fun c q => same c _ q (fun _ _ z => nomatch z)) fun c xs q => same c _ q (fun _ _ z => nomatch z)
    rcases h b with q | ⟨o', u, q, q2, _⟩
    · rw [q] at e; exact stay (I.hok b o e)
    · rw [q2] at e; cases e
      exact stay (I.hok b _ q).2
end
def thawH (H H' : Hp) : Hp := fun b => match H b, H' b with
  | none, some (.frz _ u) => some u
  | _, x => x
theorem thaw_old {H H' : Hp} {b : Addr} {o : HO} (h : H b = some o) : thawH H H' b = H' b := by unfold thawH; rw [h]
theorem thaw_same {H H' : Hp} {b : Addr} {u : HO} (h : H' b = some u) (n : ∀ o v, u ≠ .frz o v) : thawH H H' b = some u := by
  unfold thawH
  rw [h]
  cases H b with
  | none => cases u with
    | frz o v => exact absurd rfl (n o v)
    | _ => rfl
  | some o => rfl
theorem thaw_new {H H' : Hp} {b : Addr} {o : Obj} {u : HO} (h : H b = none) (h' : H' b = some (.frz o u)) : thawH H H' b = some u := by
  unfold thawH; rw [h, h']
theorem thaw_some {H H' : Hp} {b : Addr} (h : ∃ o, H' b = some o) : ∃ o, thawH H H' b = some o := by
  obtain ⟨o, h⟩ := h
  cases e : H b with
  | some v => exact ⟨o, by rw [thaw_old e, h]⟩
  | none => cases o with
    | frz o u => exact ⟨u, thaw_new e h⟩
    | _ => exact ⟨_, thaw_same h (fun _ _ z => nomatch z)⟩
theorem ps_new {X : Cx} {st : Stmt} {t : TS} (h : PS X st t) : PS X st (fun D σ H => t ⟨fun σ' H' => D.nx σ' (thawH H H'), fun v H' => D.rt v (thawH H H'), fun σ' H' => D.bk σ' (thawH H H'), fun σ' H' => D.ct σ' (thawH H H')⟩ σ H) := by
  refine ⟨fun pins s σ H D I hw => ?_⟩
  have z : ∀ H' b, thawH H H' b = H' b ∨ ∃ o u, H' b = some (.frz o u) ∧ thawH H H' b = some u ∧ ∀ o' u', X.H_0 b ≠ some (.frz o' u') := fun H' b => by
    cases e : H b with
    | some v => exact .inl (thaw_old e)
    | none =>
      cases e' : H' b with
      | none => left; unfold thawH; rw [e, e']
      | some u => cases u with
        | frz o u => exact .inr ⟨o, u, rfl, thaw_new e e', fun o' u' q => by rw [I.base.frzs b o' u' q] at e; cases e⟩
        | _ => left; exact thaw_same e' (fun _ _ z => nomatch z)
  refine thn (h.run pins s σ _ _ I hw) fun f s1 q => ?_
  cases f with
  | next => obtain ⟨σ', H', I2, q⟩ := q; exact ⟨σ', _, inv_thaw I2 (z H'), q⟩
  | brk => obtain ⟨σ', H', I2, q⟩ := q; exact ⟨σ', _, inv_thaw I2 (z H'), q⟩
  | cont => obtain ⟨σ', H', I2, q⟩ := q; exact ⟨σ', _, inv_thaw I2 (z H'), q⟩
  | ret v => obtain ⟨x, σ', H', I2, r, q⟩ := q; exact ⟨x, σ', _, inv_thaw I2 (z H'), r, q⟩
mutual
def bareD : PyData → Bool
  | .list _ => false
  | .dict _ => false
  | .tuple ds => bareDs ds
  | _ => true
def bareDs : List PyData → Bool
  | [] => true
  | d :: ds => bareD d && bareDs ds
end
def tupF (F : Addr → Prop) (H : Hp) : Addr → Prop := fun b => F b ∧ ∃ xs, Rd H b (.tup xs)
section
variable {K : PySem.W.Frag} {F F' G B : Addr → Prop} {H H' H2 : Hp} {σ σ' : L2.St} {ρ ρ' : Env}
mutual
theorem Rep.small : ∀ (d : PyData) (v : V), bareD d = true → Rep K F H v d → Rep K (tupF F H) H v d
  | .none, _, _, h => by cases h; exact .non
  | .bool b, _, _, h => by cases h; exact .bl b
  | .int i, _, _, h => by cases h; exact .int i
  | .str x, _, _, h => by cases h; exact .str x
  | .list ds, _, n, _ => by simp [bareD] at n
  | .tuple ds, _, n, h => by
    cases h with
    | tup f r ra =>
      refine .tup ?_ r (RepA.small ds _ (by simpa [bareD] using n) ra)
      rcases r with r | r
      · exact f.imp (fun f => ⟨f, _, r⟩) id
      · exact .inr fun H' => .inr r
  | .dict _, _, n, _ => by simp [bareD] at n
theorem RepA.small : ∀ (ds : List PyData) (vs : List V), bareDs ds = true → RepA K F H vs ds → RepA K (tupF F H) H vs ds
  | [], _, _, h => by cases h; exact .nil
  | d :: ds, _, n, h => by
    simp only [bareDs, Bool.and_eq_true] at n
    cases h with
    | cons h1 h2 => exact .cons (Rep.small d _ n.1 h1) (RepA.small ds _ n.2 h2)
end
structure RdSub (F : Addr → Prop) (H H' : Hp) : Prop where
  rd : ∀ b u, F b → (∀ o v, u ≠ .frz o v) → Rd H b u → Rd H' b u
  eq : ∀ b u, F b → (∀ o v, u ≠ .frz o v) → H b = some u → H' b = some u
mutual
theorem Rep.rd (hF : ∀ b, F b → F' b) (s : RdSub F H H') : ∀ (d : PyData) (v : V), Rep K F H v d → Rep K F' H' v d
  | .none, _, h => by cases h; exact .non
  | .bool b, _, h => by cases h; exact .bl b
  | .int i, _, h => by cases h; exact .int i
  | .str x, _, h => by cases h; exact .str x
  | .list ds, _, h => by
    cases h with
    | lst f r ra => exact .lst (hF _ f) (s.rd _ _ f (fun _ _ z => nomatch z) r) (RepA.rd hF s ds _ ra)
  | .tuple ds, _, h => by
    cases h with
    | tup f r ra =>
      refine .tup (f.imp (hF _) id) ?_ (RepA.rd hF s ds _ ra)
      rcases f with f | f
      · exact r.imp (s.rd _ _ f (fun _ _ z => nomatch z)) id
      · exact f _
  | .dict _, _, h => by
    cases h with
    | scr f r =>
      refine .scr (f.imp (hF _) id) ?_
      rcases f with f | f
      · exact r.imp (s.rd _ _ f (fun _ _ z => nomatch z)) id
      · exact f _
    | dct f r => exact .dct (hF _ f) (s.eq _ _ f (fun _ _ z => nomatch z) r)
theorem RepA.rd (hF : ∀ b, F b → F' b) (s : RdSub F H H') : ∀ (ds : List PyData) (vs : List V), RepA K F H vs ds → RepA K F' H' vs ds
  | [], _, h => by cases h; exact .nil
  | d :: ds, _, h => by
    cases h with
    | cons h1 h2 => exact .cons (Rep.rd hF s d _ h1) (RepA.rd hF s ds _ h2)
end
theorem thaw_rd : RdSub F H' (thawH H H') := ⟨fun b u _ n r => by
  rcases r with r | ⟨o, r⟩
  · exact .inl (thaw_same r n)
  · cases e : H b with
    | none => exact .inl (thaw_new e r)
    | some v => exact .inr ⟨o, by rw [thaw_old e, r]⟩, fun b u _ n r => thaw_same r n⟩
theorem RdSub.less {F G : Addr → Prop} {H H' : Hp} (h : RdSub F H H') (l : ∀ b, G b → F b) : RdSub G H H' := ⟨fun b u g => h.rd b u (l b g), fun b u g => h.eq b u (l b g)⟩
def smallB (u : List Nat) (ρ : Env) : Bool := u.all fun j => match ρ[j]? with
  | some (some (.val d)) => bareD d
  | some (some (.mut ds)) => bareDs ds
  | _ => true
theorem small_val {u : List Nat} {j : Nat} {d : PyData} (h : smallB u ρ = true) (hj : j ∈ u) (e : ρ[j]? = some (some (.val d))) : bareD d = true := by
  have := List.all_eq_true.mp h j hj
  rw [e] at this
  exact this
theorem small_mut {u : List Nat} {j : Nat} {ds : List PyData} (h : smallB u ρ = true) (hj : j ∈ u) (e : ρ[j]? = some (some (.mut ds))) : bareDs ds = true := by
  have := List.all_eq_true.mp h j hj
  rw [e] at this
  exact this
theorem keepE_put {pin : List Nat} {i : Nat} : ∀ {k j : Nat} {ρ : Env} {s : Sl}, ρ[j]? = some (some s) → k + j ∈ pin → k + j ≠ i → (keepE pin i k ρ)[j]? = some (some s)
  | _, _, [], _, h, _, _ => by simp at h
  | k, 0, x :: ρ, s, h, h1, h2 => by
    simp at h
    subst h
    simp only [keepE, List.getElem?_cons_zero, Option.some.injEq]
    rw [if_pos]
    simp only [Nat.add_zero] at h1 h2
    simp [h1, h2]
  | k, j + 1, x :: ρ, s, h, h1, h2 => by
    simp only [keepE, List.getElem?_cons_succ]
    exact keepE_put (by simpa using h) (by rw [show k + 1 + j = k + (j + 1) by omega]; exact h1) (by rw [show k + 1 + j = k + (j + 1) by omega]; exact h2)
def mutA (u : List Nat) (i : Nat) (σ : L2.St) (ρ : Env) (b : Addr) : Prop := ∃ j ds, j ∈ u ∧ j ≠ i ∧ ρ[j]? = some (some (.mut ds)) ∧ σ[j]? = some (some (.ref b))
def apartB (F : Addr → Prop) (H : Hp) (u : List Nat) (i : Nat) (σ : L2.St) (ρ : Env) (b : Addr) : Prop := (∃ o, H b = some o) ∧ ¬ tupF F H b ∧ ¬ mutA u i σ ρ b
theorem mutA.at {u : List Nat} {i : Nat} {b : Addr} (E : ER K F B H σ ρ) (h : mutA u i σ ρ b) : (∃ vs, H b = some (.lst vs)) ∧ ¬ F b ∧ ¬ B b := by
  obtain ⟨j, ds, hj, ji, e, e2⟩ := h
  obtain ⟨a, vs, h1, h2, h3, h4, h5⟩ := E.mt j ds e
  rw [e2] at h1
  cases h1
  exact ⟨⟨vs, h2⟩, h3, h4⟩
theorem ER.small {u : List Nat} {i : Nat} (E : ER K F B H σ ρ) (hs : smallB u ρ = true) : ER K (tupF F H) (apartB F H u i σ ρ) H σ (keepE u i 0 ρ) := by
  refine ⟨by rw [keepE_len]; exact E.len, fun b h => E.dom b h.1, fun b h => h.1, fun j d hj => ?_, fun j ds hj => ?_, fun j k ds es a hj hk => ?_⟩
  · obtain ⟨q1, q2, q3⟩ := keepE_get hj
    rw [Nat.zero_add] at q1 q2
    obtain ⟨v, h1, h2⟩ := E.sl j d q3
    exact ⟨v, h1, Rep.small d v (small_val hs q1 q3) h2⟩
  · obtain ⟨q1, q2, q3⟩ := keepE_get hj
    rw [Nat.zero_add] at q1 q2
    obtain ⟨a, vs, h1, h2, h3, h4, h5⟩ := E.mt j ds q3
    exact ⟨a, vs, h1, h2, fun z => h3 z.1, fun z => z.2.2 ⟨j, ds, q1, q2, q3, h1⟩, RepA.small ds vs (small_mut hs q1 q3) h5⟩
  · exact E.inj j k ds es a (keepE_get hj).2.2 (keepE_get hk).2.2
structure NewC (K : PySem.W.Frag) (F B : Addr → Prop) (H : Hp) (σ : L2.St) (ρ : Env) (u : List Nat) (i : Nat) (F' : Addr → Prop) (H' : Hp) : Prop where
  old : ∀ b o, (F b ∨ B b) → H b = some o → thawH H H' b = some o
  E : ER K (fun b => F b ∨ F' b) B (thawH H H') σ ρ
  nB : ∀ b, B b → F' b → F b
  lst : ∀ b xs, F' b → Rd H' b (.lst xs) → H b = none ∧ thawH H H' b = some (.lst xs)
theorem new_core {u : List Nat} {i : Nat} (E : ER K F B H σ ρ) (hs : smallB u ρ = true) (hi : i ∉ u) (g : Gd (tupF F H) (apartB F H u i σ ρ) H F' H') (E' : ER K F' (apartB F H u i σ ρ) H' σ (keepE u i 0 ρ)) : NewC K F B H σ ρ u i F' H' := by
  have part : ∀ b, (∃ o, H b = some o) → tupF F H b ∨ apartB F H u i σ ρ b ∨ mutA u i σ ρ b := fun b hd => by
    by_cases q1 : tupF F H b
    · exact .inl q1
    · by_cases q2 : mutA u i σ ρ b
      · exact .inr (.inr q2)
      · exact .inr (.inl ⟨hd, q1, q2⟩)
  have keep : ∀ b o, (F b ∨ B b) → H b = some o → H' b = some o := fun b o h e => by
    rcases part b ⟨o, e⟩ with q | q | q
    · exact g.st b o (.inl q) e
    · exact g.st b o (.inr q) e
    · obtain ⟨_, nF, nB⟩ := q.at E
      exact h.elim (fun z => absurd z nF) (fun z => absurd z nB)
  have old : ∀ b o, (F b ∨ B b) → H b = some o → thawH H H' b = some o := fun b o h e => by rw [thaw_old e]; exact keep b o h e
  have nF' : ∀ b, (∃ o, H b = some o) → F' b → tupF F H b := fun b hd h => by
    rcases part b hd with q | q | q
    · exact q
    · exact g.pr b q h
    · obtain ⟨j, ds, hj, ji, e, e2⟩ := q
      obtain ⟨a, vs, h1, h2, h3, h4, h5⟩ := E'.mt j ds (keepE_put (k := 0) e (by rw [Nat.zero_add]; exact hj) (by rw [Nat.zero_add]; exact ji))
      rw [e2] at h1; cases h1
      exact absurd h h3
  have st : Stab F H (thawH H H') := fun b o h e => old b o (.inl h) e
  refine ⟨old, ⟨E.len, fun b h => ?_, fun b h => ?_, fun j d hj => ?_, fun j ds hj => ?_, E.inj⟩, fun b hb h => (nF' b (E.domB b hb) h).1, fun b xs h r => ?_⟩
  · rcases h with h | h
    · obtain ⟨o, e⟩ := E.dom b h
      exact ⟨o, old b o (.inl h) e⟩
    · exact thaw_some (E'.dom b h)
  · obtain ⟨o, e⟩ := E.domB b h
    exact ⟨o, old b o (.inr h) e⟩
  · obtain ⟨v, h1, h2⟩ := E.sl j d hj
    exact ⟨v, h1, Rep.mono (fun _ h => .inl h) st d v h2⟩
  · obtain ⟨a, vs, h1, h2, h3, h4, h5⟩ := E.mt j ds hj
    have nF2 : ¬ F' a := fun z => h3 (nF' a ⟨_, h2⟩ z).1
    by_cases ju : j ∈ u
    · obtain ⟨a', vs', k1, k2, k3, k4, k5⟩ := E'.mt j ds (keepE_put (k := 0) hj (by rw [Nat.zero_add]; exact ju) (by rw [Nat.zero_add]; exact fun z => hi (z ▸ ju)))
      rw [h1] at k1; cases k1
      exact ⟨a, vs', h1, by rw [thaw_old h2]; exact k2, fun z => z.elim h3 nF2, h4, RepA.rd (fun _ h => .inr h) thaw_rd ds vs' k5⟩
    · have q : apartB F H u i σ ρ a := ⟨⟨_, h2⟩, fun z => h3 z.1, fun ⟨k, es, hk, ki, e, e2⟩ => ju (E.inj j k ds es a hj e h1 e2 ▸ hk)⟩
      exact ⟨a, vs, h1, by rw [thaw_old h2]; exact g.st a _ (.inr q) h2, fun z => z.elim h3 nF2, h4, RepA.mono (fun _ h => .inl h) st ds vs h5⟩
  · have hn : H b = none := by
      cases e : H b with
      | none => rfl
      | some o =>
        obtain ⟨_, ys, ry⟩ := nF' b ⟨o, e⟩ h
        have : Rd H' b (.tup ys) := by
          have tf := nF' b ⟨o, e⟩ h
          rcases ry with ry | ⟨ob, ry⟩
          · exact .inl (g.st b _ (.inl tf) ry)
          · exact .inr ⟨ob, g.st b _ (.inl tf) ry⟩
        rcases r with r | ⟨o1, r⟩ <;> rcases this with q | ⟨o2, q⟩ <;> rw [r] at q <;> cases q
    refine ⟨hn, ?_⟩
    rcases r with r | ⟨o, r⟩
    · exact thaw_same r (fun _ _ z => nomatch z)
    · exact thaw_new hn r
end
end Ls
namespace Ls
open PySem PySem.Spec PyProof.Rows L2
section
variable (X : Cx) (C : Cof) (Z : WX) (pin : List Nat)
structure PSm (pre : List Stmt → List Stmt) (f : SF) : Prop where
  ex : ∃ T : TS → TS, (∀ tail u, PSs X tail u → PSs X (pre tail) (T u)) ∧ ∀ F B σ H ρ D (u : TS), ER X.K F B H σ ρ → SPost X C Z pin F B H σ { D with nx := u D } (f ρ) → T u D σ H
end
section
variable {X : Cx} {C : Cof} {Z : WX} {pin : List Nat}
theorem m_one {st : Stmt} {f : SF} (h : PSr X C Z pin st f) : PSm X C Z pin (fun tl => st :: tl) f := by
  obtain ⟨t, ht, hs⟩ := h.ex
  exact ⟨fun u => tSeq t u, fun tail u hu => pss_cons ht hu, fun F B σ H ρ D u E h => hs F B σ H ρ _ E h⟩
theorem m_cons {st : Stmt} {f g : SF} {pre : List Stmt → List Stmt} (h1 : PSr X C Z pin st f) (h2 : PSm X C Z pin pre g) : PSm X C Z pin (fun tl => st :: pre tl) (sSeq f g) := by
  obtain ⟨t, ht, hs⟩ := h1.ex
  obtain ⟨T, hT, hs2⟩ := h2.ex
  refine ⟨fun u => tSeq t (T u), fun tail u hu => pss_cons ht (hT tail u hu), fun F B σ H ρ D u E h => ?_⟩
  show t { D with nx := T u D } σ H
  refine hs F B σ H ρ _ E ?_
  unfold sSeq at h
  cases h1 : f ρ with
  | stuck => rw [h1] at h; exact h
  | exc c ρ' => rw [h1] at h; exact h
  | nx ρ' => rw [h1] at h; exact fun σ' F' H' g' p' E' => hs2 F' B σ' H' ρ' D u E' (SPost.after g' p' h)
  | ret r ρ' => rw [h1] at h; exact h
  | brk ρ' => rw [h1] at h; exact h
  | cnt ρ' => rw [h1] at h; exact h
end
def rowsB (n : Nat) : List PyData → Bool
  | [] => true
  | .tuple (.list hs :: _) :: ds => decide (hs.length + n < sizeLine) && rowsB n ds
  | _ => false
def endE (keep : List Nat) (i r : Nat) : Nat → Env → Env → Env
  | k, s :: ρ, s2 :: ρ2 => (if k == r then none else match s2 with
      | some (.mut ds) => if bareDs ds = true then some (.mut ds) else none
      | some (.val d) => if bareD d = true then some (.val d) else if keep.contains k && !(k == i) then (match s with | some (.val e) => some (.val e) | _ => none) else none
      | none => none) :: endE keep i r (k + 1) ρ ρ2
  | _, _, _ => []
theorem endE_len {keep : List Nat} {i r : Nat} : ∀ {k : Nat} {ρ ρ2 : Env}, ρ2.length = ρ.length → (endE keep i r k ρ ρ2).length = ρ.length
  | _, [], [], _ => rfl
  | _, _ :: _, [], h => by simp at h
  | _, [], _ :: _, h => by simp at h
  | k, s :: ρ, s2 :: ρ2, h => congrArg (· + 1) (endE_len (by simpa using h))
theorem endE_mut {keep : List Nat} {i r : Nat} {ds : List PyData} : ∀ {k j : Nat} {ρ ρ2 : Env}, (endE keep i r k ρ ρ2)[j]? = some (some (.mut ds)) → k + j ≠ r ∧ bareDs ds = true ∧ ρ2[j]? = some (some (.mut ds))
  | _, _, [], _, h => by simp [endE] at h
  | _, _, _ :: _, [], h => by simp [endE] at h
  | k, 0, s :: ρ, s2 :: ρ2, h => by
    simp only [endE, List.getElem?_cons_zero, Option.some.injEq] at h
    split at h
    · cases h
    · rename_i hk
      split at h
      · split at h
        · rename_i hb
          cases h
          exact ⟨by simpa using hk, hb, rfl⟩
        · cases h
      · split at h
        · cases h
        · split at h
          · split at h <;> cases h
          · cases h
      · cases h
  | k, j + 1, s :: ρ, s2 :: ρ2, h => by
    simp only [endE, List.getElem?_cons_succ] at h
    obtain ⟨a, b, c⟩ := endE_mut h
    rw [show k + 1 + j = k + (j + 1) by omega] at a
    exact ⟨a, b, by simpa using c⟩
theorem endE_val {keep : List Nat} {i r : Nat} {d : PyData} : ∀ {k j : Nat} {ρ ρ2 : Env}, (endE keep i r k ρ ρ2)[j]? = some (some (.val d)) → k + j ≠ r ∧ ((bareD d = true ∧ ρ2[j]? = some (some (.val d))) ∨ (k + j ∈ keep ∧ k + j ≠ i ∧ ρ[j]? = some (some (.val d))))
  | _, _, [], _, h => by simp [endE] at h
  | _, _, _ :: _, [], h => by simp [endE] at h
  | k, 0, s :: ρ, s2 :: ρ2, h => by
    simp only [endE, List.getElem?_cons_zero, Option.some.injEq] at h
    split at h
    · cases h
    · rename_i hk
      split at h
      · split at h <;> cases h
      · split at h
        · rename_i hb
          cases h
          exact ⟨by simpa using hk, .inl ⟨hb, rfl⟩⟩
        · split at h
          · rename_i hc
            split at h
            · cases h
              simp only [Bool.and_eq_true, Bool.not_eq_true', beq_eq_false_iff_ne] at hc
              exact ⟨by simpa using hk, .inr ⟨by simpa using hc.1, by simpa using hc.2, rfl⟩⟩
            · cases h
          · cases h
      · cases h
  | k, j + 1, s :: ρ, s2 :: ρ2, h => by
    simp only [endE, List.getElem?_cons_succ] at h
    obtain ⟨a, b⟩ := endE_val h
    rw [show k + 1 + j = k + (j + 1) by omega] at a b
    exact ⟨a, by simpa using b⟩
def spK (keep : List Nat) (i r : Nat) (ρ : Env) (g : SF) : SRes → SRes
  | .nx ρ2 => if ρ2.length = ρ.length then g (endE keep i r 0 ρ ρ2) else .stuck
  | .ret (.val d) ρ2 => .ret (.val d) ρ2
  | _ => .stuck
open Classical in
noncomputable def sSpoil (keep u : List Nat) (i r : Nat) (pop : Bool) (fc : EF) (fm g : SF) : SF := fun ρ =>
  if smallB u ρ = true ∧ i < ρ.length ∧ r < ρ.length then (match fc (keepE u i 0 ρ) with
    | .ok (.tmp rows) ρ1 => if ρ1 = keepE u i 0 ρ ∧ rowsB rows.length rows = true ∧ (pop = true → rows ≠ []) then spK keep i r ρ g (fm (ρ.set i (some (.val (.list rows))))) else .stuck
    | _ => .stuck) else .stuck
theorem sSpoil_eq {keep u : List Nat} {i r : Nat} {pop : Bool} {fc : EF} {fm g : SF} {ρ : Env} {rows : List PyData} (h1 : smallB u ρ = true) (h2 : i < ρ.length) (h2r : r < ρ.length) (h3 : fc (keepE u i 0 ρ) = .ok (.tmp rows) (keepE u i 0 ρ)) (h4 : rowsB rows.length rows = true) (h5 : pop = true → rows ≠ []) :
    sSpoil keep u i r pop fc fm g ρ = spK keep i r ρ g (fm (ρ.set i (some (.val (.list rows))))) := by
  unfold sSpoil
  rw [if_pos ⟨h1, h2, h2r⟩, h3]
  exact if_pos ⟨rfl, h4, h5⟩
structure RowAt (K : PySem.W.Frag) (F : Addr → Prop) (H0 H : Hp) (n : Nat) (v : V) : Prop where
  ex : ∃ t a xs us, v = .ref t ∧ (F t ∨ ∀ H', SqT K H' t (.ref a :: xs)) ∧ SqT K H t (.ref a :: xs) ∧ F a ∧ H0 a = none ∧ H a = some (.lst us) ∧ us.length + n < sizeLine
theorem rows_at {K : PySem.W.Frag} {F F' B : Addr → Prop} {H H' : Hp} {σ : L2.St} {ρ : Env} {u : List Nat} {i n : Nat} (N : NewC K F B H σ ρ u i F' H') : ∀ {rows : List PyData} {vs : List V}, rowsB n rows = true → RepA K F' H' vs rows → ∀ v ∈ vs, RowAt K F' H (thawH H H') n v
  | [], _, _, ra, v, hv => by cases ra; simp at hv
  | d :: ds, _, hb, ra, v, hv => by
    cases ra with
    | cons h1 h2 =>
      rename_i v0 vs0
      obtain ⟨hs, rest, rfl⟩ : ∃ hs rest, d = .tuple (.list hs :: rest) := by
        unfold rowsB at hb
        split at hb
        · rename_i q; cases q
        · rename_i q; cases q; exact ⟨_, _, rfl⟩
        · cases hb
      simp only [rowsB, Bool.and_eq_true, decide_eq_true_eq] at hb
      rcases List.mem_cons.mp hv with rfl | hv
      · cases h1 with
        | tup f r ra1 =>
          cases ra1 with
          | cons k1 k2 =>
            cases k1 with
            | lst f2 r2 ra2 =>
              obtain ⟨q1, q2⟩ := N.lst _ _ f2 r2
              refine ⟨_, _, _, _, rfl, f, ?_, f2, q1, q2, by rw [ra2.len]; exact hb.1⟩
              rcases f with f | f
              · exact r.imp (thaw_rd.rd _ _ f (fun _ _ z => nomatch z)) id
              · exact f _
      · exact rows_at N hb.2 h2 v hv
structure Spo (F4 : Addr → Prop) (H0 H4 : Hp) (σ2 : L2.St) (r : Nat) (σ : L2.St) (H : Hp) : Prop where
  len : σ.length = σ2.length
  sl : ∀ j, j ≠ r → σ[j]? = σ2[j]?
  old : ∀ b, (∃ o, H0 b = some o) → H b = H4 b
  fz : ∀ b, ¬ F4 b → H b = H4 b
  oth : ∀ b u, H4 b = some u → (∀ xs, u ≠ .lst xs) → H b = some u
theorem Spo.put {F4 : Addr → Prop} {H0 H4 H : Hp} {σ2 σ : L2.St} {r : Nat} {a : Addr} {us vs : List V} (S : Spo F4 H0 H4 σ2 r σ H) (n0 : H0 a = none) (f : F4 a) (e : H a = some (.lst us)) : Spo F4 H0 H4 σ2 r σ (upd H a (.lst vs)) := by
  refine ⟨S.len, S.sl, fun b hb => ?_, fun b hb => ?_, fun b u h n => ?_⟩
  · rw [upd_ne (fun z => by subst z; obtain ⟨o, h⟩ := hb; rw [n0] at h; cases h)]; exact S.old b hb
  · rw [upd_ne (fun z => by subst z; exact hb f)]; exact S.fz b hb
  · have q := S.oth b u h n
    rw [upd_ne (fun z => by subst z; rw [e] at q; cases q; exact n _ rfl)]; exact q
section
variable {X : Cx} {C : Cof} {Z : WX} {pin : List Nat}
theorem spoil_end {K : PySem.W.Frag} {F B F4 : Addr → Prop} {H H4 H5 : Hp} {σ σ2 σ5 : L2.St} {ρ ρ2 : Env} {keep : List Nat} {i r : Nat} {w : V} (E : ER K F B H σ ρ) (g : Gd F B H F4 H4) (E4 : ER K F4 B H4 σ2 ρ2) (hlen : ρ2.length = ρ.length) (p : PinEq keep (σ.set i (some w)) σ2) (S : Spo F4 H H4 σ2 r σ5 H5) :
    ER K (fun b => F b ∨ tupF F4 H4 b) B H5 σ5 (endE keep i r 0 ρ ρ2) ∧ Gd F B H (fun b => F b ∨ tupF F4 H4 b) H5 := by
  have st0 : ∀ b o, (F b ∨ B b) → H b = some o → H5 b = some o := fun b o h e => by rw [S.old b ⟨o, e⟩]; exact g.st b o h e
  have tst : ∀ b o, tupF F4 H4 b → H4 b = some o → H5 b = some o := fun b o ⟨_, xs, h⟩ e => by
    refine S.oth b o e fun ys z => ?_
    subst z
    rcases h with h | ⟨o', h⟩ <;> rw [e] at h <;> cases h
  have mono : ∀ b, tupF F4 H4 b → F b ∨ tupF F4 H4 b := fun _ h => .inr h
  refine ⟨⟨?_, fun b h => ?_, fun b h => ?_, fun j d hj => ?_, fun j ds hj => ?_, fun j k ds es a hj hk e1 e2 => ?_⟩, ⟨fun b h => .inl h, st0, fun b hb h => h.elim id fun q => g.pr b hb q.1⟩⟩
  · rw [endE_len hlen, S.len, E4.len, hlen]
  · rcases h with h | h
    · obtain ⟨o, e⟩ := E.dom b h
      exact ⟨o, st0 b o (.inl h) e⟩
    · obtain ⟨o, e⟩ := E4.dom b h.1
      exact ⟨o, tst b o h e⟩
  · obtain ⟨o, e⟩ := E.domB b h
    exact ⟨o, st0 b o (.inr h) e⟩
  · obtain ⟨q1, q⟩ := endE_val hj
    rw [Nat.zero_add] at q1 q
    rw [S.sl j q1]
    rcases q with ⟨q2, q3⟩ | ⟨q2, q3, q4⟩
    · obtain ⟨v, h1, h2⟩ := E4.sl j d q3
      exact ⟨v, h1, Rep.mono mono tst d v (Rep.small d v q2 h2)⟩
    · obtain ⟨v, h1, h2⟩ := E.sl j d q4
      refine ⟨v, ?_, Rep.mono (fun _ h => .inl h) (fun b o h e => st0 b o (.inl h) e) d v h2⟩
      rw [p j q2, List.getElem?_set_ne (fun z => q3 z.symm)]
      exact h1
  · obtain ⟨q1, q2, q3⟩ := endE_mut hj
    rw [Nat.zero_add] at q1
    obtain ⟨a, vs, h1, h2, h3, h4, h5⟩ := E4.mt j ds q3
    exact ⟨a, vs, by rw [S.sl j q1]; exact h1, by rw [S.fz a h3]; exact h2, fun z => h3 (z.elim (g.sub a) fun q => q.1), h4, RepA.mono mono tst ds vs (RepA.small ds vs q2 h5)⟩
  · obtain ⟨q1, _, q3⟩ := endE_mut hj
    obtain ⟨k1, _, k3⟩ := endE_mut hk
    rw [Nat.zero_add] at q1 k1
    rw [S.sl j q1] at e1
    rw [S.sl k k1] at e2
    exact E4.inj j k ds es a q3 k3 e1 e2
end
end Ls
namespace Ls
open PySem PySem.Spec PyProof.Rows L2
structure SpF (K : PySem.W.Frag) (F' F4 : Addr → Prop) (Hs H4 : Hp) (σ2 : L2.St) (i r : Nat) (f : Addr) (vs : List V) : Prop where
  s : σ2[i]? = some (some (.ref f))
  ne : i ≠ r
  lt : r < σ2.length
  hf : H4 f = some (.lst vs)
  nf : ¬ F' f
  f4 : F4 f
  n0 : Hs f = none
  sub : ∀ b, F' b → F4 b
  rows : ∀ v ∈ vs, RowAt K F' Hs H4 vs.length v
section
variable {X : Cx} {C : Cof} {Z : WX} {pin : List Nat}
theorem spoil_sem {keep u : List Nat} {i r : Nat} {pop : Bool} {fc : EF} {fm g : SF} {te : TE} {T : TS → TS} {U t3 : TS} (hiu : i ∉ u) (hik : i ∈ keep) (hir : i ≠ r) (hip : i ∉ pin) (hrp : r ∉ pin) (hp : ∀ j ∈ pin, j ∈ keep)
    (hs : ∀ F B σ H ρ, ER X.K F B H σ ρ → EGo X C Z F B H σ (te σ H) (fc ρ))
    (hs2 : ∀ F B σ H ρ D (u : TS), ER X.K F B H σ ρ → SPost X C Z keep F B H σ { D with nx := u D } (fm ρ) → T u D σ H)
    (hU : ∀ F' F4 Hs H4 σ2 f vs D, SpF X.K F' F4 Hs H4 σ2 i r f vs → (pop = true → vs ≠ []) → (∀ σ5 H5, Spo F4 Hs H4 σ2 r σ5 H5 → t3 D σ5 H5) → U D σ2 H4)
    (hs3 : ∀ F B σ H ρ D, ER X.K F B H σ ρ → SPost X C Z pin F B H σ D (g ρ) → t3 D σ H)
    {F B : Addr → Prop} {σ : L2.St} {H : Hp} {ρ : Env} {D : Ends} (E : ER X.K F B H σ ρ) (h : SPost X C Z pin F B H σ D (sSpoil keep u i r pop fc fm g ρ)) :
    te σ H fun v H1 => T U D (σ.set i (some v)) (thawH H H1) := by
  unfold sSpoil at h
  split at h
  · rename_i hc
    obtain ⟨c1, c2, c3⟩ := hc
    have q := hs _ _ σ H _ (E.small (i := i) c1)
    cases h2 : fc (keepE u i 0 ρ) with
    | stuck => rw [h2] at h; exact h.elim
    | exc c ρ' => rw [h2] at h; exact h.elim
    | ok w ρ1 =>
      cases w with
      | val d => rw [h2] at h; exact h.elim
      | loc k => rw [h2] at h; exact h.elim
      | tmp rows =>
        rw [h2] at h q
        dsimp only at h
        split at h
        · rename_i hc2
          obtain ⟨e1, e2, e3⟩ := hc2
          subst e1
          refine q _ fun v F' H1 g1 E1 rw1 => ?_
          obtain ⟨f, vs, rfl, hf, nF', nBs, nM, ra⟩ := rw1
          have N := new_core E c1 hiu g1 E1
          have hfn : H f = none := by
            cases e : H f with
            | none => rfl
            | some o =>
              exfalso
              refine nBs ⟨⟨o, e⟩, fun z => nF' (g1.sub f z), ?_⟩
              rintro ⟨j, ds, hj, ji, q1, q2⟩
              exact nM j ds (keepE_put (k := 0) q1 (by rw [Nat.zero_add]; exact hj) (by rw [Nat.zero_add]; exact ji)) q2
          obtain ⟨H2, hH2⟩ : ∃ H2, H2 = thawH H H1 := ⟨_, rfl⟩
          have hf2 : H2 f = some (.lst vs) := by rw [hH2]; exact thaw_same hf (fun _ _ z => nomatch z)
          have rows2 := rows_at N e2 ra
          have NE := N.E
          have old := N.old
          rw [← hH2] at rows2 NE old ⊢
          have nMf : NotMut σ ρ f := fun j ds hj hs => by
            obtain ⟨a, ws, k1, k2, _⟩ := E.mt j ds hj
            rw [hs] at k1; cases k1
            rw [hfn] at k2; cases k2
          have E3 := NE.frz nMf hf2
          have nBf : ¬ B f := fun z => by obtain ⟨o, e⟩ := E.domB f z; rw [hfn] at e; cases e
          have rep : Rep X.K (fun b => (F b ∨ F' b) ∨ b = f) H2 (.ref f) (.list rows) := .lst (.inr rfl) (.inl hf2) (RepA.rd (fun _ h => .inl (.inr h)) (by rw [hH2]; exact thaw_rd) rows vs ra)
          have ES := E3.setV (i := i) rep
          have gA : Gd F B H (fun b => (F b ∨ F' b) ∨ b = f) H2 := ⟨fun _ h => .inl (.inl h), old, fun b hb z => by
            rcases z with (z | z) | rfl
            · exact z
            · exact N.nB b hb z
            · exact absurd hb nBf⟩
          have pset : PinEq pin σ (σ.set i (some (.ref f))) := PinEq.set hip
          refine hs2 _ B _ H2 _ D U ES ?_
          obtain ⟨fr, hfr⟩ : ∃ fr, fr = fm (ρ.set i (some (.val (.list rows)))) := ⟨_, rfl⟩
          rw [← hfr] at h ⊢
          cases fr with
          | stuck => exact h.elim
          | exc c ρ2 => exact h.elim
          | brk ρ2 => exact h.elim
          | cnt ρ2 => exact h.elim
          | ret rr ρ2 =>
            cases rr with
            | «mut» ds => exact h.elim
            | val d => exact fun v σ' F'' H' g' p' E' rr => h v σ' F'' H' (gA.trans g') (pset.trans fun j hj => p' j (hp j hj)) E' rr
          | nx ρ2 =>
            obtain ⟨hlen, h⟩ : ρ2.length = ρ.length ∧ SPost X C Z pin F B H σ D (g (endE keep i r 0 ρ ρ2)) := by
              by_cases q : ρ2.length = ρ.length
              · have e : spK keep i r ρ g (.nx ρ2) = g (endE keep i r 0 ρ ρ2) := if_pos q
                rw [e] at h
                exact ⟨q, h⟩
              · have e : spK keep i r ρ g (.nx ρ2) = .stuck := if_neg q
                rw [e] at h
                exact h.elim
            intro σ2 F4 H4 g4 p4 E4
            show U D σ2 H4
            have lt : i < σ.length := by rw [E.len]; exact c2
            have sf : SpF X.K F' F4 H H4 σ2 i r f vs := by
              refine ⟨by rw [p4 i hik, List.getElem?_set_self lt], hir, by rw [E4.len, hlen]; exact c3, g4.st f _ (.inl (.inr rfl)) hf2, nF', g4.sub f (.inr rfl), hfn, fun b hb => g4.sub b (.inl (.inr hb)), fun v hv => ?_⟩
              obtain ⟨t, a, xs, us, k1, k2, k3, k4, k5, k6, k7⟩ := (rows2 v hv).ex
              refine ⟨t, a, xs, us, k1, k2, sqt_stab g4.stab (k2.imp (fun z => .inl (.inr z)) id) k3, k4, k5, g4.st a _ (.inl (.inl (.inr k4))) k6, ?_⟩
              rw [ra.len]; exact k7
            have vne : pop = true → vs ≠ [] := fun z e => e3 z (by rw [e] at ra; cases ra; rfl)
            refine hU F' F4 H H4 σ2 f vs D sf vne fun σ5 H5 S => ?_
            obtain ⟨EF, gF⟩ := spoil_end E (gA.trans g4) E4 hlen p4 S
            refine hs3 _ B σ5 H5 _ D EF (SPost.after gF (fun j hj => ?_) h)
            have n1 : j ≠ r := fun z => hrp (by rw [← z]; exact hj)
            have n2 : i ≠ j := fun z => hip (by rw [z]; exact hj)
            rw [S.sl j n1, p4 j (hp j hj), List.getElem?_set_ne n2]
        · exact h.elim
  · exact h.elim
end
section
variable {X : Cx} {C : Cof} {Z : WX} {pin : List Nat} {x y tx : Str} {j1 j2 : _} {p3 p4 p5 s1 c1 c2 apos cpos epos fpos : Pos}
abbrev spoilFor (x y tx : Str) (j1 : Nat) (j2 : Nat) (p3 p4 p5 s1 c1 c2 apos cpos epos fpos : Pos) : Stmt :=
  .For (.Name y p3) (.Name x p4) [.Expr (.Call (.Attribute (.Subscript (.Name y p5) (.Constant (.int 0) j1 c1) s1) "append" apos) [.Constant (.str tx) j2 c2] [] cpos) epos] [] fpos
theorem spoil_for {i r : Nat} {j1 j2 : Nat} (hp : PassesOwn (model X.prog X.w) X.A X.env X.xe) (hc : X.calm = true) (hN : X.N.Nodup) (hi : X.N[i]? = some x) (hv : Vis X.env.scope x) (hr : X.N[r]? = some y) (hy : Loc X.env.scope y) (hvy : Vis X.env.scope y)
    (hd : (x == ("__debug__" : Str)) = false := by decide) (hcd : (x == ("__classdict__" : Str)) = false := by decide) (hd2 : (y == ("__debug__" : Str)) = false := by decide) (hcd2 : (y == ("__classdict__" : Str)) = false := by decide)
    (hf : X.fn y = true ∨ X.env.scope.names.lookup y = some .local := by first | exact .inl rfl | exact .inr rfl)
    (hbase : attributeBase (.Subscript (.Name y p5) (.Constant (.int 0) j1 c1) s1) "append" X.env (eval (.Subscript (.Name y p5) (.Constant (.int 0) j1 c1) s1) X.env) = eval (.Subscript (.Name y p5) (.Constant (.int 0) j1 c1) s1) X.env := by rfl)
    (hfew : ((backTo cpos (starEach [.Constant (.str tx) j2 c2] X.env)).all (fun x => !x.1) && (backToKw cpos (keywordEach [] X.env)).all (fun x => x.1.isSome)
      && decide (([.Constant (.str tx) j2 c2] : List Expr).length + ([] : List Keyword).length + (if ([] : List Keyword).isEmpty then 0 else 1) < 30)) = true := by rfl)
    (hline : (apos.endLine == cpos.line) = true := by rfl) (hst : starEach [.Constant (.str tx) j2 c2] X.env = (false, eval (.Constant (.str tx) j2 c2) X.env) :: starEach [] X.env := by rfl) (hplain : (backTo cpos (starEach [] X.env)).any (·.1) = false := by rfl)
    (hse : swapsWith (.Call (.Attribute (.Subscript (.Name y p5) (.Constant (.int 0) j1 c1) s1) "append" apos) [.Constant (.str tx) j2 c2] [] cpos) none epos.line X.env = pure false := by rfl)
    (hfs : ∀ z, foldedSetIterable (.Name x p4) X.env z = pure z := by intro _; rfl) :
    ∃ L : TS, PS X (spoilFor x y tx j1 j2 p3 p4 p5 s1 c1 c2 apos cpos epos fpos) L ∧ ∀ F' F4 Hs H4 σ2 f vs D, SpF X.K F' F4 Hs H4 σ2 i r f vs → (∀ σ5 H5, Spo F4 Hs H4 σ2 r σ5 H5 → H5 f = some (.lst vs) → σ5[i]? = some (some (.ref f)) → D.nx σ5 H5) → L D σ2 H4 := by
  refine ⟨_, ps_for hp hc (pi_list (pe_var hi hv hd hcd)) (pg_name hN hr hy hf) (pss_one (ps_expr (pe_bm PySem.F.plainAttrs_list PySem.F.slot_list_append PySem.F.type_list_append mt_append (pe_ix ix_tup (pe_var hr hvy hd2 hcd2) pe_int (fun _ _ => rfl)) (pa_cons pe_str pa_nil hst) hbase hfew hline hst hplain) hse)) hfs, fun F' F4 Hs H4 σ2 f vs D S h => ?_⟩
  refine ⟨_, S.s, f, rfl, ⟨vs, .inl (.inl S.hf)⟩, ?_⟩
  refine ⟨fun k m σ H => m = vs.length - k ∧ k ≤ vs.length ∧ Spo F4 Hs H4 σ2 r σ H ∧ H f = some (.lst vs) ∧ ∀ v ∈ vs, RowAt X.K F' Hs H (vs.length - k) v,
    ⟨vs.length, by simp, Nat.zero_le _, ⟨rfl, fun _ _ => rfl, fun _ _ => rfl, fun _ _ => rfl, fun _ _ e _ => e⟩, S.hf, S.rows⟩, ?_⟩
  rintro k m σ H ⟨rfl, hk, Sp, hf', rows⟩
  by_cases hlt : k < vs.length
  · refine .inr ⟨⟨vs, vs[k], .inl (.inl hf'), List.getElem?_eq_getElem hlt⟩, fun σ' H' => (vs.length - (k + 1)) = vs.length - (k + 1) ∧ k + 1 ≤ vs.length ∧ Spo F4 Hs H4 σ2 r σ' H' ∧ H' f = some (.lst vs) ∧ ∀ v ∈ vs, RowAt X.K F' Hs H' (vs.length - (k + 1)) v, fun σ' H' z => ⟨_, by omega, z⟩, ?_⟩
    rintro v H' ⟨rfl, hv⟩
    obtain rfl : vs[k] = v := by
      have := hv vs (.inl (.inl hf'))
      rw [List.getElem?_eq_getElem hlt] at this
      exact Option.some.inj this
    obtain ⟨t, a, xs, us, k1, k2, k3, k4, k5, k6, k7⟩ := (rows _ (List.getElem_mem hlt)).ex
    rw [k1]
    have rl : r < σ.length := by rw [Sp.len]; exact S.lt
    have naf : f ≠ a := fun z => S.nf (z ▸ k4)
    refine ⟨_, List.getElem?_set_self rl, t, _, 0, .ref a, rfl, rfl, k3, at_0 _ _, .inl ⟨rfl, _, .inl (.inl k6)⟩, ?_⟩
    refine ⟨a, us, .str tx, rfl, rfl, k6, by omega, ?_⟩
    have Sp1 : Spo F4 Hs H4 σ2 r (σ.set r (some (.ref t))) H' := ⟨by rw [List.length_set]; exact Sp.len, fun j hj => by rw [List.getElem?_set_ne (fun z => hj z.symm)]; exact Sp.sl j hj, Sp.old, Sp.fz, Sp.oth⟩
    refine ⟨rfl, hlt, Sp1.put k5 (S.sub a k4) k6, by rw [upd_ne naf]; exact hf', fun v hv => ?_⟩
    obtain ⟨t', a', xs', us', m1, m2, m3, m4, m5, m6, m7⟩ := (rows v hv).ex
    have sq : SqT X.K (upd H' a (.lst (us ++ [.str tx]))) t' (.ref a' :: xs') := by
      rcases m3 with (m3 | ⟨o, m3⟩) | m3
      · exact .inl (.inl (by rw [upd_ne (fun z => by subst z; rw [k6] at m3; cases m3)]; exact m3))
      · exact .inl (.inr ⟨o, by rw [upd_ne (fun z => by subst z; rw [k6] at m3; cases m3)]; exact m3⟩)
      · exact .inr m3
    by_cases q : a' = a
    · subst q
      exact ⟨t', a', xs', us ++ [.str tx], m1, m2, sq, m4, m5, upd_same, by rw [List.length_append, List.length_singleton]; omega⟩
    · exact ⟨t', a', xs', us', m1, m2, sq, m4, m5, by rw [upd_ne q]; exact m6, by omega⟩
  · refine .inl ⟨⟨vs, .inl (.inl hf'), by omega⟩, h σ H Sp hf' ?_⟩
    rw [Sp.sl i S.ne]; exact S.s
theorem s_spoil (keep u : List Nat) (i r : Nat) {j1 j2 : Nat} {e : Expr} {fc : EF} {fm g : SF} {pre : List Stmt → List Stmt} {rest : List Stmt} {p1 pos : Pos} (hp : PassesOwn (model X.prog X.w) X.A X.env X.xe) (hc : X.calm = true) (hN : X.N.Nodup) (hi : X.N[i]? = some x) (hx : Loc X.env.scope x) (hv : Vis X.env.scope x) (hr : X.N[r]? = some y) (hy : Loc X.env.scope y) (hvy : Vis X.env.scope y)
    (he : PEr X C Z e fc) (hm : PSm X C Z keep pre fm) (h3 : PSsr X C Z pin rest g)
    (hiu : i ∉ u) (hik : i ∈ keep) (hir : i ≠ r) (hip : i ∉ pin) (hrp : r ∉ pin) (hpk : ∀ j ∈ pin, j ∈ keep)
    (hs : swapsWith e (some (.Name x p1)) pos.line X.env = pure false := by rfl) (hfx : X.fn x = true ∨ X.env.scope.names.lookup x = some .local := by first | exact .inl rfl | exact .inr rfl)
    (hd : (x == ("__debug__" : Str)) = false := by decide) (hcd : (x == ("__classdict__" : Str)) = false := by decide) (hd2 : (y == ("__debug__" : Str)) = false := by decide) (hcd2 : (y == ("__classdict__" : Str)) = false := by decide)
    (hf : X.fn y = true ∨ X.env.scope.names.lookup y = some .local := by first | exact .inl rfl | exact .inr rfl)
    (hbase : attributeBase (.Subscript (.Name y p5) (.Constant (.int 0) j1 c1) s1) "append" X.env (eval (.Subscript (.Name y p5) (.Constant (.int 0) j1 c1) s1) X.env) = eval (.Subscript (.Name y p5) (.Constant (.int 0) j1 c1) s1) X.env := by rfl)
    (hfew : ((backTo cpos (starEach [.Constant (.str tx) j2 c2] X.env)).all (fun x => !x.1) && (backToKw cpos (keywordEach [] X.env)).all (fun x => x.1.isSome)
      && decide (([.Constant (.str tx) j2 c2] : List Expr).length + ([] : List Keyword).length + (if ([] : List Keyword).isEmpty then 0 else 1) < 30)) = true := by rfl)
    (hline : (apos.endLine == cpos.line) = true := by rfl) (hst : starEach [.Constant (.str tx) j2 c2] X.env = (false, eval (.Constant (.str tx) j2 c2) X.env) :: starEach [] X.env := by rfl) (hplain : (backTo cpos (starEach [] X.env)).any (·.1) = false := by rfl)
    (hse : swapsWith (.Call (.Attribute (.Subscript (.Name y p5) (.Constant (.int 0) j1 c1) s1) "append" apos) [.Constant (.str tx) j2 c2] [] cpos) none epos.line X.env = pure false := by rfl)
    (hfs : ∀ z, foldedSetIterable (.Name x p4) X.env z = pure z := by intro _; rfl) :
    PSsr X C Z pin (.Assign [.Name x p1] e pos :: pre (spoilFor x y tx j1 j2 p3 p4 p5 s1 c1 c2 apos cpos epos fpos :: rest)) (sSpoil keep u i r false fc fm g) := by
  obtain ⟨te, hte, hs1⟩ := he.ex
  obtain ⟨T, hT, hs2⟩ := hm.ex
  obtain ⟨t3, ht3, hs3⟩ := h3.ex
  obtain ⟨L, hL, hl⟩ := spoil_for (p3 := p3) (p4 := p4) (fpos := fpos) hp hc hN hi hv hr hy hvy hd hcd hd2 hcd2 hf hbase hfew hline hst hplain hse hfs
  refine ⟨_, pss_cons (ps_new (ps_set hN hi hx hte hs hfx)) (hT _ _ (pss_cons hL ht3)), fun F B σ H ρ D E h => ?_⟩
  exact spoil_sem hiu hik hir hip hrp hpk hs1 hs2 (U := tSeq L t3) (fun F' F4 Hs H4 σ2 f vs D S _ k => hl F' F4 Hs H4 σ2 f vs { D with nx := t3 D } S fun σ5 H5 Sp _ _ => k σ5 H5 Sp) hs3 E h
theorem s_spoilP (keep u : List Nat) (i r : Nat) {j1 j2 : Nat} {e : Expr} {fc : EF} {fm g : SF} {pre : List Stmt → List Stmt} {rest : List Stmt} {p1 pos p6 apos2 cpos2 epos2 : Pos} (hp : PassesOwn (model X.prog X.w) X.A X.env X.xe) (hc : X.calm = true) (hN : X.N.Nodup) (hi : X.N[i]? = some x) (hx : Loc X.env.scope x) (hv : Vis X.env.scope x) (hr : X.N[r]? = some y) (hy : Loc X.env.scope y) (hvy : Vis X.env.scope y)
    (he : PEr X C Z e fc) (hm : PSm X C Z keep pre fm) (h3 : PSsr X C Z pin rest g)
    (hiu : i ∉ u) (hik : i ∈ keep) (hir : i ≠ r) (hip : i ∉ pin) (hrp : r ∉ pin) (hpk : ∀ j ∈ pin, j ∈ keep)
    (hs : swapsWith e (some (.Name x p1)) pos.line X.env = pure false := by rfl) (hfx : X.fn x = true ∨ X.env.scope.names.lookup x = some .local := by first | exact .inl rfl | exact .inr rfl)
    (hd : (x == ("__debug__" : Str)) = false := by decide) (hcd : (x == ("__classdict__" : Str)) = false := by decide) (hd2 : (y == ("__debug__" : Str)) = false := by decide) (hcd2 : (y == ("__classdict__" : Str)) = false := by decide)
    (hf : X.fn y = true ∨ X.env.scope.names.lookup y = some .local := by first | exact .inl rfl | exact .inr rfl)
    (hbase : attributeBase (.Subscript (.Name y p5) (.Constant (.int 0) j1 c1) s1) "append" X.env (eval (.Subscript (.Name y p5) (.Constant (.int 0) j1 c1) s1) X.env) = eval (.Subscript (.Name y p5) (.Constant (.int 0) j1 c1) s1) X.env := by rfl)
    (hfew : ((backTo cpos (starEach [.Constant (.str tx) j2 c2] X.env)).all (fun x => !x.1) && (backToKw cpos (keywordEach [] X.env)).all (fun x => x.1.isSome)
      && decide (([.Constant (.str tx) j2 c2] : List Expr).length + ([] : List Keyword).length + (if ([] : List Keyword).isEmpty then 0 else 1) < 30)) = true := by rfl)
    (hline : (apos.endLine == cpos.line) = true := by rfl) (hst : starEach [.Constant (.str tx) j2 c2] X.env = (false, eval (.Constant (.str tx) j2 c2) X.env) :: starEach [] X.env := by rfl) (hplain : (backTo cpos (starEach [] X.env)).any (·.1) = false := by rfl)
    (hse : swapsWith (.Call (.Attribute (.Subscript (.Name y p5) (.Constant (.int 0) j1 c1) s1) "append" apos) [.Constant (.str tx) j2 c2] [] cpos) none epos.line X.env = pure false := by rfl)
    (hfs : ∀ z, foldedSetIterable (.Name x p4) X.env z = pure z := by intro _; rfl)
    (hbase2 : attributeBase (.Name x p6) "pop" X.env (eval (.Name x p6) X.env) = eval (.Name x p6) X.env := by rfl) (hline2 : (apos2.endLine == cpos2.line) = true := by rfl)
    (hse2 : swapsWith (.Call (.Attribute (.Name x p6) "pop" apos2) [] [] cpos2) none epos2.line X.env = pure false := by rfl) :
    PSsr X C Z pin (.Assign [.Name x p1] e pos :: pre (spoilFor x y tx j1 j2 p3 p4 p5 s1 c1 c2 apos cpos epos fpos :: .Expr (.Call (.Attribute (.Name x p6) "pop" apos2) [] [] cpos2) epos2 :: rest)) (sSpoil keep u i r true fc fm g) := by
  obtain ⟨te, hte, hs1⟩ := he.ex
  obtain ⟨T, hT, hs2⟩ := hm.ex
  obtain ⟨t3, ht3, hs3⟩ := h3.ex
  obtain ⟨L, hL, hl⟩ := spoil_for (p3 := p3) (p4 := p4) (fpos := fpos) hp hc hN hi hv hr hy hvy hd hcd hd2 hcd2 hf hbase hfew hline hst hplain hse hfs
  refine ⟨_, pss_cons (ps_new (ps_set hN hi hx hte hs hfx)) (hT _ _ (pss_cons hL (pss_cons (ps_expr (pe_bm0 PySem.F.plainAttrs_list PySem.F.slot_list_pop PySem.F.type_list_pop mt_pop (pe_var hi hv hd hcd) hbase2 hline2) hse2) ht3))), fun F B σ H ρ D E h => ?_⟩
  refine spoil_sem hiu hik hir hip hrp hpk hs1 hs2 (U := tSeq L (tSeq _ t3)) (fun F' F4 Hs H4 σ2 f vs D S ne k => hl F' F4 Hs H4 σ2 f vs _ S fun σ5 H5 Sp hf5 s5 => ?_) hs3 E h
  have nv := ne rfl
  obtain ⟨last, hlast⟩ : ∃ z, vs[vs.length - 1]? = some z := ⟨_, List.getElem?_eq_getElem (by have := List.length_pos_iff.mpr nv; omega)⟩
  refine ⟨_, s5, .inl ⟨rfl, _, .inl (.inl hf5)⟩, ?_⟩
  refine ⟨f, vs, last, rfl, rfl, hf5, hlast, ?_⟩
  exact k σ5 _ (Sp.put S.n0 S.f4 hf5)
end
end Ls
namespace Ls
open PySem PySem.Spec PyProof.Rows L2
def mergeE (u : List Nat) : Nat → Env → Env → Env
  | k, s :: ρ, s1 :: ρ1 => (match s with
      | some (.mut ds) => if u.contains k = true then (match s1 with | some (.mut es) => if bareDs es = true then some (.mut es) else none | _ => none) else some (.mut ds)
      | s => s) :: mergeE u (k + 1) ρ ρ1
  | _, _, _ => []
theorem mergeE_len {u : List Nat} : ∀ {k : Nat} {ρ ρ1 : Env}, ρ1.length = ρ.length → (mergeE u k ρ ρ1).length = ρ.length
  | _, [], [], _ => rfl
  | _, _ :: _, [], h => by simp at h
  | _, [], _ :: _, h => by simp at h
  | k, s :: ρ, s2 :: ρ2, h => congrArg (· + 1) (mergeE_len (by simpa using h))
theorem mergeE_val {u : List Nat} {d : PyData} : ∀ {k j : Nat} {ρ ρ1 : Env}, (mergeE u k ρ ρ1)[j]? = some (some (.val d)) → ρ[j]? = some (some (.val d))
  | _, _, [], _, h => by simp [mergeE] at h
  | _, _, _ :: _, [], h => by simp [mergeE] at h
  | k, 0, s :: ρ, s2 :: ρ2, h => by
    simp only [mergeE, List.getElem?_cons_zero, Option.some.injEq] at h ⊢
    split at h
    · split at h
      · split at h
        · split at h <;> cases h
        · cases h
      · cases h
    · exact h
  | k, j + 1, s :: ρ, s2 :: ρ2, h => by
    simp only [mergeE, List.getElem?_cons_succ] at h ⊢
    exact mergeE_val h
theorem mergeE_mut {u : List Nat} {es : List PyData} : ∀ {k j : Nat} {ρ ρ1 : Env}, (mergeE u k ρ ρ1)[j]? = some (some (.mut es)) →
    (k + j ∉ u ∧ ρ[j]? = some (some (.mut es))) ∨ (k + j ∈ u ∧ bareDs es = true ∧ ρ1[j]? = some (some (.mut es)) ∧ ∃ ds, ρ[j]? = some (some (.mut ds)))
  | _, _, [], _, h => by simp [mergeE] at h
  | _, _, _ :: _, [], h => by simp [mergeE] at h
  | k, 0, s :: ρ, s2 :: ρ2, h => by
    simp only [mergeE, List.getElem?_cons_zero, Option.some.injEq] at h ⊢
    rw [Nat.add_zero]
    split at h
    · rename_i ds
      split at h
      · rename_i hu
        split at h
        · split at h
          · rename_i hb
            cases h
            exact .inr ⟨by simpa using hu, hb, rfl, ds, rfl⟩
          · cases h
        · cases h
      · rename_i hu
        exact .inl ⟨by simpa using hu, h⟩
    · rename_i hne
      exact absurd h (hne es)
  | k, j + 1, s :: ρ, s2 :: ρ2, h => by
    simp only [mergeE, List.getElem?_cons_succ] at h ⊢
    have := mergeE_mut h
    rw [show k + 1 + j = k + (j + 1) by omega] at this
    exact this
section
variable {K : PySem.W.Frag} {F F' B : Addr → Prop} {H H' : Hp} {σ : L2.St} {ρ ρ1 : Env}
theorem rd_two {a : Addr} {xs ys : List V} (h : Rd H a (.lst xs)) (h2 : Rd H a (.tup ys)) : False := by
  rcases h with r | ⟨o1, r⟩ <;> rcases h2 with q | ⟨o2, q⟩ <;> rw [r] at q <;> cases q
structure NewC2 (K : PySem.W.Frag) (F B : Addr → Prop) (H : Hp) (σ : L2.St) (ρ ρ1 : Env) (u : List Nat) (F' : Addr → Prop) (H' : Hp) : Prop where
  old : ∀ b o, (F b ∨ B b) → H b = some o → thawH H H' b = some o
  E : ER K (fun b => F b ∨ tupF F' H' b) B (thawH H H') σ (mergeE u 0 ρ ρ1)
  nB : ∀ b, B b → F' b → F b
  lst : ∀ b xs, F' b → Rd H' b (.lst xs) → H b = none ∧ thawH H H' b = some (.lst xs)
  dom : ∀ (j : Nat) (es : List PyData) (a : Addr), (mergeE u 0 ρ ρ1)[j]? = some (some (.mut es)) → σ[j]? = some (some (.ref a)) → ∃ o, H a = some o
theorem new_core2 {u : List Nat} {i : Nat} (E : ER K F B H σ ρ) (hi : i ∉ u) (g : Gd (tupF F H) (apartB F H u i σ ρ) H F' H') (E' : ER K F' (apartB F H u i σ ρ) H' σ ρ1) (hm : ∀ j ds, j ∈ u → ρ[j]? = some (some (.mut ds)) → ∃ es, ρ1[j]? = some (some (.mut es))) (hl : ρ1.length = ρ.length) : NewC2 K F B H σ ρ ρ1 u F' H' := by
  have part : ∀ b, (∃ o, H b = some o) → tupF F H b ∨ apartB F H u i σ ρ b ∨ mutA u i σ ρ b := fun b hd => by
    by_cases q1 : tupF F H b
    · exact .inl q1
    · by_cases q2 : mutA u i σ ρ b
      · exact .inr (.inr q2)
      · exact .inr (.inl ⟨hd, q1, q2⟩)
  have keep : ∀ b o, (F b ∨ B b) → H b = some o → H' b = some o := fun b o h e => by
    rcases part b ⟨o, e⟩ with q | q | q
    · exact g.st b o (.inl q) e
    · exact g.st b o (.inr q) e
    · obtain ⟨_, nF, nB⟩ := q.at E
      exact h.elim (fun z => absurd z nF) (fun z => absurd z nB)
  have old : ∀ b o, (F b ∨ B b) → H b = some o → thawH H H' b = some o := fun b o h e => by rw [thaw_old e]; exact keep b o h e
  have nF' : ∀ b, (∃ o, H b = some o) → F' b → tupF F H b := fun b hd h => by
    rcases part b hd with q | q | q
    · exact q
    · exact g.pr b q h
    · obtain ⟨j, ds, hj, ji, e, e2⟩ := q
      obtain ⟨es, he⟩ := hm j ds hj e
      obtain ⟨a, vs, h1, h2, h3, h4, h5⟩ := E'.mt j es he
      rw [e2] at h1; cases h1
      exact absurd h h3
  have st : Stab F H (thawH H H') := fun b o h e => old b o (.inl h) e
  have dom : ∀ (j : Nat) (es : List PyData) (a : Addr), (mergeE u 0 ρ ρ1)[j]? = some (some (.mut es)) → σ[j]? = some (some (.ref a)) → ∃ o, H a = some o := fun j es a hj hs => by
    rcases mergeE_mut hj with ⟨_, q⟩ | ⟨_, _, _, ds, q⟩
    · obtain ⟨a', vs, h1, h2, _⟩ := E.mt j es q
      rw [hs] at h1; cases h1
      exact ⟨_, h2⟩
    · obtain ⟨a', vs, h1, h2, _⟩ := E.mt j ds q
      rw [hs] at h1; cases h1
      exact ⟨_, h2⟩
  have hmm : ∀ {j : Nat} {es : List PyData}, (mergeE u 0 ρ ρ1)[j]? = some (some (.mut es)) → ∃ ds, ρ[j]? = some (some (.mut ds)) := fun {j es} hj => by
    rcases mergeE_mut hj with ⟨_, q⟩ | ⟨_, _, _, ds, q⟩
    · exact ⟨_, q⟩
    · exact ⟨_, q⟩
  refine ⟨old, ⟨by rw [mergeE_len hl]; exact E.len, fun b h => ?_, fun b h => ?_, fun j d hj => ?_, fun j ds hj => ?_, fun j k ds es a hj hk e1 e2 => ?_⟩, fun b hb h => (nF' b (E.domB b hb) h).1, fun b xs h r => ?_, dom⟩
  · rcases h with h | h
    · obtain ⟨o, e⟩ := E.dom b h
      exact ⟨o, old b o (.inl h) e⟩
    · exact thaw_some (E'.dom b h.1)
  · obtain ⟨o, e⟩ := E.domB b h
    exact ⟨o, old b o (.inr h) e⟩
  · obtain ⟨v, h1, h2⟩ := E.sl j d (mergeE_val hj)
    exact ⟨v, h1, Rep.mono (fun _ h => .inl h) st d v h2⟩
  · rcases mergeE_mut hj with ⟨ju, q⟩ | ⟨ju, hb, q1, ds0, q0⟩
    · rw [Nat.zero_add] at ju
      obtain ⟨a, vs, h1, h2, h3, h4, h5⟩ := E.mt j ds q
      have nF2 : ¬ F' a := fun z => h3 (nF' a ⟨_, h2⟩ z).1
      have qa : apartB F H u i σ ρ a := ⟨⟨_, h2⟩, fun z => h3 z.1, fun ⟨k, es, hk, ki, e, e2⟩ => ju (E.inj j k ds es a q e h1 e2 ▸ hk)⟩
      exact ⟨a, vs, h1, by rw [thaw_old h2]; exact g.st a _ (.inr qa) h2, fun z => z.elim h3 fun q => nF2 q.1, h4, RepA.mono (fun _ h => .inl h) st ds vs h5⟩
    · obtain ⟨a, vs, h1, h2, h3, h4, h5⟩ := E.mt j ds0 q0
      obtain ⟨a', vs', k1, k2, k3, k4, k5⟩ := E'.mt j ds q1
      rw [h1] at k1; cases k1
      exact ⟨a, vs', h1, by rw [thaw_old h2]; exact k2, fun z => z.elim h3 fun q => k3 q.1, h4, RepA.rd (fun _ h => .inr h) ((thaw_rd (F := F')).less fun b hb => hb.1) ds vs' (RepA.small ds vs' hb k5)⟩
  · obtain ⟨ds', q⟩ := hmm hj
    obtain ⟨es', q2⟩ := hmm hk
    exact E.inj j k ds' es' a q q2 e1 e2
  · have hn : H b = none := by
      cases e : H b with
      | none => rfl
      | some o =>
        have tf := nF' b ⟨o, e⟩ h
        obtain ⟨_, ys, ry⟩ := id tf
        refine (rd_two (ys := ys) r ?_).elim
        rcases ry with ry | ⟨ob, ry⟩
        · exact .inl (g.st b _ (.inl tf) ry)
        · exact .inr ⟨ob, g.st b _ (.inl tf) ry⟩
    refine ⟨hn, ?_⟩
    rcases r with r | ⟨o, r⟩
    · exact thaw_same r (fun _ _ z => nomatch z)
    · exact thaw_new hn r
end
def mutsB (u : List Nat) (ρ ρ1 : Env) : Bool := u.all fun j => match ρ[j]? with
  | some (some (.mut _)) => (match ρ1[j]? with | some (some (.mut _)) => true | _ => false)
  | _ => true
theorem mutsB_get {u : List Nat} {ρ ρ1 : Env} (h : mutsB u ρ ρ1 = true) (j : Nat) (ds : List PyData) (hj : j ∈ u) (e : ρ[j]? = some (some (.mut ds))) : ∃ es, ρ1[j]? = some (some (.mut es)) := by
  have := List.all_eq_true.mp h j hj
  rw [e] at this
  dsimp only at this
  split at this
  · rename_i es q
    exact ⟨es, q⟩
  · cases this
def sNewAsg (u : List Nat) (i j : Nat) (fc : EF) : SF := fun ρ => match fc (keepE u i 0 ρ) with
  | .ok (.val (.tuple [.list hs, d])) ρ1 => if smallB u ρ = true ∧ mutsB u ρ ρ1 = true ∧ ρ1.length = ρ.length ∧ bareDs hs = true ∧ bareD d = true then .nx (((mergeE u 0 ρ ρ1).set i (some (.mut hs))).set j (some (.val d))) else .stuck
  | _ => .stuck
theorem sNewAsg_eq {u : List Nat} {i j : Nat} {fc : EF} {ρ ρ1 : Env} {hs : List PyData} {d : PyData} (h1 : fc (keepE u i 0 ρ) = .ok (.val (.tuple [.list hs, d])) ρ1) (h2 : smallB u ρ = true) (h3 : mutsB u ρ ρ1 = true) (h4 : ρ1.length = ρ.length) (h5 : bareDs hs = true) (h6 : bareD d = true) :
    sNewAsg u i j fc ρ = .nx (((mergeE u 0 ρ ρ1).set i (some (.mut hs))).set j (some (.val d))) := by
  unfold sNewAsg
  rw [h1]
  exact if_pos ⟨h2, h3, h4, h5, h6⟩
section
variable {X : Cx} {C : Cof} {Z : WX} {pin : List Nat}
theorem s_newasg (u : List Nat) (i j : Nat) {x y : Str} {e : Expr} {fc : EF} {k : Nat} {p1 p2 p3 pos : Pos} (hc : X.calm = true) (hN : X.N.Nodup) (hi : X.N[i]? = some x) (hx : Loc X.env.scope x) (hj : X.N[j]? = some y) (hy : Loc X.env.scope y)
    (he : PEr X C Z e fc) (hiu : i ∉ u) (hip : i ∉ pin) (hjp : j ∉ pin)
    (hfx : X.fn x = true ∨ X.env.scope.names.lookup x = some .local := by first | exact .inl rfl | exact .inr rfl) (hfy : X.fn y = true ∨ X.env.scope.names.lookup y = some .local := by first | exact .inl rfl | exact .inr rfl)
    (hs : swapsWithSole [.Tuple [.Name x p1, .Name y p2] k p3] e pos.line X.env = pure false := by rfl) (hw : swappedStores [.Tuple [.Name x p1, .Name y p2] k p3] e X.env = pure none := by rfl)
    (h1 : (assignEach [.Tuple [.Name x p1, .Name y p2] k p3] X.env).map (·.2) = [assign (.Tuple [.Name x p1, .Name y p2] k p3) X.env] := by rfl)
    (ha : (assignEach [.Name x p1, .Name y p2] X.env).map (·.2) = assign (.Name x p1) X.env :: (assignEach [.Name y p2] X.env).map (·.2) := by rfl) (hb : (assignEach [.Name y p2] X.env).map (·.2) = assign (.Name y p2) X.env :: (assignEach [] X.env).map (·.2) := by rfl)
    (hn : (assignEach [.Name x p1, .Name y p2] X.env).length = 2 := by rfl) (hst : (assignEach [.Name x p1, .Name y p2] X.env).findIdx? (·.1) = none := by rfl) :
    PSr X C Z pin (.Assign [.Tuple [.Name x p1, .Name y p2] k p3] e pos) (sNewAsg u i j fc) := by
  obtain ⟨te, hte, hs1⟩ := he.ex
  refine ⟨_, ps_new (ps_asg hte (pg_tup hc (pgs_cons (pg_name hN hi hx hfx) (pgs_cons (pg_name hN hj hy hfy) pgs_nil hb) ha) hn hst) hs hw h1), fun F B σ H ρ D E h => ?_⟩
  unfold sNewAsg at h
  cases h2 : fc (keepE u i 0 ρ) with
  | stuck => rw [h2] at h; exact h.elim
  | exc c ρ' => rw [h2] at h; exact h.elim
  | ok w ρ1 =>
    rw [h2] at h
    split at h
    · rename_i hs0 d0 ρ0 q0
      cases q0
      split at h
      · rename_i hc2
        obtain ⟨c1, c2, c3, c4, c5⟩ := hc2
        have q := hs1 _ _ σ H _ (E.small (i := i) c1)
        rw [h2] at q
        refine q _ fun v F' H1 g1 E1 rw1 => ?_
        have N := new_core2 E hiu g1 E1 (mutsB_get c2) c3
        have rw1 : Rep X.K F' H1 v (.tuple [.list hs0, d0]) := rw1
        cases rw1 with
        | tup f r ra =>
          cases ra with
          | cons k1 k2 =>
            cases k2 with
            | cons k2 k3 =>
              cases k3
              cases k1 with
              | lst f2 r2 ra2 =>
                rename_i t v2 a us
                obtain ⟨n0, m0⟩ := N.lst _ _ f2 r2
                refine ⟨t, _, rfl, r, rfl, _, _, rfl, ?_⟩
                refine ⟨_, _, rfl, rfl, ?_⟩
                have mono : ∀ b, tupF F' H1 b → F b ∨ tupF F' H1 b := fun _ h => .inr h
                have rd : RdSub (tupF F' H1) H1 (thawH H H1) := (thaw_rd (F := F')).less fun b hb => hb.1
                have nF : ¬ (F a ∨ tupF F' H1 a) := fun z => by
                  rcases z with z | ⟨_, ys, ry⟩
                  · obtain ⟨o, e⟩ := E.dom a z; rw [n0] at e; cases e
                  · exact rd_two r2 ry
                have nB : ¬ B a := fun z => by obtain ⟨o, e⟩ := E.domB a z; rw [n0] at e; cases e
                have nM : NotMut σ (mergeE u 0 ρ ρ1) a := fun j' es hj' hs' => by
                  obtain ⟨o, e⟩ := N.dom j' es a hj' hs'
                  rw [n0] at e; cases e
                have E2 := N.E.setM (i := i) (v := .ref a) (ds := hs0) ⟨a, us, rfl, m0, nF, nB, nM, RepA.rd mono rd hs0 us (RepA.small hs0 us c4 ra2)⟩
                have E3 := E2.setV (i := j) (Rep.rd mono rd d0 _ (Rep.small d0 _ c5 k2))
                have gA : Gd F B H (fun b => F b ∨ tupF F' H1 b) (thawH H H1) := ⟨fun _ h => .inl h, N.old, fun b hb z => z.elim id fun q => N.nB b hb q.1⟩
                exact h _ _ _ gA ((PinEq.set hip).trans (PinEq.set hjp)) E3
      · exact h.elim
    · exact h.elim
end
end Ls
namespace Ls
open PySem PySem.Spec PyProof.Rows L2
def decK : List PyData → Option (List (Str × Bool))
  | [] => some []
  | .tuple [.str x, .bool b] :: r => (decK r).map ((x, b) :: ·)
  | _ :: _ => none
theorem decK_map : ∀ kvs : List (Str × Bool), decK (kvs.map kvD) = some kvs
  | [] => rfl
  | (x, b) :: kvs => by simp [kvD, decK, decK_map kvs]
theorem decK_eq : ∀ {ks : List PyData} {kvs : List (Str × Bool)}, decK ks = some kvs → ks = kvs.map kvD
  | [], _, h => by cases h; rfl
  | d :: r, kvs, h => by
    unfold decK at h
    split at h
    · rename_i q; cases q
    · rename_i x b r' q
      cases q
      cases h2 : decK r with
      | none => rw [h2] at h; cases h
      | some l =>
        rw [h2] at h
        cases h
        rw [decK_eq h2]; rfl
    · cases h
def dicOf : PyData → Option (List (Str × Bool))
  | .dict [(.tuple ks, .none)] => decK ks
  | _ => none
@[simp] theorem dicOf_dct (kvs : List (Str × Bool)) : dicOf (dctD kvs) = some kvs := decK_map kvs
theorem dicOf_eq {d : PyData} {kvs : List (Str × Bool)} (h : dicOf d = some kvs) : d = dctD kvs := by
  unfold dicOf at h
  split at h
  · rw [decK_eq h]
  · cases h
def valB (kvs : List (Str × Bool)) (x : Str) : Option Bool := (kvs.find? fun p => decide (p.1 = x)).map (·.2)
theorem valV_map (x : Str) : ∀ kvs : List (Str × Bool), valV (kvs.map kvV) (.inr x : Key) = (valB kvs x).map V.bl
  | [] => rfl
  | (y, b) :: kvs => by
    have ih := valV_map x kvs
    by_cases q : y = x
    · subst q; simp [valV, valB, kvV]
    · have q' : ¬ (Sum.inr y : Key) = Sum.inr x := fun z => q (Sum.inr.inj z)
      simp only [valV, valB, List.map_cons, List.find?_cons, kvV] at ih ⊢
      simp only [decide_eq_false q', decide_eq_false q]
      exact ih
theorem valB_mem : ∀ {kvs : List (Str × Bool)} {p : Str × Bool}, (kvs.map (·.1)).Nodup → p ∈ kvs → valB kvs p.1 = some p.2
  | q :: kvs, p, n, h => by
    simp only [List.map_cons, List.nodup_cons] at n
    rcases List.mem_cons.mp h with rfl | h
    · simp [valB]
    · have ne : ¬ q.1 = p.1 := fun z => n.1 (List.mem_map.mpr ⟨p, h, z.symm⟩)
      have ih := valB_mem n.2 h
      simp only [valB, List.find?_cons, decide_eq_false ne] at ih ⊢
      exact ih
def putB (kvs : List (Str × Bool)) (x : Str) (b : Bool) : List (Str × Bool) :=
  if (kvs.any fun p => decide (p.1 = x)) = true then kvs.map (fun p => if p.1 = x then (p.1, b) else p) else kvs ++ [(x, b)]
theorem putK_map (kvs : List (Str × Bool)) (x : Str) (b : Bool) : putK (kvs.map kvV) (.inr x : Key) (.bl b) = (putB kvs x b).map kvV := by
  have e : (kvs.map kvV).any (fun kv => decide (kv.1 = (Sum.inr x : Key))) = kvs.any fun p => decide (p.1 = x) := by
    rw [List.any_map]
    refine congrArg (kvs.any ·) (funext fun p => ?_)
    simp [kvV]
  unfold putK putB
  rw [e]
  split
  · rw [List.map_map, List.map_map]
    refine List.map_congr_left fun p _ => ?_
    show (if (kvV p).1 = (Sum.inr x : Key) then ((kvV p).1, V.bl b) else kvV p) = kvV (if p.1 = x then (p.1, b) else p)
    by_cases q : p.1 = x
    · have q' : (kvV p).1 = (Sum.inr x : Key) := congrArg Sum.inr q
      rw [if_pos q', if_pos q]; rfl
    · have q' : ¬ (kvV p).1 = (Sum.inr x : Key) := fun z => q (Sum.inr.inj z)
      rw [if_neg q', if_neg q]
  · rw [List.map_append]; rfl
def eGetF (fo fe : EF) : EF := fun ρ => match eFz fo ρ with
  | .ok (.val d) ρ1 => (match eFz fe ρ1 with
    | .ok (.val (.str x)) ρ2 => (match dicOf d with | some kvs => .ok (.val (.bool ((valB kvs x).getD false))) ρ2 | none => .stuck)
    | _ => .stuck)
  | _ => .stuck
theorem eGetF_at {fo fe : EF} {ρ ρ1 ρ2 : Env} {kvs : List (Str × Bool)} {x : Str} (h1 : eFz fo ρ = .ok (.val (dctD kvs)) ρ1) (h2 : eFz fe ρ1 = .ok (.val (.str x)) ρ2) : eGetF fo fe ρ = .ok (.val (.bool ((valB kvs x).getD false))) ρ2 := by
  unfold eGetF
  rw [h1]; dsimp only; rw [h2]; dsimp only; rw [dicOf_dct]
def dictFn : PyData → Option Ans := fun d => match dicOf d with | some kvs => some (.val (dctD kvs)) | none => none
def neDOp : PyData → PyData → Option Ans := fun d e => match dicOf d, dicOf e with
  | some ks, some ls => if ks = ls ∧ (ks.map (·.1)).Nodup then some (.val (.bool false)) else none
  | _, _ => none
section
variable {X : Cx} {C : Cof} {Z : WX} {o e : Expr} {fo fe : EF} {pos apos cpos : Pos}
theorem r_getF {j : Nat} {p3 : Pos} (hu : X.A.units + 200 < cLine) (ho : PEr X C Z o fo) (he : PEr X C Z e fe) (m : M2 X o "get" apos e (.Constant (.bool false) j p3) cpos := by exact ⟨rfl, rfl, rfl, rfl⟩) :
    PEr X C Z (.Call (.Attribute o "get" apos) [e, .Constant (.bool false) j p3] [] cpos) (eGetF fo fe) := by
  obtain ⟨to, hto, h1⟩ := ho.ex
  obtain ⟨te, hte, h2⟩ := he.ex
  refine ⟨_, pe_dget2 (by omega) hto hte pe_bl m, fun F B σ H ρ E => ?_⟩
  have q1 := fzGo h1 F B σ H ρ E
  unfold eGetF
  cases c1 : eFz fo ρ with
  | stuck => trivial
  | exc c ρ' => trivial
  | ok w ρ1 =>
    rw [c1] at q1
    cases w with
    | loc i => trivial
    | tmp ds => trivial
    | val d =>
      dsimp only
      cases c2 : eFz fe ρ1 with
      | stuck => trivial
      | exc c ρ' => trivial
      | ok w2 ρ2 =>
        cases w2 with
        | loc i => trivial
        | tmp ds => trivial
        | val d2 =>
          cases d2 with
          | str x =>
            dsimp only
            cases hd : dicOf d with
            | none => trivial
            | some kvs =>
              intro Q hQ
              refine q1 _ fun v F1 H1 g1 E1 r1 => ?_
              have r1 : Rep X.K F1 H1 v d := r1
              rw [dicOf_eq hd] at r1
              obtain ⟨a, rfl, f, ha⟩ := RepS.dct (.inl r1)
              refine ⟨a, rfl, .inl ⟨_, .inl ha⟩, ?_⟩
              have q2 := fzGo h2 F1 B σ H1 ρ1 E1
              rw [c2] at q2
              refine q2 _ fun y F2 H2 g2 E2 ry => ?_
              have ry : Rep X.K F2 H2 y (.str x) := ry
              cases ry
              obtain ⟨_, e', _, ha⟩ := RepS.dct (.inl (Rep.gd g2 r1))
              cases e'
              refine ⟨_, .inl ⟨_, .inr x, .inl ha, rfl, rfl⟩, ?_⟩
              rw [valV_map]
              have : (Option.map V.bl (valB kvs x)).getD (V.bl false) = V.bl ((valB kvs x).getD false) := by cases valB kvs x <;> rfl
              rw [this]
              exact hQ _ F2 H2 (g1.trans g2) E2 (.bl _)
          | _ => trivial
theorem r_d0 : PEr X C Z (.Dict [] [] pos) (eC (dctD [])) := ⟨_, pe_dnewK, fun F B σ H ρ E Q hQ p hp => hQ _ _ _ (E.newF hp).1 (E.newF hp).2 (.dct (.inr rfl) upd_same)⟩
theorem k_dict {K : PySem.W.Frag} : CallS K (fun xs H Q => ∃ (a : Addr) (kvs : List (Key × V)), xs = [.ref a] ∧ Rd H a (.dK kvs) ∧ ∀ p, H p = none → Q (.ref p) (upd H p (.dK kvs))) dictFn := by
  intro F B σ H ρ x d a E r e Q hQ
  unfold dictFn at e
  cases hd : dicOf d with
  | none => rw [hd] at e; cases e
  | some kvs =>
    rw [hd] at e
    cases e
    rw [dicOf_eq hd] at r
    obtain ⟨b, rfl, f, hb⟩ := r.dct
    exact ⟨b, _, rfl, .inl hb, fun p hp => hQ _ _ _ (E.newF hp).1 (E.newF hp).2 (.dct (.inr rfl) upd_same)⟩
theorem b_neD {K : PySem.W.Frag} : BinS K rNeDA neDOp := bin_val fun F H x y d1 d2 a r1 r2 e => by
  unfold neDOp at e
  cases h1 : dicOf d1 with
  | none => rw [h1] at e; cases e
  | some ks =>
    cases h2 : dicOf d2 with
    | none => rw [h1, h2] at e; cases e
    | some ls =>
      rw [h1, h2] at e
      dsimp only at e
      split at e
      · rename_i hc
        obtain ⟨rfl, hn⟩ := hc
        cases e
        rw [dicOf_eq h1] at r1
        rw [dicOf_eq h2] at r2
        obtain ⟨a, rfl, _, ha⟩ := r1.dct
        obtain ⟨b, rfl, _, hb⟩ := r2.dct
        refine ⟨_, rfl, .bl false, fun _ _ => .bl false, fun Q q => ?_⟩
        unfold rNeDA
        refine ⟨a, b, _, _, rfl, rfl, ha, hb, rfl, fun p hp => ?_, q⟩
        obtain ⟨p', hp', rfl⟩ := List.mem_map.mp hp
        refine ⟨?_, rfl⟩
        show valV _ (.inr p'.1 : Key) = _
        rw [valV_map, valB_mem hn hp']; rfl
      · cases e
end
end Ls
namespace Ls
open PySem PySem.Spec PyProof.Rows L2
abbrev Bp (B : Addr → Prop) (a : Addr) : Addr → Prop := fun b => B b ∨ b = a
structure KS (K : PySem.W.Frag) (k : Nat) (a : Addr) (kvs : List (Str × Bool)) (F B : Addr → Prop) (H : Hp) (σ : L2.St) (ρ : Env) : Prop where
  s : σ[k]? = some (some (.ref a))
  h : H a = some (.dK (kvs.map kvV))
  fa : ¬ F a
  ba : ¬ B a
  E : ER K F (Bp B a) H σ ρ
  r : noneAt ρ k = true
section
variable {K : PySem.W.Frag} {k : Nat} {a : Addr} {kvs : List (Str × Bool)} {F F' B : Addr → Prop} {H H' : Hp} {σ σ' : L2.St} {ρ ρ' : Env}
theorem Gd.lessP (g : Gd F (Bp B a) H F' H') : Gd F B H F' H' := g.less fun _ h => .inl h
theorem KS.step (S : KS K k a kvs F B H σ ρ) (g : Gd F (Bp B a) H F' H') (hs : σ'[k]? = σ[k]?) (E : ER K F' (Bp B a) H' σ' ρ') (r : noneAt ρ' k = true) : KS K k a kvs F' B H' σ' ρ' :=
  ⟨hs.trans S.s, g.st a _ (.inr (.inr rfl)) S.h, fun z => S.fa (g.pr a (.inr rfl) z), S.ba, E, r⟩
theorem ER.frzD {o : HO} (E : ER K F B H σ ρ) (nM : NotMut σ ρ a) (e : H a = some o) : ER K (fun b => F b ∨ b = a) B H σ ρ := by
  have hF : ∀ b, F b → F b ∨ b = a := fun _ h => .inl h
  have st : Stab F H H := fun _ _ _ h => h
  refine ⟨E.len, ?_, E.domB, fun i d h => ?_, fun i ds h => ?_, E.inj⟩
  · rintro b (h | h)
    · exact E.dom b h
    · subst h; exact ⟨_, e⟩
  · obtain ⟨u, h1, h2⟩ := E.sl i d h
    exact ⟨u, h1, Rep.mono hF st _ _ h2⟩
  · obtain ⟨b, ws, h1, h2, h3, h4, h5⟩ := E.mt i ds h
    refine ⟨b, ws, h1, h2, ?_, h4, RepA.mono hF st _ _ h5⟩
    rintro (z | z)
    · exact h3 z
    · subst z; exact nM i ds h h1
end
abbrev KF := List (Str × Bool) → Env → Option (List (Str × Bool) × Env)
section
variable (X : Cx) (k : Nat) (pin : List Nat)
def KPost (a : Addr) (D : Ends) (F B : Addr → Prop) (H : Hp) (σ : L2.St) : Option (List (Str × Bool) × Env) → Prop
  | none => False
  | some (kvs, ρ') => ∀ σ' F' H', Gd F B H F' H' → PinEq pin σ σ' → KS X.K k a kvs F' B H' σ' ρ' → D.nx σ' H'
structure PK (st : Stmt) (f : KF) : Prop where
  ex : ∃ t, PS X st t ∧ ∀ a kvs F B σ H ρ D, KS X.K k a kvs F B H σ ρ → KPost X k pin a D F B H σ (f kvs ρ) → t D σ H
structure PKs (st : List Stmt) (f : KF) : Prop where
  ex : ∃ t, PSs X st t ∧ ∀ a kvs F B σ H ρ D, KS X.K k a kvs F B H σ ρ → KPost X k pin a D F B H σ (f kvs ρ) → t D σ H
end
def kSeq (f g : KF) : KF := fun kv ρ => match f kv ρ with | some (kv', ρ') => g kv' ρ' | none => none
def kOwn (k : Nat) (fs : SF) : KF := fun kv ρ => match fs ρ with | .nx ρ' => if noneAt ρ' k = true then some (kv, ρ') else none | _ => none
def kIfPut (k : Nat) (ft : TF) (fk fv : EF) : KF := fun kv ρ => match ft ρ with
  | .ok true ρ1 => (match eFz fv ρ1 with
    | .ok (.val (.bool b)) ρ2 => (match eFz fk ρ2 with
      | .ok (.val (.str x)) ρ3 => if noneAt ρ3 k = true ∧ kv.length < sizeLine then some (putB kv x b, ρ3) else none
      | _ => none)
    | _ => none)
  | .ok false ρ1 => if noneAt ρ1 k = true then some (kv, ρ1) else none
  | _ => none
def kForL (k : Nat) (g : GF) (fb : KF) : List PyData → KF
  | [], kv, ρ => some (kv, ρ)
  | d :: ds, kv, ρ => match g d ρ with
    | none => none
    | some ρa => if noneAt ρa k = true then (match fb kv ρa with | none => none | some (kv', ρb) => kForL k g fb ds kv' ρb) else none
def kFor (k : Nat) (fi : IF) (g : GF) (fb : KF) : KF := fun kv ρ => match fi ρ with | .ok ds ρ1 => if noneAt ρ1 k = true then kForL k g fb ds kv ρ1 else none | _ => none
section
variable {X : Cx} {C : Cof} {Z : WX} {k : Nat} {pin : List Nat}
theorem KPost.after {a : Addr} {D : Ends} {F B F1 : Addr → Prop} {H H1 : Hp} {σ σ1 : L2.St} {r : Option (List (Str × Bool) × Env)} (g : Gd F B H F1 H1) (p : PinEq pin σ σ1) (h : KPost X k pin a D F B H σ r) : KPost X k pin a D F1 B H1 σ1 r := by
  cases r with
  | none => exact h
  | some x => exact fun σ' F' H' g' p' S => h σ' F' H' (g.trans g') (p.trans p') S
theorem k_one {st : Stmt} {f : KF} (h : PK X k pin st f) : PKs X k pin [st] f := by
  obtain ⟨t, ht, hs⟩ := h.ex
  exact ⟨_, pss_one ht, hs⟩
theorem k_cons {st : Stmt} {sts : List Stmt} {f g : KF} (h1 : PK X k pin st f) (h2 : PKs X k pin sts g) : PKs X k pin (st :: sts) (kSeq f g) := by
  obtain ⟨t, ht, hs⟩ := h1.ex
  obtain ⟨t2, ht2, hs2⟩ := h2.ex
  refine ⟨_, pss_cons ht ht2, fun a kv F B σ H ρ D S h => ?_⟩
  show t { D with nx := t2 D } σ H
  refine hs a kv F B σ H ρ _ S ?_
  unfold kSeq at h
  cases h1 : f kv ρ with
  | none => rw [h1] at h; exact h
  | some x =>
    obtain ⟨kv', ρ'⟩ := x
    rw [h1] at h
    exact fun σ' F' H' g' p' S' => hs2 a kv' F' B σ' H' ρ' D S' (KPost.after g' p' h)
theorem k_own {st : Stmt} {fs : SF} (h : PSr X C Z (k :: pin) st fs) : PK X k pin st (kOwn k fs) := by
  obtain ⟨t, ht, hs⟩ := h.ex
  refine ⟨t, ht, fun a kv F B σ H ρ D S h => ?_⟩
  refine hs F (Bp B a) σ H ρ D S.E ?_
  unfold kOwn at h
  cases h1 : fs ρ with
  | nx ρ' =>
    rw [h1] at h
    dsimp only at h
    split at h
    · rename_i hn
      exact fun σ' F' H' g p E => h σ' F' H' g.lessP (fun j hj => p j (by simp [hj])) (S.step g (p k (by simp)) E hn)
    · exact h.elim
  | _ => rw [h1] at h; exact h.elim
theorem lt_small {n : Nat} (h : n + 200 < cLine) : n + 1 < cLine := by omega
theorem k_ifput {c ek ev : Expr} {ft : TF} {fk fv : EF} {x : Str} {p1 tp pos1 pos : Pos} (hu : X.A.units + 200 < cLine) (hc : PTr X C Z c ft) (hk : PEr X C Z ek fk) (he : PEr X C Z ev fv) (h1 : X.N[k]? = some x) (hv : Vis X.env.scope x)
    (hd : (x == ("__debug__" : Str)) = false := by decide) (hcd : (x == ("__classdict__" : Str)) = false := by decide)
    (hs : swapsWithSole [.Subscript (.Name x p1) ek tp] ev pos1.line X.env = pure false := by rfl) (hw : swappedStores [.Subscript (.Name x p1) ek tp] ev X.env = pure none := by rfl)
    (hg : ∀ (to ti : TE), PE X (.Name x p1) to → PE X ek ti → PG X (.Subscript (.Name x p1) ek tp) (gSub to ti rSetD) := by exact fun _ _ h1 h2 => pg_sub h1 h2 (set_dict (lt_small hu)))
    (ha : (assignEach [.Subscript (.Name x p1) ek tp] X.env).map (·.2) = [assign (.Subscript (.Name x p1) ek tp) X.env] := by rfl) :
    PK X k pin (.If c [.Assign [.Subscript (.Name x p1) ek tp] ev pos1] [] pos) (kIfPut k ft fk fv) := by
  obtain ⟨tc, htc, hsc⟩ := hc.ex
  obtain ⟨tk, htk, hsk⟩ := hk.ex
  obtain ⟨te, hte, hse⟩ := he.ex
  refine ⟨_, ps_if htc (pss_one (ps_asg hte (hg _ _ (pe_var h1 hv hd hcd) htk) hs hw ha)) pss_nil, fun a kv F B σ H ρ D S h => ?_⟩
  have q1 := hsc F (Bp B a) σ H ρ S.E
  unfold kIfPut at h
  cases c1 : ft ρ with
  | stuck => rw [c1] at h; exact h.elim
  | exc c ρ' => rw [c1] at h; exact h.elim
  | ok b ρ1 =>
    rw [c1] at h q1
    cases b with
    | false =>
      dsimp only at h
      split at h
      · rename_i hn
        refine q1 _ fun F1 H1 g1 E1 => ?_
        rw [if_neg (by simp)]
        exact h σ F1 H1 g1.lessP PinEq.refl (S.step g1 rfl E1 hn)
      · exact h.elim
    | true =>
      dsimp only at h
      cases c2 : eFz fv ρ1 with
      | stuck => rw [c2] at h; exact h.elim
      | exc c ρ' => rw [c2] at h; exact h.elim
      | ok w ρ2 =>
        rw [c2] at h
        split at h
        · rename_i b ρ2' q2
          cases q2
          cases c3 : eFz fk ρ2 with
          | stuck => rw [c3] at h; exact h.elim
          | exc c ρ' => rw [c3] at h; exact h.elim
          | ok w3 ρ3 =>
            rw [c3] at h
            split at h
            · rename_i y ρ3' q3
              cases q3
              split at h
              · rename_i hn
                obtain ⟨n1, n2⟩ := hn
                refine q1 _ fun F1 H1 g1 E1 => ?_
                rw [if_pos rfl]
                have q2 := fzGo hse F1 (Bp B a) σ H1 ρ1 E1
                rw [c2] at q2
                refine q2 _ fun v F2 H2 g2 E2 rv => ?_
                have rv : Rep X.K F2 H2 v (.bool b) := rv
                cases rv
                refine ⟨_, S.s, ?_⟩
                have q3 := fzGo hsk F2 (Bp B a) σ H2 ρ2 E2
                rw [c3] at q3
                refine q3 _ fun v3 F3 H3 g3 E3 rk => ?_
                have rk : Rep X.K F3 H3 v3 (.str y) := rk
                cases rk
                have S3 := S.step (g1.trans (g2.trans g3)) rfl E3 n1
                unfold rSetD
                refine ⟨a, _, rfl, DPut.k (k := (.inr y : Key)) (v := .bl b) S3.h (by rw [List.length_map]; exact n2), ?_⟩
                rw [putK_map]
                have gp : Gd F3 B H3 F3 (upd H3 a (.dK ((putB kv y b).map kvV))) := Gd.poke S3.fa S3.ba
                exact h σ F3 _ ((g1.trans (g2.trans g3)).lessP.trans gp) PinEq.refl ⟨S3.s, upd_same, S3.fa, S3.ba, S3.E.poke S3.fa (.inr rfl), n1⟩
              · exact h.elim
            · exact h.elim
        · exact h.elim
theorem k_for {vs : List Nat} {tg iter : Expr} {body : List Stmt} {fi : IF} {g : GF} {fb : KF} {pos : Pos} (hp : PassesOwn (model X.prog X.w) X.A X.env X.xe) (hc : X.calm = true) (hi : PIr X C Z tg iter fi) (hg : PGr X vs tg g) (hb : PKs X k pin body fb) (hd : ∀ j ∈ pin, j ∉ vs := by decide) (h1v : k ∉ vs := by decide)
    (hs : ∀ x, foldedSetIterable iter X.env x = pure x := by intro _; rfl) : PK X k pin (.For tg iter body [] pos) (kFor k fi g fb) := by
  obtain ⟨wi, hwi, h1⟩ := hi.ex
  obtain ⟨tg', htg, h2⟩ := hg.ex
  obtain ⟨tb, htb, h3⟩ := hb.ex
  refine ⟨_, ps_for hp hc hwi htg htb hs, fun a kv F B σ H ρ D S h => ?_⟩
  have q1 := h1 F (Bp B a) σ H ρ S.E
  unfold kFor at h
  cases q2 : fi ρ with
  | stuck => rw [q2] at h; exact h.elim
  | exc c ρ' => rw [q2] at h; exact h.elim
  | ok ds ρ1 =>
    rw [q2] at h q1
    dsimp only at h
    split at h
    · rename_i n1
      obtain ⟨R, hR⟩ : ∃ R, R = kForL k g fb ds kv ρ1 := ⟨_, rfl⟩
      rw [← hR] at h
      refine q1 _ fun J F1 H1 g1 E1 it => ?_
      have S1 := S.step g1 rfl E1 n1
      refine ⟨fun i m σ2 H2 => m = ds.length - i ∧ i ≤ ds.length ∧ ∃ F2 kv2 ρ2, Gd F1 B H1 F2 H2 ∧ PinEq pin σ σ2 ∧ KS X.K k a kv2 F2 B H2 σ2 ρ2 ∧ kForL k g fb (ds.drop i) kv2 ρ2 = R,
        ⟨ds.length, by simp, Nat.zero_le _, F1, kv, ρ1, Gd.refl, PinEq.refl, S1, hR.symm⟩, ?_⟩
      rintro i m σ2 H2 ⟨rfl, hil, F2, kv2, ρ2, g2, p2, S2, hl⟩
      have itH := it F2 H2 g2.sub g2.stab
      have h' : KPost X k pin a D F2 B H2 σ2 R := KPost.after (g1.lessP.trans g2) p2 h
      rw [← hl] at h'
      by_cases hlt : i < ds.length
      · have hget : ds[i]? = some ds[i] := List.getElem?_eq_getElem hlt
        obtain ⟨hgo, hy⟩ := itH.1 i _ hget
        rw [List.drop_eq_getElem_cons hlt] at hl h'
        unfold kForL at hl h'
        cases q3 : g ds[i] ρ2 with
        | none => rw [q3] at h'; exact h'.elim
        | some ρa =>
          rw [q3] at hl h'
          dsimp only at hl h'
          by_cases na : noneAt ρa k = true
          · rw [if_pos na] at hl h'
            refine .inr ⟨hgo, fun σ3 H3 => ∃ F3 kv3 ρ3, Gd F1 B H1 F3 H3 ∧ PinEq pin σ σ3 ∧ KS X.K k a kv3 F3 B H3 σ3 ρ3 ∧ kForL k g fb (ds.drop (i + 1)) kv3 ρ3 = R, fun σ3 H3 ⟨F3, kv3, ρ3, z⟩ => ⟨ds.length - (i + 1), by omega, rfl, hlt, F3, kv3, ρ3, z⟩, fun x H3 yy => ?_⟩
            have hyld : ∃ F3, Gd F2 (Bp B a) H2 F3 H3 ∧ ER X.K F3 (Bp B a) H3 σ2 ρ2 ∧ Rep X.K F3 H3 x ds[i] := by
              rcases hy x H3 yy with ⟨rfl, rx⟩ | ⟨T, tv, es, hT, rfl, rfl, e, rx⟩
              · exact ⟨F2, Gd.refl, S2.E, rx⟩
              · rw [e]
                exact ⟨_, (S2.E.newF hT).1, (S2.E.newF hT).2, S2.E.tupN hT rx⟩
            obtain ⟨F3, g3, E3, rx⟩ := hyld
            have S3 := S2.step g3 rfl E3 S2.r
            refine h2 F3 (Bp B a) σ2 H3 ρ2 x _ ρa E3 rx q3 _ fun σa Ea hwa => ?_
            have pa : PinEq pin σ2 σa := pinEq_wipe hwa hd
            have p1 : PinEq [k] σ2 σa := pinEq_wipe hwa (by simpa using h1v)
            have Sa := S3.step Gd.refl (p1 k (by simp)) Ea na
            refine h3 a kv2 F3 B σa H3 ρa _ Sa ?_
            have h'' := KPost.after g3.lessP pa h'
            cases q4 : fb kv2 ρa with
            | none => rw [q4] at h''; exact h''
            | some y =>
              obtain ⟨kv3, ρb⟩ := y
              rw [q4] at hl
              exact fun σb F4 H4 g4 p4 S4 => ⟨F4, kv3, ρb, g2.trans (g3.lessP.trans g4), p2.trans (pa.trans p4), S4, hl⟩
          · rw [if_neg na] at h'; exact h'.elim
      · have e : i = ds.length := by omega
        subst e
        rw [List.drop_length] at h'
        exact .inl ⟨itH.2, h' σ2 F2 H2 Gd.refl PinEq.refl S2⟩
    · exact h.elim
end
def sDict (k : Nat) (k0 : Str) (fe : EF) (fq : KF) : SF := fun ρ => match eFz fe ρ with
  | .ok (.val (.bool b)) ρ1 => if noneAt ρ1 k = true then (match fq [(k0, b)] ρ1 with
      | some (kv, ρ2) => .ret (.val (dctD kv)) ρ2
      | none => .stuck) else .stuck
  | _ => .stuck
section
variable {X : Cx} {C : Cof} {Z : WX} {k : Nat} {pin : List Nat}
theorem s_dict {x k0 : Str} {j : Nat} {e : Expr} {fe : EF} {fq : KF} {st : Stmt} {p1 p2 c1 dp pos rpos : Pos} (hN : X.N.Nodup) (h1 : X.N[k]? = some x) (hx : Loc X.env.scope x) (hv : Vis X.env.scope x) (he : PEr X C Z e fe) (hq : PK X k pin st fq) (hip : k ∉ pin)
    (hd : (x == ("__debug__" : Str)) = false := by decide) (hcd : (x == ("__classdict__" : Str)) = false := by decide)
    (hs : swapsWith (.Dict [some (.Constant (.str k0) j c1)] [e] dp) (some (.Name x p1)) pos.line X.env = pure false := by rfl)
    (hf : X.fn x = true ∨ X.env.scope.names.lookup x = some .local := by first | exact .inl rfl | exact .inr rfl) :
    PSsr X C Z pin [.Assign [.Name x p1] (.Dict [some (.Constant (.str k0) j c1)] [e] dp) pos, st, .Return (some (.Name x p2)) rpos] (sDict k k0 fe fq) := by
  obtain ⟨te, hte, hse⟩ := he.ex
  obtain ⟨tq, htq, hsq⟩ := hq.ex
  refine ⟨_, pss_cons (ps_set hN h1 hx (pe_disp (pps_cons pe_str hte pps_nil) rfl rfl (by simp) (by simp)) hs hf) (pss_cons htq (pss_one (ps_ret (pe_var h1 hv hd hcd)))), fun F B σ H ρ D E h => ?_⟩
  unfold sDict at h
  cases h2 : eFz fe ρ with
  | stuck => rw [h2] at h; exact h.elim
  | exc c ρ' => rw [h2] at h; exact h.elim
  | ok w ρ1 =>
    rw [h2] at h
    split at h
    · rename_i b ρ1' q2
      cases q2
      split at h
      · rename_i n1
        intro p hp
        obtain ⟨nFp, nBp, nMp⟩ := E.nofresh hp
        obtain ⟨gT, ET⟩ := E.newT (o := .dK []) hp
        have EA := ET.apart nMp (show _ = some (HO.dK []) from upd_same)
        have q := fzGo hse F (Bp B p) σ _ ρ EA
        rw [h2] at q
        refine q _ fun v F1 H1 g1 E1 rv => ?_
        have rv : Rep X.K F1 H1 v (.bool b) := rv
        cases rv
        have hp1 : H1 p = some (.dK []) := g1.st p _ (.inr (.inr rfl)) upd_same
        refine ⟨hp1, [(.inr k0, .bl b)], rfl, by simp, ?_⟩
        have em : mergeK [] [((.inr k0 : Key), V.bl b)] = [(k0, b)].map kvV := rfl
        rw [em]
        have nF1 : ¬ F1 p := fun z => nFp (g1.pr p (.inr rfl) z)
        have lt : k < σ.length := by
          have := (List.getElem?_eq_some_iff.mp (noneAt_eq n1)).1
          rw [E1.len]; exact this
        have gA : Gd F B H F1 (upd H1 p (.dK ([(k0, b)].map kvV))) := (gT.trans g1.lessP).trans (Gd.poke nF1 nBp)
        have S0 : KS X.K k p [(k0, b)] F1 B (upd H1 p (.dK ([(k0, b)].map kvV))) (σ.set k (some (.ref p))) ρ1 :=
          ⟨List.getElem?_set_self lt, upd_same, nF1, nBp, (E1.poke nF1 (.inr rfl)).setX (noneAt_eq n1), n1⟩
        show tq { D with nx := tRet (tVar k) D } (σ.set k (some (.ref p))) _
        refine hsq p _ F1 B _ _ ρ1 _ S0 ?_
        cases h3 : fq [(k0, b)] ρ1 with
        | none => rw [h3] at h; exact h.elim
        | some y =>
          obtain ⟨kv, ρ2⟩ := y
          rw [h3] at h
          dsimp only at h
          intro σ' F' H' g' p' S'
          refine ⟨_, S'.s, ?_⟩
          have nm : NotMut σ' ρ2 p := fun i ds hi hs2 => by
            obtain ⟨c, _, z1, _, _, z4, _⟩ := S'.E.mt i ds hi
            rw [hs2] at z1; cases z1
            exact z4 (.inr rfl)
          have E2 := S'.E.frzD nm S'.h
          have gz : Gd F' B H' (fun b => F' b ∨ b = p) H' := ⟨fun _ h => .inl h, fun _ _ _ h => h, fun b hb z => by
            rcases z with z | rfl
            · exact z
            · exact absurd hb S'.ba⟩
          have E3 : ER X.K (fun b => F' b ∨ b = p) B H' σ' ρ2 := E2.less fun b hb => .inl hb
          refine h _ σ' _ H' (gA.trans (g'.trans gz)) ((PinEq.set hip).trans p') E3 ?_
          exact .dct (.inr rfl) S'.h
      · exact h.elim
    · exact h.elim
end
end Ls
namespace Ls
open PySem PySem.Spec PyProof.Rows L2
theorem op_neD {X : Cx} (hu : X.A.units + 200 < cLine) : OpR X (compareOp .NotEq) rNeDA := op_ne_dictA (by omega)
end Ls
namespace Qk47
open PySem PySem.Spec PyProof.Rows L2 Ls
def top (i : Nat) : Stmt := PySem.Challenge.pw_lesssay_k47_true_at_settings.main.body.getD i (.Pass ⟨0, 0, 0, 0⟩)
abbrev s0 : Stmt := top 1
abbrev N0 : List Str := ["statement", "setting", "sign", "one", "other"]
abbrev s1 : Stmt := top 2
abbrev N1 : List Str := ["statement"]
abbrev s2 : Stmt := top 4
abbrev N2 : List Str := ["_law_script", "_law_k", "_law_seed", "_law_some"]
abbrev s3 : Stmt := top 5
abbrev N3 : List Str := ["_law_script", "_law_at", "_law_cell_here"]
abbrev s4 : Stmt := top 6
abbrev N4 : List Str := ["_law_bag_here", "_law_many", "_law_some"]
abbrev s5 : Stmt := top 7
abbrev N5 : List Str := ["_law_bag_here", "_law_many", "_law_small", "_law_word", "_law_long", "_law_k", "_law_at", "_law_first", "_law_found", "_law_name"]
abbrev s6 : Stmt := top 8
abbrev N6 : List Str := ["_law_bag_here", "_law_names_here", "_law_many", "_law_sign", "_law_near", "_law_one"]
abbrev s7 : Stmt := top 9
abbrev N7 : List Str := ["_law_statement_here", "_law_true_ones", "_law_near", "_law_far"]
abbrev s8 : Stmt := top 10
abbrev N8 : List Str := ["_law_bag_here", "_law_names_here", "_law_found", "_law_name", "_law_way"]
abbrev s9 : Stmt := top 11
abbrev N9 : List Str := ["_law_script", "_law_bag_here", "_law_names_here", "_law_settings", "_law_k", "_law_many", "_law_statement_here", "_law_setting_here", "_law_handed", "_law_due", "_law_found", "_law_name"]
def tbl : Nat → Option (Str × Nat)
  | 0 => some ("is_true", 2)
  | 1 => some ("twice", 1)
  | 2 => some ("_law_cell", 2)
  | 3 => some ("_law_bag", 2)
  | 4 => some ("_law_take", 2)
  | 5 => some ("_law_names", 2)
  | 6 => some ("_law_statement", 3)
  | 7 => some ("_law_true", 2)
  | 8 => some ("_law_setting", 2)
  | 9 => some ("law", 1)
  | _ => none
noncomputable def b0 (S : Nat → DF) : SF :=
  (sSeq (sIf (tTru (eCall1 (isiFn "str") (eV 0))) (sRet [] (eGetF (eV 1) (eV 0))) sNil)
    (sSeq (sAsg (gT 3 (gsCons (gN 2) (gsCons (gN 3) (gsCons (gN 4) gsNil)))) (eV 0))
    (sSeq (sIf (tBool (eBin eqOp (eV 2) (eC (.str "and")))) (sRet [] (eAnd (eCall [] (S 0) (aCons (eFz (eV 3)) (aCons (eFz (eV 1)) aNil))) (eCall [] (S 0) (aCons (eFz (eV 4)) (aCons (eFz (eV 1)) aNil))))) sNil)
    (sSeq (sIf (tBool (eBin eqOp (eV 2) (eC (.str "or")))) (sRet [] (eOr (eCall [] (S 0) (aCons (eFz (eV 3)) (aCons (eFz (eV 1)) aNil))) (eCall [] (S 0) (aCons (eFz (eV 4)) (aCons (eFz (eV 1)) aNil))))) sNil)
    (sRet [] (eOr (eCall [] (S 0) (aCons (eFz (eV 4)) (aCons (eFz (eV 1)) aNil))) (eNot (eCall [] (S 0) (aCons (eFz (eV 3)) (aCons (eFz (eV 1)) aNil))))))))))
noncomputable def b1 (S : Nat → DF) : SF :=
  (sRet [] (eTup (aCons (eC (.str "gives")) (aCons (eTup (aCons (eC (.str "gives")) (aCons (eFz (eV 0)) (aCons (eC (.str "nought")) aNil)))) (aCons (eC (.str "nought")) aNil)))))
noncomputable def b2 (S : Nat → DF) : SF :=
  (sSeq (sIf (tBool (eBin ltOp (eV 1) (eCall1 lenFn (eV 0)))) (sRet [] (eBin idxOp (eV 0) (eV 1))) sNil)
    (sSeq (sSet 2 (eBin mulOp (eV 1) (eC (.int 7919))))
    (sSeq (sIf (tBool (eBin gtOp (eCall1 lenFn (eV 0)) (eC (.int 0)))) (sSet 2 (eBin addOp (eV 2) (eBin modOp (eBin idxOp (eV 0) (eBin modOp (eV 1) (eCall1 lenFn (eV 0)))) (eC (.int 65537))))) sNil)
    (sSeq (sSet 3 (eBin modOp (eBin mulOp (eV 2) (eC (.int 48271))) (eC (.int 65537))))
    (sRet [] (eBin modOp (eBin fdivOp (eBin mulOp (eV 3) (eBin addOp (eBin addOp (eV 3) (eBin mulOp (eC (.int 2)) (eV 1))) (eC (.int 1)))) (eC (.int 7))) (eC (.int 65521))))))))
noncomputable def b3 (S : Nat → DF) : SF :=
  (sSeq (sSet 2 (eCall [] (S 2) (aCons (eFz (eV 0)) (aCons (eFz (eV 1)) aNil))))
    (sSeq (sIf (tEitherT (tBool (eBin geOp (eV 2) (eBin powOp (eC (.int 10)) (eC (.int 18))))) (tBool (eBin leOp (eV 2) (eNeg (eBin powOp (eC (.int 10)) (eC (.int 18))))))) (sRet [] (eLst (aCons (eFz (eV 2)) (aCons (eC (.int 0)) aNil)))) sNil)
    (sRet [] (eLst (aCons (eFz (eBin modOp (eV 2) (eC (.int 2147483647)))) (aCons (eFz (eBin addOp (eV 1) (eC (.int 1)))) aNil))))))
noncomputable def b4 (S : Nat → DF) : SF :=
  (sSeq (sIf (tBool (eBin eqOp (eBin idxOp (eV 0) (eC (.int 1))) (eC (.int 0)))) (sSeq (sSet 2 (eBin modOp (eBin idxOp (eV 0) (eC (.int 0))) (eV 1)))
    (sSeq (sSub 0 (eC (.int 0)) (eBin fdivOp (eBin idxOp (eV 0) (eC (.int 0))) (eV 1)))
    (sRet [0] (eV 2)))) sNil)
    (sSeq (sSub 0 (eC (.int 0)) (eBin modOp (eBin addOp (eBin addOp (eBin mulOp (eBin idxOp (eV 0) (eC (.int 0))) (eC (.int 48271))) (eBin mulOp (eBin mulOp (eC (.int 7919)) (eBin idxOp (eV 0) (eC (.int 1)))) (eBin idxOp (eV 0) (eC (.int 1))))) (eC (.int 17))) (eC (.int 2147483647))))
    (sSeq (sSub 0 (eC (.int 1)) (eBin addOp (eBin idxOp (eV 0) (eC (.int 1))) (eC (.int 1))))
    (sRet [0] (eBin modOp (eBin modOp (eBin mulOp (eBin idxOp (eV 0) (eC (.int 0))) (eC (.int 69621))) (eC (.int 2147483629))) (eV 1))))))
noncomputable def b5 (S : Nat → DF) : SF :=
  (sSeq (sSet 2 (eC (.str "abcdefghijklmnopqrstuvwxyz")))
    (sSeq (sSet 3 (eC (.str "")))
    (sSeq (sSet 4 (eCall [0] (S 4) (aCons (eV 0) (aCons (eC (.int 8)) aNil))))
    (sSeq (sFor (iRange1 (eV 4)) (gN 5)
    (sSet 3 (eBin addOp (eV 3) (eBin idxOp (eV 2) (eCall [0] (S 4) (aCons (eV 0) (aCons (eC (.int 26)) aNil)))))))
    (sSeq (sSet 6 (eCall [0] (S 4) (aCons (eV 0) (aCons (eFz (eBin addOp (eV 4) (eC (.int 1)))) aNil))))
    (sSeq (sIf (tBool (eBin eqOp (eCall [0] (S 4) (aCons (eV 0) (aCons (eC (.int 5)) aNil))) (eC (.int 1)))) (sSeq (sSet 3 (eBin idxOp (eLst (aCons (eC (.str "and")) (aCons (eC (.str "or")) (aCons (eC (.str "gives")) (aCons (eC (.str "nough")) aNil))))) (eCall [0] (S 4) (aCons (eV 0) (aCons (eC (.int 4)) aNil)))))
    (sSet 6 (eCall1 lenFn (eV 3)))) sNil)
    (sSeq (sSet 7 (eCall [0] (S 4) (aCons (eV 0) (aCons (eC (.int 26)) aNil))))
    (sSeq (sSet 8 (eLst aNil))
    (sSeq (sFor (iRange1 (eC (.int 26))) (gN 5)
    (sSeq (sSet 9 (eBin addOp (eBin addOp (eSl (eV 3) oNone (oSome (eV 6))) (eBin idxOp (eV 2) (eBin modOp (eBin addOp (eV 7) (eBin mulOp (eC (.int 5)) (eV 5))) (eC (.int 26))))) (eSl (eV 3) (oSome (eV 6)) oNone)))
    (sIf (tBothT (tBool (eBin ninOp (eV 9) (eLst (aCons (eC (.str "nought")) (aCons (eC (.str "and")) (aCons (eC (.str "or")) (aCons (eC (.str "gives")) aNil))))))) (tBool (eBin ltOp (eCall1 lenFn (eV 8)) (eV 1)))) (sExpr (eMut 8 appendM (aCons (eFz (eV 9)) aNil))) sNil)))
    (sRet [0] (eV 8)))))))))))
noncomputable def b6 (S : Nat → DF) : SF :=
  (sSeq (sIf (tBool (eBin eqOp (eV 2) (eC (.int 0)))) (sRet [0] (eBin idxOp (eBin addOp (eBin addOp (eV 1) (eV 1)) (eLst (aCons (eC (.str "nought")) aNil))) (eCall [0] (S 4) (aCons (eV 0) (aCons (eFz (eBin addOp (eBin mulOp (eC (.int 2)) (eCall1 lenFn (eV 1))) (eC (.int 1)))) aNil))))) sNil)
    (sSeq (sSet 3 (eBin idxOp (eLst (aCons (eC (.str "and")) (aCons (eC (.str "or")) (aCons (eC (.str "gives")) (aCons (eC (.str "gives")) (aCons (eC (.str "gives")) aNil)))))) (eCall [0] (S 4) (aCons (eV 0) (aCons (eC (.int 5)) aNil)))))
    (sSeq (sSet 4 (eCall [0] (S 4) (aCons (eV 0) (aCons (eFz (eV 2)) aNil))))
    (sSeq (sSet 5 (eCall [0] (S 6) (aCons (eV 0) (aCons (eFz (eV 1)) (aCons (eFz (eV 4)) aNil)))))
    (sRet [0] (eTup (aCons (eFz (eV 3)) (aCons (eFz (eV 5)) (aCons (eFz (eCall [0] (S 6) (aCons (eV 0) (aCons (eFz (eV 1)) (aCons (eFz (eBin subOp (eBin subOp (eV 2) (eC (.int 1))) (eV 4))) aNil))))) aNil)))))))))
noncomputable def b7 (S : Nat → DF) : SF :=
  (sSeq (sIf (tNegT (tTru (eCall1 (isiFn "tuple") (eV 0)))) (sRet [] (eBin inOp (eV 0) (eV 1))) sNil)
    (sSeq (sSet 2 (eFz (eCall [] (S 7) (aCons (eFz (eBin idxOp (eV 0) (eC (.int 1)))) (aCons (eFz (eV 1)) aNil)))))
    (sSeq (sSet 3 (eFz (eCall [] (S 7) (aCons (eFz (eBin idxOp (eV 0) (eC (.int 2)))) (aCons (eFz (eV 1)) aNil)))))
    (sSeq (sIf (tBool (eBin eqOp (eBin idxOp (eV 0) (eC (.int 0))) (eC (.str "and")))) (sRet [] (eAnd (eV 2) (eV 3))) sNil)
    (sSeq (sIf (tBool (eBin eqOp (eBin idxOp (eV 0) (eC (.int 0))) (eC (.str "or")))) (sRet [] (eOr (eV 2) (eV 3))) sNil)
    (sRet [] (eOr (eV 3) (eNot (eV 2)))))))))
noncomputable def b8 (S : Nat → DF) : SF :=
  (sDict 2 "zz" (eBin eqOp (eCall [0] (S 4) (aCons (eV 0) (aCons (eC (.int 2)) aNil))) (eC (.int 0))) (kFor 2 (iSeq (eV 1)) (gN 3) (kSeq (kOwn 2 (sSet 4 (eCall [0] (S 4) (aCons (eV 0) (aCons (eC (.int 5)) aNil))))) (kIfPut 2 (tBool (eBin ltOp (eV 4) (eC (.int 4)))) (eV 3) (eBin eqOp (eBin modOp (eV 4) (eC (.int 2))) (eC (.int 0)))))))
noncomputable def b9 (S : Nat → DF) : SF :=
  (sSeq (sSet 1 (eCall [] (S 3) (aCons (eFz (eV 0)) (aCons (eC (.int 0)) aNil))))
    (sSeq (sSet 2 (eFz (eCall [0] (S 5) (aCons (eV 1) (aCons (eFz (eBin addOp (eC (.int 1)) (eCall [0] (S 4) (aCons (eV 1) (aCons (eC (.int 4)) aNil))))) aNil)))))
    (sSeq (sSet 3 (eFz (eBin addOp (eLc [4] (iRange1 (eC (.int 2))) (gN 4) tYesT (eCall [0] (S 8) (aCons (eCall [] (S 3) (aCons (eFz (eV 0)) (aCons (eFz (eBin addOp (eC (.int 1)) (eV 4))) aNil))) (aCons (eFz (eV 2)) aNil)))) (eLst (aCons (eC (dctD [])) aNil)))))
    (sSeq (sFor (iRange1 (eC (.int 6))) (gN 4)
    (sSeq (sSet 1 (eCall [] (S 3) (aCons (eFz (eV 0)) (aCons (eFz (eBin addOp (eC (.int 3)) (eV 4))) aNil))))
    (sSeq (sSet 5 (eCall [0] (S 4) (aCons (eV 1) (aCons (eC (.int 7)) aNil))))
    (sSeq (sIf (tBool (eBin eqOp (eCall [0] (S 4) (aCons (eV 1) (aCons (eC (.int 4)) aNil))) (eC (.int 3)))) (sSet 5 (eC (.int 10))) sNil)
    (sSeq (sSet 6 (eCall [0] (S 6) (aCons (eV 1) (aCons (eFz (eV 2)) (aCons (eFz (eV 5)) aNil)))))
    (sSeq (sIf (tBool (eBin neOp (eCall [] (S 1) (aCons (eFz (eV 6)) aNil)) (eTup (aCons (eC (.str "gives")) (aCons (eTup (aCons (eC (.str "gives")) (aCons (eFz (eV 6)) (aCons (eC (.str "nought")) aNil)))) (aCons (eC (.str "nought")) aNil)))))) (sRet [] (eC (.bool false))) sNil)
    (sFor (iSeq (eV 3)) (gN 7)
    (sSeq (sSet 8 (eFz (eCall1 dictFn (eV 7))))
    (sSeq (sSet 9 (eFz (eCall [] (S 7) (aCons (eFz (eV 6)) (aCons (eFz (eLc [11] (iSeq (eV 2)) (gN 11) (tTru (eGetF (eV 7) (eV 11))) (eV 11))) aNil)))))
    (sSeq (sSet 10 (eFz (eCall [] (S 0) (aCons (eFz (eV 6)) (aCons (eFz (eV 8)) aNil)))))
    (sIf (tEitherT (tNegT (tTru (eCall1 (isiFn "bool") (eV 10)))) (tEitherT (tBool (eBin neOp (eV 10) (eV 9))) (tBool (eBin neDOp (eV 8) (eV 7))))) (sRet [] (eC (.bool false))) sNil)))))))))))
    (sRet [] (eC (.bool true)))))))
noncomputable def sem : Nat → Nat → DF
  | 0, _ => fun _ => .stuck
  | k + 1, 0 => runB [] 5 (b0 (sem k))
  | k + 1, 1 => runB [] 1 (b1 (sem k))
  | k + 1, 2 => runB [] 4 (b2 (sem k))
  | k + 1, 3 => runB [] 3 (b3 (sem k))
  | k + 1, 4 => runB [0] 3 (b4 (sem k))
  | k + 1, 5 => runB [0] 10 (b5 (sem k))
  | k + 1, 6 => runB [0] 6 (b6 (sem k))
  | k + 1, 7 => runB [] 4 (b7 (sem k))
  | k + 1, 8 => runB [0] 5 (b8 (sem k))
  | k + 1, 9 => runB [] 12 (b9 (sem k))
  | _ + 1, _ => fun _ => .stuck
end Qk47
namespace Qk47
open PySem PySem.Spec PyProof.Rows L2 Ls
structure Tops (K : PySem.W.Frag) (mg : Str → Option Value) : Prop where
  b_bool : mg "bool" = none
  b_dict : mg "dict" = none
  b_isinstance : mg "isinstance" = none
  b_len : mg "len" = none
  b_range : mg "range" = none
  b_str : mg "str" = none
  b_tuple : mg "tuple" = none
structure KnA (P : Program) (w : World) (K : PySem.W.Frag) (mg : Str → Option Value) (base : Heap) (k : Nat) : Prop where
  k0 : Kn P w K mg base (cof mg) k "is_true" 2 (sem k 0)
  k1 : Kn P w K mg base (cof mg) k "twice" 1 (sem k 1)
  k2 : Kn P w K mg base (cof mg) k "_law_cell" 2 (sem k 2)
  k3 : Kn P w K mg base (cof mg) k "_law_bag" 2 (sem k 3)
  k4 : Kn P w K mg base (cof mg) k "_law_take" 2 (sem k 4)
  k5 : Kn P w K mg base (cof mg) k "_law_names" 2 (sem k 5)
  k6 : Kn P w K mg base (cof mg) k "_law_statement" 3 (sem k 6)
  k7 : Kn P w K mg base (cof mg) k "_law_true" 2 (sem k 7)
  k8 : Kn P w K mg base (cof mg) k "_law_setting" 2 (sem k 8)
  k9 : Kn P w K mg base (cof mg) k "law" 1 (sem k 9)
structure Fts (K : PySem.W.Frag) (mg : Str → Option Value) : Prop where
  f0 : FT K mg "is_true" s0 ["statement", "setting"]
  f1 : FT K mg "twice" s1 ["statement"]
  f2 : FT K mg "_law_cell" s2 ["_law_script", "_law_k"]
  f3 : FT K mg "_law_bag" s3 ["_law_script", "_law_at"]
  f4 : FT K mg "_law_take" s4 ["_law_bag_here", "_law_many"]
  f5 : FT K mg "_law_names" s5 ["_law_bag_here", "_law_many"]
  f6 : FT K mg "_law_statement" s6 ["_law_bag_here", "_law_names_here", "_law_many"]
  f7 : FT K mg "_law_true" s7 ["_law_statement_here", "_law_true_ones"]
  f8 : FT K mg "_law_setting" s8 ["_law_bag_here", "_law_names_here"]
  f9 : FT K mg "law" s9 ["_law_script"]
section
variable {P : Program} {w : World} {K : PySem.W.Frag} {mg : Str → Option Value} {base : Heap} {k : Nat}
theorem sc0 : FnScope N0 ["statement", "setting"] (defScope s0) := ⟨rfl, rfl, rfl, by decide +kernel, rfl, by decide +kernel, by decide +kernel⟩
theorem ok0 {f : Addr} {fd : FuncData} (F : Fun K "is_true" "is_true" s0 f fd) (T : Tops K mg) (KN : KnA P w K mg base k) : FnM P w K mg base (k + 1) f fd ["statement", "setting"] (spM (cof mg) K 2 (sem (k + 1) 0)) := by
  refine ls_fn F sc0 rfl fun cdv A outer s H E hr => ?_
  have hu := hu200 hr
  have tk := tkD (P := P) (w := w) (K := K) (mg := mg) (base := base) (N := N0) (qual := "is_true") (scope := defScope s0) (f := f) (cdv := cdv) (A := A) (outer := outer) (s := s) (H := H) (E := E)
  have po := poD (P := P) (w := w) (K := K) (mg := mg) (base := base) (N := N0) (qual := "is_true") (scope := defScope s0) (f := f) (cdv := cdv) (A := A) (outer := outer) (s := s) (H := H) (E := E)
  exact (s_cons (s_if (rt_tru (r_isi T.b_isinstance (r_v 0) T.b_str)) (s_one (s_ret (r_getF hu (r_v 1) (r_v 0)))) s_nil)
    (s_cons (s_asg (vs := [2, 3, 4]) (rg_t rfl (rgs_cons (rg_n sc0.nd rfl (by first | exact Or.inl rfl | exact Or.inr rfl)) (rgs_cons (rg_n sc0.nd rfl (by first | exact Or.inl rfl | exact Or.inr rfl)) (rgs_cons (rg_n sc0.nd rfl (by first | exact Or.inl rfl | exact Or.inr rfl)) rgs_nil)))) (r_v 0))
    (s_cons (s_if (rt_cmp (op_eqX hu) b_eq (r_v 2) r_str) (s_one (s_ret (r_and (r_call [] KN.k0 hr tk (ra_cons (r_fz (r_v 3)) (ra_cons (r_fz (r_v 1)) ra_nil)) (hl := (an_cons (an_cons an_nil)))) (r_one (r_call [] KN.k0 hr tk (ra_cons (r_fz (r_v 4)) (ra_cons (r_fz (r_v 1)) ra_nil)) (hl := (an_cons (an_cons an_nil)))))))) s_nil)
    (s_cons (s_if (rt_cmp (op_eqX hu) b_eq (r_v 2) r_str) (s_one (s_ret (r_or (r_call [] KN.k0 hr tk (ra_cons (r_fz (r_v 3)) (ra_cons (r_fz (r_v 1)) ra_nil)) (hl := (an_cons (an_cons an_nil)))) (r_one (r_call [] KN.k0 hr tk (ra_cons (r_fz (r_v 4)) (ra_cons (r_fz (r_v 1)) ra_nil)) (hl := (an_cons (an_cons an_nil)))))))) s_nil)
    (s_one (s_ret (r_or (r_call [] KN.k0 hr tk (ra_cons (r_fz (r_v 4)) (ra_cons (r_fz (r_v 1)) ra_nil)) (hl := (an_cons (an_cons an_nil)))) (r_one (r_not (r_call [] KN.k0 hr tk (ra_cons (r_fz (r_v 3)) (ra_cons (r_fz (r_v 1)) ra_nil)) (hl := (an_cons (an_cons an_nil)))))))))))))
theorem sc1 : FnScope N1 ["statement"] (defScope s1) := ⟨rfl, rfl, rfl, by decide +kernel, rfl, by decide +kernel, by decide +kernel⟩
theorem ok1 {f : Addr} {fd : FuncData} (F : Fun K "twice" "twice" s1 f fd) (T : Tops K mg) (KN : KnA P w K mg base k) : FnM P w K mg base (k + 1) f fd ["statement"] (spM (cof mg) K 1 (sem (k + 1) 1)) := by
  refine ls_fn F sc1 rfl fun cdv A outer s H E hr => ?_
  have hu := hu200 hr
  have tk := tkD (P := P) (w := w) (K := K) (mg := mg) (base := base) (N := N1) (qual := "twice") (scope := defScope s1) (f := f) (cdv := cdv) (A := A) (outer := outer) (s := s) (H := H) (E := E)
  have po := poD (P := P) (w := w) (K := K) (mg := mg) (base := base) (N := N1) (qual := "twice") (scope := defScope s1) (f := f) (cdv := cdv) (A := A) (outer := outer) (s := s) (H := H) (E := E)
  exact (s_one (s_ret (r_tup (ra_cons r_str (ra_cons (r_tup (ra_cons r_str (ra_cons (r_fz (r_v 0)) (ra_cons r_str ra_nil)))) (ra_cons r_str ra_nil))))))
theorem sc2 : FnScope N2 ["_law_script", "_law_k"] (defScope s2) := ⟨rfl, rfl, rfl, by decide +kernel, rfl, by decide +kernel, by decide +kernel⟩
theorem ok2 {f : Addr} {fd : FuncData} (F : Fun K "_law_cell" "_law_cell" s2 f fd) (T : Tops K mg) (KN : KnA P w K mg base k) : FnM P w K mg base (k + 1) f fd ["_law_script", "_law_k"] (spM (cof mg) K 2 (sem (k + 1) 2)) := by
  refine ls_fn F sc2 rfl fun cdv A outer s H E hr => ?_
  have hu := hu200 hr
  have tk := tkD (P := P) (w := w) (K := K) (mg := mg) (base := base) (N := N2) (qual := "_law_cell") (scope := defScope s2) (f := f) (cdv := cdv) (A := A) (outer := outer) (s := s) (H := H) (E := E)
  have po := poD (P := P) (w := w) (K := K) (mg := mg) (base := base) (N := N2) (qual := "_law_cell") (scope := defScope s2) (f := f) (cdv := cdv) (A := A) (outer := outer) (s := s) (H := H) (E := E)
  exact (s_cons (s_if (rt_cmp op_lt b_lt (r_v 1) (r_callB c_lenA k_len T.b_len (r_v 0))) (s_one (s_ret (r_idx (r_v 0) (r_v 1)))) s_nil)
    (s_cons (s_set 2 sc2.nd (r_op op_mul b_mul (r_v 1) r_int))
    (s_cons (s_if (rt_cmp op_gt b_gt (r_callB c_lenA k_len T.b_len (r_v 0)) r_int) (s_one (s_set 2 sc2.nd (r_op op_addA b_add (r_v 2) (r_op op_mod b_mod (r_idx (r_v 0) (r_op op_mod b_mod (r_v 1) (r_callB c_lenA k_len T.b_len (r_v 0)))) r_int)))) s_nil)
    (s_cons (s_set 3 sc2.nd (r_op op_mod b_mod (r_op op_mul b_mul (r_v 2) r_int) r_int))
    (s_one (s_ret (r_op op_mod b_mod (r_op op_fdiv b_fdiv (r_op op_mul b_mul (r_v 3) (r_op op_addA b_add (r_op op_addA b_add (r_v 3) (r_op op_mul b_mul r_int (r_v 1))) r_int)) r_int) r_int)))))))
theorem sc3 : FnScope N3 ["_law_script", "_law_at"] (defScope s3) := ⟨rfl, rfl, rfl, by decide +kernel, rfl, by decide +kernel, by decide +kernel⟩
theorem ok3 {f : Addr} {fd : FuncData} (F : Fun K "_law_bag" "_law_bag" s3 f fd) (T : Tops K mg) (KN : KnA P w K mg base k) : FnM P w K mg base (k + 1) f fd ["_law_script", "_law_at"] (spM (cof mg) K 2 (sem (k + 1) 3)) := by
  refine ls_fn F sc3 rfl fun cdv A outer s H E hr => ?_
  have hu := hu200 hr
  have tk := tkD (P := P) (w := w) (K := K) (mg := mg) (base := base) (N := N3) (qual := "_law_bag") (scope := defScope s3) (f := f) (cdv := cdv) (A := A) (outer := outer) (s := s) (H := H) (E := E)
  have po := poD (P := P) (w := w) (K := K) (mg := mg) (base := base) (N := N3) (qual := "_law_bag") (scope := defScope s3) (f := f) (cdv := cdv) (A := A) (outer := outer) (s := s) (H := H) (E := E)
  exact (s_cons (s_set 2 sc3.nd (r_call [] KN.k2 hr tk (ra_cons (r_fz (r_v 0)) (ra_cons (r_fz (r_v 1)) ra_nil)) (hl := (an_cons (an_cons an_nil)))))
    (s_cons (s_if (rt_w (rw_or (rt_cmp op_ge b_ge (r_v 2) (r_op op_pow b_pow r_int r_int)) (rw_or1 (rt_cmp op_leA b_le (r_v 2) (r_neg (r_op op_pow b_pow r_int r_int)))))) (s_one (s_ret (r_lst (ra_cons (r_fz (r_v 2)) (ra_cons r_int ra_nil))))) s_nil)
    (s_one (s_ret (r_lst (ra_cons (r_fz (r_op op_mod b_mod (r_v 2) r_int)) (ra_cons (r_fz (r_op op_addA b_add (r_v 1) r_int)) ra_nil)))))))
theorem sc4 : FnScope N4 ["_law_bag_here", "_law_many"] (defScope s4) := ⟨rfl, rfl, rfl, by decide +kernel, rfl, by decide +kernel, by decide +kernel⟩
theorem ok4 {f : Addr} {fd : FuncData} (F : Fun K "_law_take" "_law_take" s4 f fd) (T : Tops K mg) (KN : KnA P w K mg base k) : FnM P w K mg base (k + 1) f fd ["_law_bag_here", "_law_many"] (spM (cof mg) K 2 (sem (k + 1) 4)) := by
  refine ls_fn F sc4 rfl fun cdv A outer s H E hr => ?_
  have hu := hu200 hr
  have tk := tkD (P := P) (w := w) (K := K) (mg := mg) (base := base) (N := N4) (qual := "_law_take") (scope := defScope s4) (f := f) (cdv := cdv) (A := A) (outer := outer) (s := s) (H := H) (E := E)
  have po := poD (P := P) (w := w) (K := K) (mg := mg) (base := base) (N := N4) (qual := "_law_take") (scope := defScope s4) (f := f) (cdv := cdv) (A := A) (outer := outer) (s := s) (H := H) (E := E)
  exact (s_cons (s_if (rt_cmp (op_eqX hu) b_eq (r_idx (r_v 0) r_int) r_int) (s_cons (s_set 2 sc4.nd (r_op op_mod b_mod (r_idx (r_v 0) r_int) (r_v 1)))
    (s_cons (s_sub 0 (r_op op_fdiv b_fdiv (r_idx (r_v 0) r_int) (r_v 1)) r_int)
    (s_one (s_ret (r_v 2))))) s_nil)
    (s_cons (s_sub 0 (r_op op_mod b_mod (r_op op_addA b_add (r_op op_addA b_add (r_op op_mul b_mul (r_idx (r_v 0) r_int) r_int) (r_op op_mul b_mul (r_op op_mul b_mul r_int (r_idx (r_v 0) r_int)) (r_idx (r_v 0) r_int))) r_int) r_int) r_int)
    (s_cons (s_sub 0 (r_op op_addA b_add (r_idx (r_v 0) r_int) r_int) r_int)
    (s_one (s_ret (r_op op_mod b_mod (r_op op_mod b_mod (r_op op_mul b_mul (r_idx (r_v 0) r_int) r_int) r_int) (r_v 1)))))))
theorem sc5 : FnScope N5 ["_law_bag_here", "_law_many"] (defScope s5) := ⟨rfl, rfl, rfl, by decide +kernel, rfl, by decide +kernel, by decide +kernel⟩
theorem ok5 {f : Addr} {fd : FuncData} (F : Fun K "_law_names" "_law_names" s5 f fd) (T : Tops K mg) (KN : KnA P w K mg base k) : FnM P w K mg base (k + 1) f fd ["_law_bag_here", "_law_many"] (spM (cof mg) K 2 (sem (k + 1) 5)) := by
  refine ls_fn F sc5 rfl fun cdv A outer s H E hr => ?_
  have hu := hu200 hr
  have tk := tkD (P := P) (w := w) (K := K) (mg := mg) (base := base) (N := N5) (qual := "_law_names") (scope := defScope s5) (f := f) (cdv := cdv) (A := A) (outer := outer) (s := s) (H := H) (E := E)
  have po := poD (P := P) (w := w) (K := K) (mg := mg) (base := base) (N := N5) (qual := "_law_names") (scope := defScope s5) (f := f) (cdv := cdv) (A := A) (outer := outer) (s := s) (H := H) (E := E)
  exact (s_cons (s_set 2 sc5.nd r_str)
    (s_cons (s_set 3 sc5.nd r_str)
    (s_cons (s_set 4 sc5.nd (r_call [0] KN.k4 hr tk (ra_cons (r_v 0) (ra_cons r_int ra_nil)) (hl := (an_cons (an_cons an_nil)))))
    (s_cons (s_for (vs := [5]) po rfl (ri_range1 T.b_range (r_v 4)) (rg_n sc5.nd rfl (by first | exact Or.inl rfl | exact Or.inr rfl))
    (s_one (s_set 3 sc5.nd (r_op op_addA b_add (r_v 3) (r_idx (r_v 2) (r_call [0] KN.k4 hr tk (ra_cons (r_v 0) (ra_cons r_int ra_nil)) (hl := (an_cons (an_cons an_nil)))))))))
    (s_cons (s_set 6 sc5.nd (r_call [0] KN.k4 hr tk (ra_cons (r_v 0) (ra_cons (r_fz (r_op op_addA b_add (r_v 4) r_int)) ra_nil)) (hl := (an_cons (an_cons an_nil)))))
    (s_cons (s_if (rt_cmp (op_eqX hu) b_eq (r_call [0] KN.k4 hr tk (ra_cons (r_v 0) (ra_cons r_int ra_nil)) (hl := (an_cons (an_cons an_nil)))) r_int) (s_cons (s_set 3 sc5.nd (r_idx (r_lst (ra_cons r_str (ra_cons r_str (ra_cons r_str (ra_cons r_str ra_nil))))) (r_call [0] KN.k4 hr tk (ra_cons (r_v 0) (ra_cons r_int ra_nil)) (hl := (an_cons (an_cons an_nil))))))
    (s_one (s_set 6 sc5.nd (r_callB c_lenA k_len T.b_len (r_v 3))))) s_nil)
    (s_cons (s_set 7 sc5.nd (r_call [0] KN.k4 hr tk (ra_cons (r_v 0) (ra_cons r_int ra_nil)) (hl := (an_cons (an_cons an_nil)))))
    (s_cons (s_set 8 sc5.nd (r_lst ra_nil))
    (s_cons (s_for (vs := [5]) po rfl (ri_range1 T.b_range r_int) (rg_n sc5.nd rfl (by first | exact Or.inl rfl | exact Or.inr rfl))
    (s_cons (s_set 9 sc5.nd (r_op op_addA b_add (r_op op_addA b_add (r_sl (r_v 3) ro_none (ro_some (r_v 6))) (r_idx (r_v 2) (r_op op_mod b_mod (r_op op_addA b_add (r_v 7) (r_op op_mul b_mul r_int (r_v 5))) r_int))) (r_sl (r_v 3) (ro_some (r_v 6)) ro_none)))
    (s_one (s_if (rt_w (rw_and (rt_cmp (op_ninA hu) b_nin (r_v 9) (r_lst (ra_cons r_str (ra_cons r_str (ra_cons r_str (ra_cons r_str ra_nil)))))) (rw_and1 (rt_cmp op_lt b_lt (r_callB c_lenA k_len T.b_len (r_v 8)) (r_v 1))))) (s_one (s_expr (r_mut 8 PySem.F.slot_list_append PySem.F.type_list_append mt_append m_append rfl (by first | exact Or.inl rfl | exact Or.inr (Or.inl rfl) | exact Or.inr (Or.inr rfl)) (ra_cons (r_fz (r_v 9)) ra_nil)))) s_nil))))
    (s_one (s_ret (r_v 8))))))))))))
theorem sc6 : FnScope N6 ["_law_bag_here", "_law_names_here", "_law_many"] (defScope s6) := ⟨rfl, rfl, rfl, by decide +kernel, rfl, by decide +kernel, by decide +kernel⟩
theorem ok6 {f : Addr} {fd : FuncData} (F : Fun K "_law_statement" "_law_statement" s6 f fd) (T : Tops K mg) (KN : KnA P w K mg base k) : FnM P w K mg base (k + 1) f fd ["_law_bag_here", "_law_names_here", "_law_many"] (spM (cof mg) K 3 (sem (k + 1) 6)) := by
  refine ls_fn F sc6 rfl fun cdv A outer s H E hr => ?_
  have hu := hu200 hr
  have tk := tkD (P := P) (w := w) (K := K) (mg := mg) (base := base) (N := N6) (qual := "_law_statement") (scope := defScope s6) (f := f) (cdv := cdv) (A := A) (outer := outer) (s := s) (H := H) (E := E)
  have po := poD (P := P) (w := w) (K := K) (mg := mg) (base := base) (N := N6) (qual := "_law_statement") (scope := defScope s6) (f := f) (cdv := cdv) (A := A) (outer := outer) (s := s) (H := H) (E := E)
  exact (s_cons (s_if (rt_cmp (op_eqX hu) b_eq (r_v 2) r_int) (s_one (s_ret (r_idx (r_op op_addA b_add (r_op op_addA b_add (r_v 1) (r_v 1)) (r_lst (ra_cons r_str ra_nil))) (r_call [0] KN.k4 hr tk (ra_cons (r_v 0) (ra_cons (r_fz (r_op op_addA b_add (r_op op_mul b_mul r_int (r_callB c_lenA k_len T.b_len (r_v 1))) r_int)) ra_nil)) (hl := (an_cons (an_cons an_nil))))))) s_nil)
    (s_cons (s_set 3 sc6.nd (r_idx (r_lst (ra_cons r_str (ra_cons r_str (ra_cons r_str (ra_cons r_str (ra_cons r_str ra_nil)))))) (r_call [0] KN.k4 hr tk (ra_cons (r_v 0) (ra_cons r_int ra_nil)) (hl := (an_cons (an_cons an_nil))))))
    (s_cons (s_set 4 sc6.nd (r_call [0] KN.k4 hr tk (ra_cons (r_v 0) (ra_cons (r_fz (r_v 2)) ra_nil)) (hl := (an_cons (an_cons an_nil)))))
    (s_cons (s_set 5 sc6.nd (r_call [0] KN.k6 hr tk (ra_cons (r_v 0) (ra_cons (r_fz (r_v 1)) (ra_cons (r_fz (r_v 4)) ra_nil))) (hl := (an_cons (an_cons (an_cons an_nil))))))
    (s_one (s_ret (r_tup (ra_cons (r_fz (r_v 3)) (ra_cons (r_fz (r_v 5)) (ra_cons (r_fz (r_call [0] KN.k6 hr tk (ra_cons (r_v 0) (ra_cons (r_fz (r_v 1)) (ra_cons (r_fz (r_op op_sub b_sub (r_op op_sub b_sub (r_v 2) r_int) (r_v 4))) ra_nil))) (hl := (an_cons (an_cons (an_cons an_nil)))))) ra_nil))))))))))
theorem sc7 : FnScope N7 ["_law_statement_here", "_law_true_ones"] (defScope s7) := ⟨rfl, rfl, rfl, by decide +kernel, rfl, by decide +kernel, by decide +kernel⟩
theorem ok7 {f : Addr} {fd : FuncData} (F : Fun K "_law_true" "_law_true" s7 f fd) (T : Tops K mg) (KN : KnA P w K mg base k) : FnM P w K mg base (k + 1) f fd ["_law_statement_here", "_law_true_ones"] (spM (cof mg) K 2 (sem (k + 1) 7)) := by
  refine ls_fn F sc7 rfl fun cdv A outer s H E hr => ?_
  have hu := hu200 hr
  have tk := tkD (P := P) (w := w) (K := K) (mg := mg) (base := base) (N := N7) (qual := "_law_true") (scope := defScope s7) (f := f) (cdv := cdv) (A := A) (outer := outer) (s := s) (H := H) (E := E)
  have po := poD (P := P) (w := w) (K := K) (mg := mg) (base := base) (N := N7) (qual := "_law_true") (scope := defScope s7) (f := f) (cdv := cdv) (A := A) (outer := outer) (s := s) (H := H) (E := E)
  exact (s_cons (s_if (rt_not (rt_tru (r_isi T.b_isinstance (r_v 0) T.b_tuple))) (s_one (s_ret (r_cmp (op_inA hu) b_in (r_v 0) (r_v 1)))) s_nil)
    (s_cons (s_set 2 sc7.nd (r_fz (r_call [] KN.k7 hr tk (ra_cons (r_fz (r_idx (r_v 0) r_int)) (ra_cons (r_fz (r_v 1)) ra_nil)) (hl := (an_cons (an_cons an_nil))))))
    (s_cons (s_set 3 sc7.nd (r_fz (r_call [] KN.k7 hr tk (ra_cons (r_fz (r_idx (r_v 0) r_int)) (ra_cons (r_fz (r_v 1)) ra_nil)) (hl := (an_cons (an_cons an_nil))))))
    (s_cons (s_if (rt_cmp (op_eqX hu) b_eq (r_idx (r_v 0) r_int) r_str) (s_one (s_ret (r_and (r_v 2) (r_one (r_v 3))))) s_nil)
    (s_cons (s_if (rt_cmp (op_eqX hu) b_eq (r_idx (r_v 0) r_int) r_str) (s_one (s_ret (r_or (r_v 2) (r_one (r_v 3))))) s_nil)
    (s_one (s_ret (r_or (r_v 3) (r_one (r_not (r_v 2)))))))))))
theorem sc8 : FnScope N8 ["_law_bag_here", "_law_names_here"] (defScope s8) := ⟨rfl, rfl, rfl, by decide +kernel, rfl, by decide +kernel, by decide +kernel⟩
theorem ok8 {f : Addr} {fd : FuncData} (F : Fun K "_law_setting" "_law_setting" s8 f fd) (T : Tops K mg) (KN : KnA P w K mg base k) : FnM P w K mg base (k + 1) f fd ["_law_bag_here", "_law_names_here"] (spM (cof mg) K 2 (sem (k + 1) 8)) := by
  refine ls_fn F sc8 rfl fun cdv A outer s H E hr => ?_
  have hu := hu200 hr
  have tk := tkD (P := P) (w := w) (K := K) (mg := mg) (base := base) (N := N8) (qual := "_law_setting") (scope := defScope s8) (f := f) (cdv := cdv) (A := A) (outer := outer) (s := s) (H := H) (E := E)
  have po := poD (P := P) (w := w) (K := K) (mg := mg) (base := base) (N := N8) (qual := "_law_setting") (scope := defScope s8) (f := f) (cdv := cdv) (A := A) (outer := outer) (s := s) (H := H) (E := E)
  exact (s_dict sc8.nd rfl (by first | exact Or.inl rfl | exact Or.inr rfl) (by first | exact Or.inl rfl | exact Or.inr (Or.inl rfl) | exact Or.inr (Or.inr rfl)) (r_cmp (op_eqX hu) b_eq (r_call [0] KN.k4 hr tk (ra_cons (r_v 0) (ra_cons r_int ra_nil)) (hl := (an_cons (an_cons an_nil)))) r_int) (k_for (C := cof mg) (Z := fun cls d _ H' => E cls d H') (vs := [3]) po rfl (ri_seq (r_v 1)) (rg_n sc8.nd rfl (by first | exact Or.inl rfl | exact Or.inr rfl)) (k_cons (k_own (C := cof mg) (Z := fun cls d _ H' => E cls d H') (s_set 4 sc8.nd (r_call [0] KN.k4 hr tk (ra_cons (r_v 0) (ra_cons r_int ra_nil)) (hl := (an_cons (an_cons an_nil)))))) (k_one (k_ifput (C := cof mg) (Z := fun cls d _ H' => E cls d H') hu (rt_cmp op_lt b_lt (r_v 4) r_int) (r_v 3) (r_cmp (op_eqX hu) b_eq (r_op op_mod b_mod (r_v 4) r_int) r_int) rfl (by first | exact Or.inl rfl | exact Or.inr (Or.inl rfl) | exact Or.inr (Or.inr rfl)))))) (by decide))
theorem sc9 : FnScope N9 ["_law_script"] (defScope s9) := ⟨rfl, rfl, rfl, by decide +kernel, rfl, by decide +kernel, by decide +kernel⟩
theorem ok9 {f : Addr} {fd : FuncData} (F : Fun K "law" "law" s9 f fd) (T : Tops K mg) (KN : KnA P w K mg base k) : FnM P w K mg base (k + 1) f fd ["_law_script"] (spM (cof mg) K 1 (sem (k + 1) 9)) := by
  refine ls_fn F sc9 rfl fun cdv A outer s H E hr => ?_
  have hu := hu200 hr
  have tk := tkD (P := P) (w := w) (K := K) (mg := mg) (base := base) (N := N9) (qual := "law") (scope := defScope s9) (f := f) (cdv := cdv) (A := A) (outer := outer) (s := s) (H := H) (E := E)
  have po := poD (P := P) (w := w) (K := K) (mg := mg) (base := base) (N := N9) (qual := "law") (scope := defScope s9) (f := f) (cdv := cdv) (A := A) (outer := outer) (s := s) (H := H) (E := E)
  exact (s_cons (s_set 1 sc9.nd (r_call [] KN.k3 hr tk (ra_cons (r_fz (r_v 0)) (ra_cons r_int ra_nil)) (hl := (an_cons (an_cons an_nil)))))
    (s_cons (s_set 2 sc9.nd (r_fz (r_call [0] KN.k5 hr tk (ra_cons (r_v 1) (ra_cons (r_fz (r_op op_addA b_add r_int (r_call [0] KN.k4 hr tk (ra_cons (r_v 1) (ra_cons r_int ra_nil)) (hl := (an_cons (an_cons an_nil)))))) ra_nil)) (hl := (an_cons (an_cons an_nil))))))
    (s_cons (s_set 3 sc9.nd (r_fz (r_op op_addA b_add (r_lc (own := [("_law_k", 4)]) rfl sc9.nd (ri_range1 T.b_range r_int) (blkOk_by (N := N9) (sc := (defScope s9)) (by decide +kernel)) (blkR (fun _ _ _ _ _ => (rg_n sc9.nd rfl (by first | exact Or.inl rfl | exact Or.inr rfl))) (fun _ _ _ _ _ => rts_nil) (fun _ _ _ _ _ => (r_call [0] KN.k8 hr takes0 (ra_cons (r_call [] KN.k3 hr takes0 (ra_cons (r_fz (r_v 0)) (ra_cons (r_fz (r_op op_addA b_add r_int (r_v 4))) ra_nil)) (hl := (an_cons (an_cons an_nil)))) (ra_cons (r_fz (r_v 2)) ra_nil)) (hl := (an_cons (an_cons an_nil))))))) (r_lst (ra_cons r_d0 ra_nil)))))
    (s_cons (s_for (vs := [4]) po rfl (ri_range1 T.b_range r_int) (rg_n sc9.nd rfl (by first | exact Or.inl rfl | exact Or.inr rfl))
    (s_cons (s_set 1 sc9.nd (r_call [] KN.k3 hr tk (ra_cons (r_fz (r_v 0)) (ra_cons (r_fz (r_op op_addA b_add r_int (r_v 4))) ra_nil)) (hl := (an_cons (an_cons an_nil)))))
    (s_cons (s_set 5 sc9.nd (r_call [0] KN.k4 hr tk (ra_cons (r_v 1) (ra_cons r_int ra_nil)) (hl := (an_cons (an_cons an_nil)))))
    (s_cons (s_if (rt_cmp (op_eqX hu) b_eq (r_call [0] KN.k4 hr tk (ra_cons (r_v 1) (ra_cons r_int ra_nil)) (hl := (an_cons (an_cons an_nil)))) r_int) (s_one (s_set 5 sc9.nd r_int)) s_nil)
    (s_cons (s_set 6 sc9.nd (r_call [0] KN.k6 hr tk (ra_cons (r_v 1) (ra_cons (r_fz (r_v 2)) (ra_cons (r_fz (r_v 5)) ra_nil))) (hl := (an_cons (an_cons (an_cons an_nil))))))
    (s_cons (s_if (rt_cmp (op_neX hu) b_ne (r_call [] KN.k1 hr tk (ra_cons (r_fz (r_v 6)) ra_nil) (hl := (an_cons an_nil))) (r_tup (ra_cons r_str (ra_cons (r_tup (ra_cons r_str (ra_cons (r_fz (r_v 6)) (ra_cons r_str ra_nil)))) (ra_cons r_str ra_nil))))) (s_one (s_ret r_bl)) s_nil)
    (s_one (s_for (vs := [7]) po rfl (ri_seq (r_v 3)) (rg_n sc9.nd rfl (by first | exact Or.inl rfl | exact Or.inr rfl))
    (s_cons (s_set 8 sc9.nd (r_fz (r_callT call_dictD k_dict T.b_dict (r_v 7))))
    (s_cons (s_set 9 sc9.nd (r_fz (r_call [] KN.k7 hr tk (ra_cons (r_fz (r_v 6)) (ra_cons (r_fz (r_lc (own := [("_law_name", 11)]) rfl sc9.nd (ri_seq (r_v 2)) (blkOk_by (N := N9) (sc := (defScope s9)) (by decide +kernel)) (blkR (fun _ _ _ _ _ => (rg_n sc9.nd rfl (by first | exact Or.inl rfl | exact Or.inr rfl))) (fun _ _ _ _ _ => (rts_one (rt_tru (r_getF hu (r_v 7) (r_v 11))))) (fun _ _ _ _ _ => (r_v 11))))) ra_nil)) (hl := (an_cons (an_cons an_nil))))))
    (s_cons (s_set 10 sc9.nd (r_fz (r_call [] KN.k0 hr tk (ra_cons (r_fz (r_v 6)) (ra_cons (r_fz (r_v 8)) ra_nil)) (hl := (an_cons (an_cons an_nil))))))
    (s_one (s_if (rt_w (rw_or (rt_not (rt_tru (r_isi T.b_isinstance (r_v 10) T.b_bool))) (rw_or (rt_cmp (op_neX hu) b_ne (r_v 10) (r_v 9)) (rw_or1 (rt_cmp (op_neD hu) b_neD (r_v 8) (r_v 7)))))) (s_one (s_ret r_bl)) s_nil)))))))))))))
    (s_one (s_ret r_bl))))))
theorem known (T : Tops K mg) (Q : Fts K mg) : ∀ k, KnA P w K mg base k
  | 0 => by
    obtain ⟨f0, fd0, F0, m0, b0⟩ := Q.f0.ex
    obtain ⟨f1, fd1, F1, m1, b1⟩ := Q.f1.ex
    obtain ⟨f2, fd2, F2, m2, b2⟩ := Q.f2.ex
    obtain ⟨f3, fd3, F3, m3, b3⟩ := Q.f3.ex
    obtain ⟨f4, fd4, F4, m4, b4⟩ := Q.f4.ex
    obtain ⟨f5, fd5, F5, m5, b5⟩ := Q.f5.ex
    obtain ⟨f6, fd6, F6, m6, b6⟩ := Q.f6.ex
    obtain ⟨f7, fd7, F7, m7, b7⟩ := Q.f7.ex
    obtain ⟨f8, fd8, F8, m8, b8⟩ := Q.f8.ex
    obtain ⟨f9, fd9, F9, m9, b9⟩ := Q.f9.ex
    exact ⟨kn0 F0 m0 b0 rfl, kn0 F1 m1 b1 rfl, kn0 F2 m2 b2 rfl, kn0 F3 m3 b3 rfl, kn0 F4 m4 b4 rfl, kn0 F5 m5 b5 rfl, kn0 F6 m6 b6 rfl, kn0 F7 m7 b7 rfl, kn0 F8 m8 b8 rfl, kn0 F9 m9 b9 rfl⟩
  | k + 1 => by
    have ih := known T Q k
    obtain ⟨f0, fd0, F0, m0, b0⟩ := Q.f0.ex
    obtain ⟨f1, fd1, F1, m1, b1⟩ := Q.f1.ex
    obtain ⟨f2, fd2, F2, m2, b2⟩ := Q.f2.ex
    obtain ⟨f3, fd3, F3, m3, b3⟩ := Q.f3.ex
    obtain ⟨f4, fd4, F4, m4, b4⟩ := Q.f4.ex
    obtain ⟨f5, fd5, F5, m5, b5⟩ := Q.f5.ex
    obtain ⟨f6, fd6, F6, m6, b6⟩ := Q.f6.ex
    obtain ⟨f7, fd7, F7, m7, b7⟩ := Q.f7.ex
    obtain ⟨f8, fd8, F8, m8, b8⟩ := Q.f8.ex
    obtain ⟨f9, fd9, F9, m9, b9⟩ := Q.f9.ex
    exact ⟨kn_of F0 m0 b0 (ok0 F0 T ih), kn_of F1 m1 b1 (ok1 F1 T ih), kn_of F2 m2 b2 (ok2 F2 T ih), kn_of F3 m3 b3 (ok3 F3 T ih), kn_of F4 m4 b4 (ok4 F4 T ih), kn_of F5 m5 b5 (ok5 F5 T ih), kn_of F6 m6 b6 (ok6 F6 T ih), kn_of F7 m7 b7 (ok7 F7 T ih), kn_of F8 m8 b8 (ok8 F8 T ih), kn_of F9 m9 b9 (ok9 F9 T ih)⟩
end
end Qk47
namespace Lb
open PySem PySem.Spec PyProof.Rows L2 Ls
noncomputable def l_cell : SF :=
  (sSeq (sIf (tBool (eBin ltOp (eV 1) (eCall1 lenFn (eV 0)))) (sRet [] (eBin idxOp (eV 0) (eV 1))) sNil) (sSeq (sSet 2 (eBin mulOp (eV 1) (eC (.int 7919)))) (sSeq (sIf (tBool (eBin gtOp (eCall1 lenFn (eV 0)) (eC (.int 0)))) (sSet 2 (eBin addOp (eV 2) (eBin modOp (eBin idxOp (eV 0) (eBin modOp (eV 1) (eCall1 lenFn (eV 0)))) (eC (.int 65537))))) sNil) (sSeq (sSet 3 (eBin modOp (eBin mulOp (eV 2) (eC (.int 48271))) (eC (.int 65537)))) (sRet [] (eBin modOp (eBin fdivOp (eBin mulOp (eV 3) (eBin addOp (eBin addOp (eV 3) (eBin mulOp (eC (.int 2)) (eV 1))) (eC (.int 1)))) (eC (.int 7))) (eC (.int 65521))))))))
noncomputable def l_bag (g_law_cell : DF) : SF :=
  (sSeq (sSet 2 (eCall [] g_law_cell (aCons (eFz (eV 0)) (aCons (eFz (eV 1)) aNil)))) (sSeq (sIf (tEitherT (tBool (eBin geOp (eV 2) (eBin powOp (eC (.int 10)) (eC (.int 18))))) (tBool (eBin leOp (eV 2) (eNeg (eBin powOp (eC (.int 10)) (eC (.int 18))))))) (sRet [] (eLst (aCons (eFz (eV 2)) (aCons (eC (.int 0)) aNil)))) sNil) (sRet [] (eLst (aCons (eFz (eBin modOp (eV 2) (eC (.int 2147483647)))) (aCons (eFz (eBin addOp (eV 1) (eC (.int 1)))) aNil))))))
noncomputable def l_take : SF :=
  (sSeq (sIf (tBool (eBin eqOp (eBin idxOp (eV 0) (eC (.int 1))) (eC (.int 0)))) (sSeq (sSet 2 (eBin modOp (eBin idxOp (eV 0) (eC (.int 0))) (eV 1))) (sSeq (sSub 0 (eC (.int 0)) (eBin fdivOp (eBin idxOp (eV 0) (eC (.int 0))) (eV 1))) (sRet [0] (eV 2)))) sNil) (sSeq (sSub 0 (eC (.int 0)) (eBin modOp (eBin addOp (eBin addOp (eBin mulOp (eBin idxOp (eV 0) (eC (.int 0))) (eC (.int 48271))) (eBin mulOp (eBin mulOp (eC (.int 7919)) (eBin idxOp (eV 0) (eC (.int 1)))) (eBin idxOp (eV 0) (eC (.int 1))))) (eC (.int 17))) (eC (.int 2147483647)))) (sSeq (sSub 0 (eC (.int 1)) (eBin addOp (eBin idxOp (eV 0) (eC (.int 1))) (eC (.int 1)))) (sRet [0] (eBin modOp (eBin modOp (eBin mulOp (eBin idxOp (eV 0) (eC (.int 0))) (eC (.int 69621))) (eC (.int 2147483629))) (eV 1))))))

def BagOk (m : Int) (ds : List PyData) : Prop := ∃ c n : Int, ds = [.int c, .int n] ∧ 0 ≤ n ∧ n ≤ m
def TakeOK (f : DF) : Prop := ∀ (ds : List PyData) (k m : Int), BagOk m ds → m < 2 ^ 40 → 0 < k → k < 1073741824 → ∃ (v : Int) (ds' : List PyData), 0 ≤ v ∧ v < k ∧ BagOk (m + 1) ds' ∧ f [.mut ds, .val (.int k)] = .ok (.val (.int v)) [.mut ds', .val (.int k)]
def CellOK (f : DF) : Prop := ∀ (ns : List Int) (k : Int), ns.length ≤ 63 → 0 ≤ k → k < 2 ^ 40 → ∃ v : Int, f [.val (scrD ns), .val (.int k)] = .ok (.val (.int v)) [.val (scrD ns), .val (.int k)]
def BagOK (f : DF) : Prop := ∀ (ns : List Int) (k : Int), ns.length ≤ 63 → 0 ≤ k → k < 2 ^ 39 → ∃ ds : List PyData, BagOk (k + 1) ds ∧ f [.val (scrD ns), .val (.int k)] = .ok (.mut ds) [.val (scrD ns), .val (.int k)]
theorem small_of {i : Int} (h : -1099511627776 < i) (h2 : i < 1099511627776) : smallI i = true := by
  simp only [smallI, Bool.and_eq_true, decide_eq_true_eq]; omega
theorem take_ok : TakeOK (runB [0] 3 l_take) := by
  rintro ds k m ⟨c, n, rfl, h0, h1⟩ hm hk hk2
  by_cases hn : n = 0
  · subst hn
    refine ⟨c % k, [.int (c / k), .int 0], Int.emod_nonneg _ (by omega), Int.emod_lt_of_pos _ hk, ⟨_, _, rfl, by omega, by omega⟩, ?_⟩
    simp [runB, bodyEnv, l_take, L2.atI, L2.ixN, hk, hk2, outsF]
  · have hs : smallI n = true := small_of (by omega) (by omega)
    refine ⟨(c * 48271 + 7919 * n * n + 17) % 2147483647 * 69621 % 2147483629 % k, [.int ((c * 48271 + 7919 * n * n + 17) % 2147483647), .int (n + 1)], Int.emod_nonneg _ (by omega), Int.emod_lt_of_pos _ hk, ⟨_, _, rfl, by omega, by omega⟩, ?_⟩
    have s1 : smallI 48271 = true := by decide
    have s2 : smallI 7919 = true := by decide
    have s3 : smallI 69621 = true := by decide
    simp [runB, bodyEnv, l_take, L2.atI, L2.ixN, hk, hn, hs, s1, s2, s3, outsF]
theorem atI_of {α : Type} {xs : List α} {k : Int} (h0 : 0 ≤ k) (h1 : k < xs.length) : atI xs k = some (xs[k.toNat]'(by omega)) := by
  have : ixN xs.length k = some k.toNat := by
    unfold L2.ixN
    rw [if_pos h0, if_pos h1]
  unfold L2.atI
  rw [this]
  simp [List.getElem?_eq_getElem (show k.toNat < xs.length by omega)]
@[simp] theorem atI_cons0 {α : Type} (x : α) (xs : List α) : atI (x :: xs) 0 = some x := by
  rw [atI_of (by decide) (by simp)]; rfl
theorem atI_scr {ns : List Int} {k : Int} (h0 : 0 ≤ k) (h1 : k < ns.length) : ∃ v : Int, atI (ns.map PyData.int) k = some (.int v) :=
  ⟨ns[k.toNat]'(by omega), by rw [atI_of h0 (by simpa using h1)]; simp⟩
theorem cell_ok : CellOK (runB [] 4 l_cell) := by
  intro ns k hl h0 h1
  by_cases hk : k < ns.length
  · obtain ⟨v, hv⟩ := atI_scr h0 hk
    exact ⟨v, by simp [runB, bodyEnv, l_cell, hk, hv, outsF]⟩
  · have s1 : smallI 48271 = true := by decide
    have s2 : smallI 7919 = true := by decide
    have s3 : smallI 2 = true := by decide
    by_cases hz : 0 < ns.length
    · obtain ⟨v, hv⟩ := atI_scr (ns := ns) (k := k % ns.length) (Int.emod_nonneg _ (by omega)) (Int.emod_lt_of_pos _ (by omega))
      have s4 : smallI ((k * 7919 + v % 65537) * 48271 % 65537) = true := small_of (by omega) (by omega)
      simp [runB, bodyEnv, l_cell, hk, hv, outsF, hz, s1, s2, s3, s4]
    · have s4 : smallI (k * 7919 * 48271 % 65537) = true := small_of (by omega) (by omega)
      simp [runB, bodyEnv, l_cell, hk, outsF, hz, s1, s2, s3, s4]
theorem bag_ok {f : DF} (hf : CellOK f) : BagOK (runB [] 3 (l_bag f)) := by
  intro ns k hl h0 h1
  obtain ⟨v, hv⟩ := hf ns k hl h0 (by omega)
  have t : sizeLine = 16777216 := by decide
  by_cases hc : (1000000000000000000 : Int) ≤ v
  · exact ⟨_, ⟨v, 0, rfl, by omega, by omega⟩, by simp [runB, bodyEnv, l_bag, hv, hc, outsF, t]⟩
  · by_cases hd : v ≤ (-1000000000000000000 : Int)
    · exact ⟨_, ⟨v, 0, rfl, by omega, by omega⟩, by simp [runB, bodyEnv, l_bag, hv, hc, hd, outsF, t]⟩
    · exact ⟨_, ⟨v % 2147483647, k + 1, rfl, by omega, by omega⟩, by simp [runB, bodyEnv, l_bag, hv, hc, hd, outsF, t]⟩
end Lb
namespace Lb
open PySem PySem.Spec PyProof.Rows L2 Ls
noncomputable def l_names_1b (g_law_take : DF) : SF := (sSet 3 (eBin addOp (eV 3) (eBin idxOp (eV 2) (eCall [0] g_law_take (aCons (eV 0) (aCons (eC (.int 26)) aNil))))))
noncomputable def l_names_1 (g_law_take : DF) : SF := (sFor (iRange1 (eV 4)) (gN 5) (l_names_1b g_law_take))
noncomputable def l_names_2b : SF := (sSeq (sSet 9 (eBin addOp (eBin addOp (eSl (eV 3) oNone (oSome (eV 6))) (eBin idxOp (eV 2) (eBin modOp (eBin addOp (eV 7) (eBin mulOp (eC (.int 5)) (eV 5))) (eC (.int 26))))) (eSl (eV 3) (oSome (eV 6)) oNone))) (sIf (tBothT (tBool (eBin ninOp (eV 9) (eLst (aCons (eC (.str "nought")) (aCons (eC (.str "and")) (aCons (eC (.str "or")) (aCons (eC (.str "gives")) aNil))))))) (tBool (eBin ltOp (eCall1 lenFn (eV 8)) (eV 1)))) (sExpr (eMut 8 appendM (aCons (eFz (eV 9)) aNil))) sNil))
noncomputable def l_names_2 : SF := (sFor (iRange1 (eC (.int 26))) (gN 5) l_names_2b)
noncomputable def l_names (g_law_take : DF) : SF :=
  (sSeq (sSet 2 (eC (.str "abcdefghijklmnopqrstuvwxyz"))) (sSeq (sSet 3 (eC (.str ""))) (sSeq (sSet 4 (eCall [0] g_law_take (aCons (eV 0) (aCons (eC (.int 8)) aNil)))) (sSeq (l_names_1 g_law_take) (sSeq (sSet 6 (eCall [0] g_law_take (aCons (eV 0) (aCons (eFz (eBin addOp (eV 4) (eC (.int 1)))) aNil)))) (sSeq (sIf (tBool (eBin eqOp (eCall [0] g_law_take (aCons (eV 0) (aCons (eC (.int 5)) aNil))) (eC (.int 1)))) (sSeq (sSet 3 (eBin idxOp (eLst (aCons (eC (.str "and")) (aCons (eC (.str "or")) (aCons (eC (.str "gives")) (aCons (eC (.str "nough")) aNil))))) (eCall [0] g_law_take (aCons (eV 0) (aCons (eC (.int 4)) aNil))))) (sSet 6 (eCall1 lenFn (eV 3)))) sNil) (sSeq (sSet 7 (eCall [0] g_law_take (aCons (eV 0) (aCons (eC (.int 26)) aNil)))) (sSeq (sSet 8 (eLst aNil)) (sSeq l_names_2 (sRet [0] (eV 8)))))))))))
noncomputable def p_is_letter_1e : EF := (eBin inOp (eV 1) (eC (.str "abcdefghijklmnopqrstuvwxyz")))
noncomputable def p_is_letter_1 : EF := (eLc [1] (iSeq (eV 0)) (gN 1) tYesT p_is_letter_1e)
noncomputable def p_is_letter : SF :=
  (sSeq (sIf (tEitherT (tNegT (tTru (eCall1 (isiFn "str") (eV 0)))) (tNegT (tBool (eChain leOp leOp (eC (.int 1)) (eCall1 lenFn (eV 0)) (eC (.int 8)))))) (sRet [] (eC (.bool false))) sNil) (sRet [] (eAnd (eBin neOp (eV 0) (eC (.str "nought"))) (eAnd (eBin ninOp (eV 0) (eC (.tuple [(.str "and"), (.str "or"), (.str "gives")]))) (eCall1 allFn p_is_letter_1)))))
noncomputable def p_look_at_letter (g_is_letter : DF) : SF :=
  (sIf (tNegT (tTru (eCall [] g_is_letter (aCons (eFz (eV 0)) aNil)))) (sRaise "NoLetter") sNil)

def abc : List Nat := List.range' 97 26
theorem abc_len : abc.length = 26 := by simp [abc]
theorem abc_eq : Str.ofString "abcdefghijklmnopqrstuvwxyz" = mkS abc := by decide +kernel
theorem abc_at {v : Int} (h0 : 0 ≤ v) (h1 : v < 26) : atI abc v = some (97 + v.toNat) := by
  rw [atI_of h0 (by rw [abc_len]; exact h1)]
  simp [abc]
def Low (w : List Nat) : Prop := ∀ c ∈ w, 97 ≤ c ∧ c ≤ 122
instance (w : List Nat) : Decidable (Low w) := by unfold Low; infer_instance
theorem Low.ok {w : List Nat} (h : Low w) : PyData.strOk (mkS w) = true := strOk_mkS fun c hc => by have := h c hc; omega
theorem Low.app {w u : List Nat} (h : Low w) (g : Low u) : Low (w ++ u) := fun c hc => by
  rcases List.mem_append.mp hc with q | q
  · exact h c q
  · exact g c q
theorem Low.one {c : Nat} (h : 97 ≤ c) (g : c ≤ 122) : Low [c] := fun d hd => by simp at hd; omega
theorem Low.take {w : List Nat} (h : Low w) (k : Nat) : Low (w.take k) := fun c hc => h c (List.mem_of_mem_take hc)
theorem Low.drop {w : List Nat} (h : Low w) (k : Nat) : Low (w.drop k) := fun c hc => h c (List.mem_of_mem_drop hc)
def wordsOf : List Str := [Str.ofString "nought", Str.ofString "and", Str.ofString "or", Str.ofString "gives"]
structure IsLet (s : Str) : Prop where
  ex : ∃ w, s = mkS w ∧ 1 ≤ w.length ∧ w.length ≤ 8 ∧ Low w
  no : s ∉ wordsOf
theorem IsLet.ok {s : Str} (h : IsLet s) : PyData.strOk s = true := by
  obtain ⟨w, rfl, _, _, hw⟩ := h.ex
  exact hw.ok
def NamesOK (f : DF) : Prop := ∀ (ds : List PyData) (k m : Int), BagOk m ds → m < 2 ^ 39 → 0 ≤ k → k ≤ 22 → ∃ (ss : List Str) (ds' : List PyData), (ss.length : Int) = k ∧ (∀ s ∈ ss, IsLet s) ∧ ss.Nodup ∧ BagOk (m + 40) ds' ∧
  f [.mut ds, .val (.int k)] = .ok (.mut (ss.map .str)) [.mut ds', .val (.int k)]
abbrev nEnv (ds : List PyData) (k : Int) (w : List Nat) (v : Int) (x5 x6 x7 x8 x9 : Option Sl) : Ls.Env :=
  [some (.mut ds), some (.val (.int k)), some (.val (.str (mkS abc))), some (.val (.str (mkS w))), some (.val (.int v)), x5, x6, x7, x8, x9]
theorem BagOk.mono {m m' : Int} {ds : List PyData} (h : BagOk m ds) (h2 : m ≤ m') : BagOk m' ds := by
  obtain ⟨c, n, rfl, h0, h1⟩ := h
  exact ⟨c, n, rfl, h0, by omega⟩
theorem rangeL_len (v : Int) : (rangeL 0 v).length = v.toNat := by simp [rangeL]
theorem rangeL_get {v : Int} {i : Nat} (h : i < (rangeL 0 v).length) : (rangeL 0 v)[i] = .int i := by simp [rangeL]
theorem names_1 {f : DF} (hf : TakeOK f) {ds : List PyData} {k m v : Int} (hb : BagOk m ds) (hm : m < 2 ^ 39 + 10) (h0 : 0 ≤ v) (h1 : v < 8) :
    ∃ ds' w x5, BagOk (m + 8) ds' ∧ Low w ∧ (w.length : Int) = v ∧ l_names_1 f (nEnv ds k [] v none none none none none) = .nx (nEnv ds' k w v x5 none none none none) := by
  obtain ⟨ρ', e, ds', w, x5, p1, p2, p3, rfl⟩ := forL_inv (g := gN 5) (body := l_names_1b f) (ds := rangeL 0 v) (ρ := nEnv ds k [] v none none none none none)
    (fun i ρ => ∃ ds' w x5, BagOk (m + i) ds' ∧ Low w ∧ w.length = i ∧ ρ = nEnv ds' k w v x5 none none none none)
    (fun i hi ρ => by
      rintro ⟨ds', w, x5, p1, p2, p3, rfl⟩
      have hi' : (i : Int) < 8 := by rw [rangeL_len] at hi; omega
      obtain ⟨u, ds2, q1, q2, q3, q4⟩ := hf ds' 26 (m + i) p1 (by omega) (by decide) (by decide)
      refine ⟨_, nEnv ds2 k (w ++ [97 + u.toNat]) v (some (.val (.int i))) none none none none, rfl, .inl ?_, ds2, _, _, by rw [show m + ((i + 1 : Nat) : Int) = m + i + 1 by omega]; exact q3, p2.app (Low.one (by omega) (by omega)), by simp [p3], rfl⟩
      rw [rangeL_get]
      have hz : w.length + 1 ≤ 16777216 := by omega
      simp [l_names_1b, q4, abc_len, abc_at q1 q2, sizeLine_eq, mkS_one, mkS_app, hz])
    ⟨ds, [], none, by simpa using hb, fun c hc => by simp at hc, rfl, rfl⟩
  refine ⟨ds', w, x5, p1.mono (by rw [rangeL_len]; omega), p2, by rw [p3, rangeL_len]; omega, ?_⟩
  have hr : rgOk v = true := by simp [rgOk]; omega
  simp [l_names_1, hr, e]
def cand (w : List Nat) (a : Nat) (u : Int) (j : Nat) : List Nat := w.take a ++ [97 + ((u + 5 * (j : Int)) % 26).toNat] ++ w.drop a
theorem cand_low {w : List Nat} (h : Low w) (a : Nat) (u : Int) (j : Nat) : Low (cand w a u j) := ((h.take a).app (Low.one (by omega) (by omega))).app (h.drop a)
theorem cand_len {w : List Nat} (a : Nat) (u : Int) (j : Nat) : (cand w a u j).length = w.length + 1 := by
  simp [cand]; omega
theorem cand_inj {w : List Nat} {a : Nat} {u : Int} {i j : Nat} (hi : i < 26) (hj : j < 26) (h : cand w a u i = cand w a u j) : i = j := by
  unfold cand at h
  have h1 := List.append_cancel_right h
  have h2 := List.append_cancel_left h1
  simp at h2
  omega
def good (w : List Nat) (a : Nat) (u : Int) (j : Nat) : Bool := !decide (mkS (cand w a u j) ∈ wordsOf)
theorem words_ok : ∀ t ∈ wordsOf, PyData.strOk t = true := by
  intro t ht
  simp only [wordsOf, List.mem_cons, List.not_mem_nil, or_false] at ht
  rcases ht with rfl | rfl | rfl | rfl <;> exact strOk_lit _
theorem in_words {s : Str} (h : PyData.strOk s = true) :
    inL (.str s) [.str (Str.ofString "nought"), .str (Str.ofString "and"), .str (Str.ofString "or"), .str (Str.ofString "gives")] = some (decide (s ∈ wordsOf)) := inL_strs (ss := wordsOf) h words_ok
theorem names_2 {ds : List PyData} {k v u : Int} {w : List Nat} {a : Nat} {x5 : Option Sl} (hw : Low w) (hl : w.length ≤ 7) (ha : a ≤ w.length) (hk : k ≤ 22) (h0 : 0 ≤ k) :
    ∃ (J : List Nat) (x5' x9 : Option Sl), J.Nodup ∧ (∀ j ∈ J, j < 26 ∧ good w a u j = true) ∧ (J.length : Int) = k ∧
      l_names_2 (nEnv ds k w v x5 (some (.val (.int a))) (some (.val (.int u))) (some (.mut [])) none) = .nx (nEnv ds k w v x5' (some (.val (.int a))) (some (.val (.int u))) (some (.mut (J.map fun j => .str (mkS (cand w a u j))))) x9) := by
  obtain ⟨ρ', e, J, x5', x9, p1, p2, p3, p4, rfl⟩ := forL_inv (g := gN 5) (body := l_names_2b) (ds := rangeL 0 26) (ρ := nEnv ds k w v x5 (some (.val (.int a))) (some (.val (.int u))) (some (.mut [])) none)
    (fun i ρ => ∃ (J : List Nat) (x5' x9 : Option Sl), J.Nodup ∧ (∀ j ∈ J, j < i ∧ good w a u j = true) ∧ (J.length : Int) ≤ k ∧ ((J.length : Int) < k → ∀ j < i, good w a u j = true → j ∈ J) ∧
      ρ = nEnv ds k w v x5' (some (.val (.int a))) (some (.val (.int u))) (some (.mut (J.map fun j => .str (mkS (cand w a u j))))) x9)
    (fun i hi ρ => by
      rintro ⟨J, x5', x9, p1, p2, p3, p4, rfl⟩
      have hi' : i < 26 := by rw [rangeL_len] at hi; exact hi
      have hok := (cand_low hw a u i).ok
      have z1 : w.length ≤ 16777216 := by omega
      have z2 : min a w.length + 1 ≤ 16777216 := by omega
      have z3 : min a w.length + 1 + (w.length - a) ≤ 16777216 := by omega
      have s5 : smallI 5 = true := by decide
      have c1 := abc_at (v := (u + 5 * (i : Int)) % 26) (by omega) (by omega)
      have c2 : mkS (w.take a ++ (97 + ((u + 5 * (i : Int)) % 26).toNat) :: w.drop a) = mkS (cand w a u i) := by simp [cand]
      have hJ : J.length < 16777216 := by omega
      by_cases hg : good w a u i = true
      · have hg' : ¬ mkS (cand w a u i) ∈ wordsOf := by simpa [good] using hg
        by_cases hn : (J.length : Int) < k
        · refine ⟨_, nEnv ds k w v (some (.val (.int i))) (some (.val (.int a))) (some (.val (.int u))) (some (.mut ((J ++ [i]).map fun j => .str (mkS (cand w a u j))))) (some (.val (.str (mkS (cand w a u i))))), rfl, .inl ?_, J ++ [i], _, _, ?_, ?_, ?_, ?_, rfl⟩
          · rw [rangeL_get]
            simp [l_names_2b, cut_lo w a ha, cut_hi w a ha, abc_len, c1, sizeLine_eq, mkS_one, mkS_app, z1, z2, z3, s5, c2, in_words hok, hg', hn, hJ]
          · rw [List.nodup_append]
            exact ⟨p1, by simp, fun x hx y hy => by simp at hy; subst hy; have := (p2 x hx).1; omega⟩
          · intro j hj
            rcases List.mem_append.mp hj with q | q
            · exact ⟨by have := (p2 j q).1; omega, (p2 j q).2⟩
            · simp at q; subst q; exact ⟨by omega, hg⟩
          · simp; omega
          · intro h j hj hgj
            by_cases q : j = i
            · subst q; simp
            · exact List.mem_append.mpr (.inl (p4 (by simp at h; omega) j (by omega) hgj))
        · refine ⟨_, nEnv ds k w v (some (.val (.int i))) (some (.val (.int a))) (some (.val (.int u))) (some (.mut (J.map fun j => .str (mkS (cand w a u j))))) (some (.val (.str (mkS (cand w a u i))))), rfl, .inl ?_, J, _, _, p1, fun j hj => ⟨by have := (p2 j hj).1; omega, (p2 j hj).2⟩, p3, fun h => absurd h hn, rfl⟩
          rw [rangeL_get]
          simp [l_names_2b, cut_lo w a ha, cut_hi w a ha, abc_len, c1, sizeLine_eq, mkS_one, mkS_app, z1, z2, z3, s5, c2, in_words hok, hg', hn, hJ]
      · have hg' : mkS (cand w a u i) ∈ wordsOf := by simpa [good] using hg
        refine ⟨_, nEnv ds k w v (some (.val (.int i))) (some (.val (.int a))) (some (.val (.int u))) (some (.mut (J.map fun j => .str (mkS (cand w a u j))))) (some (.val (.str (mkS (cand w a u i))))), rfl, .inl ?_, J, _, _, p1, fun j hj => ⟨by have := (p2 j hj).1; omega, (p2 j hj).2⟩, p3, ?_, rfl⟩
        · rw [rangeL_get]
          simp [l_names_2b, cut_lo w a ha, cut_hi w a ha, abc_len, c1, sizeLine_eq, mkS_one, mkS_app, z1, z2, z3, s5, c2, in_words hok, hg', hJ]
        · intro h j hj hgj
          by_cases q : j = i
          · subst q; exact absurd hgj hg
          · exact p4 h j (by omega) hgj)
    ⟨[], x5, none, by simp, by simp, h0, by simp, by simp⟩
  have r26 : (rangeL 0 26).length = 26 := by rw [rangeL_len]; rfl
  rw [r26] at p2 p4
  refine ⟨J, x5', x9, p1, p2, ?_, ?_⟩
  · refine Int.le_antisymm p3 (Int.not_lt.mp fun hn => ?_)
    have hp := p4 hn
    have h1 : ((List.range 26).filter (good w a u)).length ≤ J.length := nodup_le (List.Pairwise.filter _ List.nodup_range) fun j hj => by
      have := List.mem_filter.mp hj
      exact hp j (by simpa using this.1) this.2
    have h2 : (((List.range 26).filter (fun j => !good w a u j)).map fun j => mkS (cand w a u j)).length ≤ wordsOf.length := by
      refine nodup_le (nodup_map (List.Pairwise.filter _ List.nodup_range) fun i hi j hj e => ?_) fun x hx => ?_
      · have h3 := (List.mem_filter.mp hi).1
        have h4 := (List.mem_filter.mp hj).1
        exact cand_inj (List.mem_range.mp h3) (List.mem_range.mp h4) (mkS_inj.mp e)
      · obtain ⟨j, hj, rfl⟩ := List.mem_map.mp hx
        have := (List.mem_filter.mp hj).2
        simpa [good] using this
    have h5 := List.length_eq_countP_add_countP (good w a u) (l := List.range 26)
    rw [List.countP_eq_length_filter, List.countP_eq_length_filter] at h5
    have h6 : (List.range 26).filter (fun j => decide (¬good w a u j = true)) = (List.range 26).filter (fun j => !good w a u j) := List.filter_congr fun j _ => by cases good w a u j <;> rfl
    rw [h6, List.length_range] at h5
    rw [List.length_map] at h2
    have h7 : wordsOf.length = 4 := rfl
    omega
  · have hr : rgOk 26 = true := by decide
    simp [l_names_2, hr, e]
theorem names_ok {f : DF} (hf : TakeOK f) : NamesOK (runB [0] 10 (l_names f)) := by
  intro ds k m hb hm h0 hk
  obtain ⟨v, d1, v0, v1, b1, e1⟩ := hf ds 8 m hb (by omega) (by decide) (by decide)
  obtain ⟨d2, w, x5, b2, hw, hl, e2⟩ := names_1 hf (k := k) b1 (by omega) v0 v1
  obtain ⟨a, d3, a0, a1, b3, e3⟩ := hf d2 (v + 1) (m + 1 + 8) b2 (by omega) (by omega) (by omega)
  obtain ⟨c, d4, c0, c1, b4, e4⟩ := hf d3 5 (m + 1 + 8 + 1) b3 (by omega) (by decide) (by decide)
  have hs : Str.ofString "" = mkS [] := rfl
  by_cases hc : c = 1
  · subst hc
    obtain ⟨t, d5, t0, t1, b5, e5⟩ := hf d4 4 (m + 1 + 8 + 1 + 1) b4 (by omega) (by decide) (by decide)
    obtain ⟨u, d6, u0, u1, b6, e6⟩ := hf d5 26 (m + 1 + 8 + 1 + 1 + 1) b5 (by omega) (by decide) (by decide)
    have go : ∀ (z : Str) (l : List Nat), z = mkS l → Low l → l.length ≤ 5 →
        atI [PyData.str (Str.ofString "and"), .str (Str.ofString "or"), .str (Str.ofString "gives"), .str (Str.ofString "nough")] t = some (.str z) →
        ∃ (ss : List Str) (ds' : List PyData), (ss.length : Int) = k ∧ (∀ s ∈ ss, IsLet s) ∧ ss.Nodup ∧ BagOk (m + 40) ds' ∧
          runB [0] 10 (l_names f) [.mut ds, .val (.int k)] = .ok (.mut (ss.map .str)) [.mut ds', .val (.int k)] := by
      rintro z l rfl hlow hlen ht
      obtain ⟨J, y5, y9, n1, n2, n3, e7⟩ := names_2 (ds := d6) (k := k) (v := v) (u := u) (w := l) (a := l.length) (x5 := x5) hlow (by omega) (Nat.le_refl _) hk h0
      refine ⟨J.map fun j => mkS (cand l l.length u j), d6, by simpa using n3, fun s hs => ?_, nodup_map n1 fun i hi j hj e => cand_inj (n2 i hi).1 (n2 j hj).1 (mkS_inj.mp e), b6.mono (by omega), ?_⟩
      · obtain ⟨j, hj, rfl⟩ := List.mem_map.mp hs
        exact ⟨⟨_, rfl, by rw [cand_len]; omega, by rw [cand_len]; omega, cand_low hlow _ _ _⟩, by simpa [good] using (n2 j hj).2⟩
      · have hz : l.length ≤ 16777216 := by omega
        simp [runB, bodyEnv, l_names, abc_eq, hs, e1, e2, e3, e4, e5, e6, e7, ht, sizeLine_eq, hz, outsF]
    have t2 : t = 0 ∨ t = 1 ∨ t = 2 ∨ t = 3 := by omega
    rcases t2 with rfl | rfl | rfl | rfl
    · exact go (Str.ofString "and") [97, 110, 100] (by decide +kernel) (by decide) (by decide) rfl
    · exact go (Str.ofString "or") [111, 114] (by decide +kernel) (by decide) (by decide) rfl
    · exact go (Str.ofString "gives") [103, 105, 118, 101, 115] (by decide +kernel) (by decide) (by decide) rfl
    · exact go (Str.ofString "nough") [110, 111, 117, 103, 104] (by decide +kernel) (by decide) (by decide) rfl
  · obtain ⟨u, d5, u0, u1, b5, e5⟩ := hf d4 26 (m + 1 + 8 + 1 + 1) b4 (by omega) (by decide) (by decide)
    obtain ⟨A, rfl⟩ : ∃ A : Nat, a = (A : Int) := ⟨a.toNat, by omega⟩
    obtain ⟨J, y5, y9, n1, n2, n3, e7⟩ := names_2 (ds := d5) (k := k) (v := v) (u := u) (w := w) (a := A) (x5 := x5) hw (by omega) (by omega) hk h0
    refine ⟨J.map fun j => mkS (cand w A u j), d5, by simpa using n3, fun s hs => ?_, nodup_map n1 fun i hi j hj e => cand_inj (n2 i hi).1 (n2 j hj).1 (mkS_inj.mp e), b5.mono (by omega), ?_⟩
    · obtain ⟨j, hj, rfl⟩ := List.mem_map.mp hs
      exact ⟨⟨_, rfl, by rw [cand_len]; omega, by rw [cand_len]; omega, cand_low hw _ _ _⟩, by simpa [good] using (n2 j hj).2⟩
    · simp [runB, bodyEnv, l_names, abc_eq, hs, e1, e2, e3, e4, hc, e5, e7, outsF]
def LetterOK (f : DF) : Prop := ∀ s : Str, IsLet s → f [.val (.str s)] = .ok (.val (.bool true)) [.val (.str s)]
theorem boolsOf_true {α : Type} : ∀ (l : List α), boolsOf (l.map fun _ => PyData.bool true) = some (l.map fun _ => true)
  | [] => rfl
  | _ :: l => by simp [boolsOf, boolsOf_true l]
theorem letter_1 {w : List Nat} (hw : Low w) (hl : w.length ≤ 8) : p_is_letter_1 [some (.val (.str (mkS w))), none] = .ok (.tmp (w.map fun _ => .bool true)) [some (.val (.str (mkS w))), none] := by
  have h := lc_map (vs := [1]) (g := gN 1) (ft := tYesT) (fe := p_is_letter_1e) (fun _ => true) (fun _ => .bool true) (ρ := [some (.val (.str (mkS w))), none]) (ds := w.map fun c => PyData.str (mkS [c]))
    (by rw [PySem.sizeLine_eq]; simp; omega) (fun d hd => by
      obtain ⟨c, hc, rfl⟩ := List.mem_map.mp hd
      have := hw c hc
      refine ⟨[some (.val (.str (mkS w))), some (.val (.str (mkS [c])))], [some (.val (.str (mkS w))), some (.val (.str (mkS [c])))], rfl, rfl, fun h => by simp at h, fun _ => ⟨[some (.val (.str (mkS w))), some (.val (.str (mkS [c])))], ?_, rfl⟩⟩
      have hm : c ∈ abc := by simp [abc]; omega
      simp [p_is_letter_1e, abc_eq, inOp, mkS, hm])
  have hfl : ∀ l : List PyData, l.filter (fun _ => true) = l := fun l => by simp [List.filter_eq_self]
  rw [hfl] at h
  simp [p_is_letter_1, mkS_one, h]
theorem letter_ok : LetterOK (runB [] 2 p_is_letter) := by
  intro s hs
  obtain ⟨⟨w, rfl, h1, h2, h3⟩, hno⟩ := hs
  simp only [wordsOf, List.mem_cons, List.not_mem_nil, or_false, not_or] at hno
  obtain ⟨n1, n2, n3, n4⟩ := hno
  have ha : allFn (.list (w.map fun _ => .bool true)) = some (.val (.bool true)) := by
    show (boolsOf (w.map fun _ => .bool true)).map _ = _
    rw [boolsOf_true]; simp
  have hz : w.length ≤ 16777216 := by omega
  have hi : inL (.str (mkS w)) [.str (Str.ofString "and"), .str (Str.ofString "or"), .str (Str.ofString "gives")] = some false := by
    have := inL_strs (s := mkS w) (ss := [Str.ofString "and", Str.ofString "or", Str.ofString "gives"]) h3.ok (fun t ht => by
      simp only [List.mem_cons, List.not_mem_nil, or_false] at ht
      rcases ht with rfl | rfl | rfl <;> exact strOk_lit _)
    simpa [n2, n3, n4] using this
  have hk : kitB "str" "str" = some true := by decide
  have g1 : (1 : Int) ≤ w.length := by omega
  have g2 : (w.length : Int) ≤ 8 := by omega
  simp [runB, bodyEnv, p_is_letter, hk, sizeLine_eq, hz, g1, g2, h3.ok, n1, hi, letter_1 h3 h2, ha, outsF]
def LookOK (f : DF) : Prop := ∀ s : Str, IsLet s → f [.val (.str s)] = .ok (.val .none) [.val (.str s)]
theorem look_ok {f : DF} (hf : LetterOK f) : LookOK (runB [] 1 (p_look_at_letter f)) := by
  intro s hs
  simp [runB, bodyEnv, p_look_at_letter, hf s hs, outsF]
end Lb
namespace Lb
open PySem PySem.Spec PyProof.Rows L2 Ls
noncomputable def l_statement (g_law_take g_law_statement : DF) : SF :=
  (sSeq (sIf (tBool (eBin eqOp (eV 2) (eC (.int 0)))) (sRet [0] (eBin idxOp (eBin addOp (eBin addOp (eV 1) (eV 1)) (eLst (aCons (eC (.str "nought")) aNil))) (eCall [0] g_law_take (aCons (eV 0) (aCons (eFz (eBin addOp (eBin mulOp (eC (.int 2)) (eCall1 lenFn (eV 1))) (eC (.int 1)))) aNil))))) sNil) (sSeq (sSet 3 (eBin idxOp (eLst (aCons (eC (.str "and")) (aCons (eC (.str "or")) (aCons (eC (.str "gives")) (aCons (eC (.str "gives")) (aCons (eC (.str "gives")) aNil)))))) (eCall [0] g_law_take (aCons (eV 0) (aCons (eC (.int 5)) aNil))))) (sSeq (sSet 4 (eCall [0] g_law_take (aCons (eV 0) (aCons (eFz (eV 2)) aNil)))) (sSeq (sSet 5 (eCall [0] g_law_statement (aCons (eV 0) (aCons (eFz (eV 1)) (aCons (eFz (eV 4)) aNil))))) (sRet [0] (eTup (aCons (eFz (eV 3)) (aCons (eFz (eV 5)) (aCons (eFz (eCall [0] g_law_statement (aCons (eV 0) (aCons (eFz (eV 1)) (aCons (eFz (eBin subOp (eBin subOp (eV 2) (eC (.int 1))) (eV 4))) aNil))))) aNil)))))))))

inductive Sg | con | dis | imp
  deriving DecidableEq
def Sg.s : Sg → Str
  | .con => Str.ofString "and"
  | .dis => Str.ofString "or"
  | .imp => Str.ofString "gives"
theorem Sg.ok (o : Sg) : PyData.strOk o.s = true := by cases o <;> exact strOk_lit _
theorem Sg.inj {o p : Sg} (h : o.s = p.s) : o = p := by
  revert h
  cases o <;> cases p <;> first | (intro; rfl) | (intro h; exact absurd h (by decide +kernel))
inductive St
  | leaf (s : Str)
  | nd (o : Sg) (a b : St)
  deriving DecidableEq
def St.d : St → PyData
  | .leaf s => .str s
  | .nd o a b => .tuple [.str o.s, a.d, b.d]
def St.size : St → Nat
  | .leaf _ => 0
  | .nd _ a b => 1 + a.size + b.size
def St.hi : St → Nat
  | .leaf _ => 0
  | .nd _ a b => 1 + max a.hi b.hi
theorem St.hi_le : ∀ s : St, s.hi ≤ s.size
  | .leaf _ => Nat.le_refl _
  | .nd _ a b => by have := a.hi_le; have := b.hi_le; simp only [St.hi, St.size]; omega
def St.ends : St → List Str
  | .leaf s => [s]
  | .nd _ a b => a.ends ++ b.ends
theorem St.ends_len : ∀ s : St, s.ends.length = s.size + 1
  | .leaf _ => rfl
  | .nd _ a b => by have := a.ends_len; have := b.ends_len; simp only [St.ends, St.size, List.length_append]; omega
def St.ok (s : St) : Prop := ∀ x ∈ s.ends, PyData.strOk x = true
theorem St.ok.left {o : Sg} {a b : St} (h : (St.nd o a b).ok) : a.ok := fun x hx => h x (by simp [St.ends, hx])
theorem St.ok.right {o : Sg} {a b : St} (h : (St.nd o a b).ok) : b.ok := fun x hx => h x (by simp [St.ends, hx])
theorem St.ok.nd {o : Sg} {a b : St} (ha : a.ok) (hb : b.ok) : (St.nd o a b).ok := fun x hx => by
  rcases List.mem_append.mp hx with q | q
  · exact ha x q
  · exact hb x q
theorem St.lay : ∀ {s : St}, s.ok → s.d.canLay0 = true
  | .leaf x, h => h x (by simp [St.ends])
  | .nd o a b, h => by
    have h1 := St.lay h.left
    have h2 := St.lay h.right
    simp [St.d, PyData.canLay0, PyData.canLayAll0, o.ok, h1, h2]
theorem St.depth : ∀ s : St, s.d.depth = s.hi
  | .leaf _ => rfl
  | .nd o a b => by
    have := a.depth; have := b.depth
    simp only [St.d, PyData.depth, PyData.depthAll, St.hi]
    omega
theorem St.eqv : ∀ s t : St, PyData.eqv s.d t.d = decide (s = t)
  | .leaf x, .leaf y => by simp [St.d]
  | .leaf x, .nd _ _ _ => by simp [St.d, PyData.eqv]
  | .nd _ _ _, .leaf _ => by simp [St.d, PyData.eqv]
  | .nd o a b, .nd p c e => by
    have h1 := St.eqv a c
    have h2 := St.eqv b e
    simp only [St.d, PyData.eqv, PyData.eqvAll, h1, h2, Bool.and_true]
    have h3 : (o.s == p.s) = decide (o = p) := by
      by_cases q : o = p
      · subst q; simp
      · have : o.s ≠ p.s := fun z => q (Sg.inj z)
        simp [q, this]
    rw [h3]
    by_cases q : o = p <;> by_cases q2 : a = c <;> by_cases q3 : b = e <;> simp [q, q2, q3]
theorem St.eqOk {s t : St} (hs : s.ok) (ht : t.ok) (h : s.hi ≤ 190 ∨ t.hi ≤ 190) : eqOk s.d t.d = true := by
  simp only [Ls.eqOk, St.lay hs, St.lay ht, St.depth, Bool.and_self, Bool.true_and, decide_eq_true_eq]
  omega
theorem st_eq {s t : St} (hs : s.ok) (ht : t.ok) (h : s.hi ≤ 190 ∨ t.hi ≤ 190) : eqOp s.d t.d = some (.val (.bool (decide (s = t)))) := by
  rw [eqOp_eq, if_pos (St.eqOk hs ht h), St.eqv]
theorem st_ne {s t : St} (hs : s.ok) (ht : t.ok) (h : s.hi ≤ 190 ∨ t.hi ≤ 190) : neOp s.d t.d = some (.val (.bool (!decide (s = t)))) := by
  rw [neOp_eq, if_pos (St.eqOk hs ht h), St.eqv]
theorem kit_tt : kitB "tuple" "tuple" = some true := by decide
theorem kit_st : kitB "str" "tuple" = some false := by decide
theorem kit_ss : kitB "str" "str" = some true := by decide
theorem kit_ts : kitB "tuple" "str" = some false := by decide
theorem kit_ii : kitB "int" "int" = some true := by decide
theorem kit_ib : kitB "int" "bool" = some false := by decide
theorem kit_ll : kitB "list" "list" = some true := by decide

def StatOK (n : Nat) (f : DF) : Prop := ∀ (ds : List PyData) (ss : List Str) (k : Nat) (m : Int), k < n → k ≤ 1000 → BagOk m ds → m + 8 * k < 2 ^ 39 → 1 ≤ ss.length → ss.length ≤ 1000 →
  ∃ (t : St) (ds' : List PyData), t.size = k ∧ (∀ x ∈ t.ends, x ∈ ss ∨ x = Str.ofString "nought") ∧ BagOk (m + 8 * k + 1) ds' ∧
    f [.mut ds, .val (.list (ss.map .str)), .val (.int k)] = .ok (.val t.d) [.mut ds', .val (.list (ss.map .str)), .val (.int k)]
theorem stat_zero {f : DF} : StatOK 0 f := fun _ _ k _ h _ => absurd h (by omega)
theorem stat_step {n : Nat} {g f : DF} (hg : TakeOK g) (hf : StatOK n f) : StatOK (n + 1) (runB [0] 6 (l_statement g f)) := by
  intro ds ss k m hk hkk hb hm h1 h2
  have s2 : smallI 2 = true := by decide
  by_cases hz : k = 0
  · subst hz
    obtain ⟨v, d1, v0, v1, b1, e1⟩ := hg ds (2 * ss.length + 1) m hb (by omega) (by omega) (by omega)
    obtain ⟨w, rfl⟩ : ∃ w : Nat, v = (w : Int) := ⟨v.toNat, by omega⟩
    have hw : w < (ss ++ ss ++ [Str.ofString "nought"]).length := by simp; omega
    have ha : atI (ss.map PyData.str ++ (ss.map PyData.str ++ [.str (Str.ofString "nought")])) (w : Int) = some (.str ((ss ++ ss ++ [Str.ofString "nought"])[w])) := by
      have : ss.map PyData.str ++ (ss.map PyData.str ++ [.str (Str.ofString "nought")]) = (ss ++ ss ++ [Str.ofString "nought"]).map .str := by simp
      rw [this, atI_of (by omega) (by simp at hw ⊢; omega)]
      simp only [List.getElem_map, Int.toNat_natCast]
    refine ⟨.leaf ((ss ++ ss ++ [Str.ofString "nought"])[w]), d1, rfl, fun x hx => ?_, b1.mono (by omega), ?_⟩
    · have hm := List.getElem_mem hw
      simp only [St.ends, List.mem_singleton] at hx
      subst hx
      simp only [List.mem_append, List.mem_singleton] at hm
      rcases hm with (q | q) | q
      · exact .inl q
      · exact .inl q
      · exact .inr q
    · have z1 : ss.length + ss.length ≤ 16777216 := by omega
      have z2 : ss.length + (ss.length + 1) ≤ 16777216 := by omega
      have z3 : ss.length + ss.length + 1 ≤ 16777216 := by omega
      simp [runB, bodyEnv, l_statement, e1, s2, z1, z2, z3, sizeLine_eq, ha, outsF, St.d]
  · obtain ⟨v, d1, v0, v1, b1, e1⟩ := hg ds 5 m hb (by omega) (by omega) (by omega)
    obtain ⟨u, d2, u0, u1, b2, e2⟩ := hg d1 k (m + 1) b1 (by omega) (by omega) (by omega)
    obtain ⟨w, rfl⟩ : ∃ w : Nat, u = (w : Int) := ⟨u.toNat, by omega⟩
    obtain ⟨a, d3, a1, a2, b3, e3⟩ := hf d2 ss w (m + 1 + 1) (by omega) (by omega) b2 (by omega) h1 h2
    obtain ⟨b, d4, c1, c2, b4, e4⟩ := hf d3 ss (k - 1 - w) (m + 1 + 1 + 8 * w + 1) (by omega) (by omega) b3 (by omega) h1 h2
    have e4' : f [.mut d3, .val (.list (ss.map .str)), .val (.int ((k : Int) - 1 - w))] = .ok (.val b.d) [.mut d4, .val (.list (ss.map .str)), .val (.int ((k : Int) - 1 - w))] := by
      rw [show (k : Int) - 1 - w = ((k - 1 - w : Nat) : Int) by omega]; exact e4
    obtain ⟨o, ho⟩ : ∃ o : Sg, atI [PyData.str (Str.ofString "and"), .str (Str.ofString "or"), .str (Str.ofString "gives"), .str (Str.ofString "gives"), .str (Str.ofString "gives")] v = some (.str o.s) := by
      have : v = 0 ∨ v = 1 ∨ v = 2 ∨ v = 3 ∨ v = 4 := by omega
      rcases this with rfl | rfl | rfl | rfl | rfl
      · exact ⟨.con, rfl⟩
      · exact ⟨.dis, rfl⟩
      · exact ⟨.imp, rfl⟩
      · exact ⟨.imp, rfl⟩
      · exact ⟨.imp, rfl⟩
    refine ⟨.nd o a b, d4, by simp only [St.size]; omega, fun x hx => ?_, b4.mono (by omega), ?_⟩
    · rcases List.mem_append.mp hx with q | q
      · exact a2 x q
      · exact c2 x q
    · have hz' : ¬ ((k : Int) = 0) := by omega
      simp [runB, bodyEnv, l_statement, e1, e2, e3, e4', hz, sizeLine_eq, ho, outsF, St.d]
end Lb
namespace Lb
open PySem PySem.Spec PyProof.Rows L2 Ls
noncomputable def p_ends_of (g_ends_of : DF) : SF :=
  (sSeq (sIf (tNegT (tTru (eCall1 (isiFn "tuple") (eV 0)))) (sRet [] (eLst (aCons (eFz (eV 0)) aNil))) sNil) (sRet [] (eBin addOp (eCall [] g_ends_of (aCons (eFz (eBin idxOp (eV 0) (eC (.int 1)))) aNil)) (eCall [] g_ends_of (aCons (eFz (eBin idxOp (eV 0) (eC (.int 2)))) aNil)))))
noncomputable def l_ends (g_law_ends : DF) : SF :=
  (sSeq (sIf (tNegT (tTru (eCall1 (isiFn "tuple") (eV 0)))) (sRet [] (eLst (aCons (eFz (eV 0)) aNil))) sNil) (sRet [] (eBin addOp (eCall [] g_law_ends (aCons (eFz (eBin idxOp (eV 0) (eC (.int 1)))) aNil)) (eCall [] g_law_ends (aCons (eFz (eBin idxOp (eV 0) (eC (.int 2)))) aNil)))))
noncomputable def l_tuples (g_law_ends : DF) : SF :=
  (sRet [] (eBin subOp (eCall1 lenFn (eCall [] g_law_ends (aCons (eFz (eV 0)) aNil))) (eC (.int 1))))
noncomputable def p_tuples (g_ends_of : DF) : SF :=
  (sRet [] (eBin subOp (eCall1 lenFn (eCall [] g_ends_of (aCons (eFz (eV 0)) aNil))) (eC (.int 1))))
noncomputable def p_has_sign : SF :=
  (sRet [] (eAnd (eCall1 (isiFn "tuple") (eV 0)) (eBin eqOp (eBin idxOp (eV 0) (eC (.int 0))) (eV 1))))
noncomputable def p_weight (g_weight g_has_sign : DF) : SF :=
  (sSeq (sIf (tNegT (tTru (eCall1 (isiFn "tuple") (eV 0)))) (sRet [] (eC (.int 1))) sNil) (sRet [] (eBin addOp (eBin addOp (eBin addOp (eCall [] g_weight (aCons (eFz (eBin idxOp (eV 0) (eC (.int 1)))) aNil)) (eCall [] g_weight (aCons (eFz (eBin idxOp (eV 0) (eC (.int 2)))) aNil))) (eC (.int 1))) (eCall1 intFn (eCall [] g_has_sign (aCons (eFz (eV 0)) (aCons (eC (.str "and")) aNil)))))))
noncomputable def l_signs (g_law_signs : DF) : SF :=
  (sSeq (sIf (tNegT (tTru (eCall1 (isiFn "tuple") (eV 0)))) (sRet [] (eLst aNil)) sNil) (sRet [] (eBin addOp (eBin addOp (eLst (aCons (eFz (eBin idxOp (eV 0) (eC (.int 0)))) aNil)) (eCall [] g_law_signs (aCons (eFz (eBin idxOp (eV 0) (eC (.int 1)))) aNil))) (eCall [] g_law_signs (aCons (eFz (eBin idxOp (eV 0) (eC (.int 2)))) aNil)))))
noncomputable def l_due_1t : TF := (tBool (eBin eqOp (eV 2) (eC (.str "and"))))
noncomputable def l_due_1e : EF := (eV 2)
noncomputable def l_due_1 : EF := (eLc [2] (iSeq (eV 1)) (gN 2) l_due_1t l_due_1e)
noncomputable def l_due (g_law_signs : DF) : SF :=
  (sSeq (sSet 1 (eFz (eCall [] g_law_signs (aCons (eFz (eV 0)) aNil)))) (sRet [] (eBin addOp (eBin addOp (eBin mulOp (eC (.int 2)) (eCall1 lenFn (eV 1))) (eC (.int 1))) (eCall1 lenFn l_due_1))))

@[simp] theorem intFn_bool (b : Bool) : intFn (.bool b) = some (.val (.int (if b then 1 else 0))) := rfl
@[simp] theorem intFn_int (i : Int) : intFn (.int i) = some (.val (.int i)) := rfl
@[simp] theorem at3_0 (a b c : PyData) : atI [a, b, c] 0 = some a := rfl
@[simp] theorem at3_1' (a b c : PyData) : atI [a, b, c] 1 = some b := rfl
@[simp] theorem at3_2' (a b c : PyData) : atI [a, b, c] 2 = some c := rfl
def EndsOK (n : Nat) (f : DF) : Prop := ∀ s : St, s.hi < n → s.size ≤ 100000 → f [.val s.d] = .ok (.mut (s.ends.map .str)) [.val s.d]
theorem ends_zero {f : DF} : EndsOK 0 f := fun _ h => absurd h (by omega)
theorem ends_step {n : Nat} {f : DF} (hf : EndsOK n f) : EndsOK (n + 1) (runB [] 1 (l_ends f)) := by
  intro s h hz
  cases s with
  | leaf x => simp [runB, bodyEnv, l_ends, St.d, St.ends, kit_st, outsF, sizeLine_eq]
  | nd o a b =>
    simp only [St.hi, St.size] at h hz
    have e1 := hf a (by omega) (by omega)
    have e2 := hf b (by omega) (by omega)
    have l1 := a.ends_len
    have l2 := b.ends_len
    have z : a.ends.length + b.ends.length ≤ 16777216 := by omega
    simp [runB, bodyEnv, l_ends, St.d, St.ends, kit_tt, outsF, sizeLine_eq, e1, e2, z]
theorem ends_of_step {n : Nat} {f : DF} (hf : EndsOK n f) : EndsOK (n + 1) (runB [] 1 (p_ends_of f)) := ends_step hf
def TuplesOK (n : Nat) (f : DF) : Prop := ∀ s : St, s.hi < n → s.size ≤ 100000 → f [.val s.d] = .ok (.val (.int s.size)) [.val s.d]
theorem tuples_ok {n : Nat} {f : DF} (hf : EndsOK n f) : TuplesOK n (runB [] 1 (l_tuples f)) := by
  intro s h hz
  have e1 := hf s h hz
  have l1 := s.ends_len
  have z : (s.ends.length : Int) - 1 = s.size := by omega
  simp [runB, bodyEnv, l_tuples, e1, outsF, z]
theorem tuples_of_ok {n : Nat} {f : DF} (hf : EndsOK n f) : TuplesOK n (runB [] 1 (p_tuples f)) := tuples_ok hf
def HasOK (f : DF) : Prop := ∀ (s : St) (o : Sg), f [.val s.d, .val (.str o.s)] = .ok (.val (.bool (match s with | .leaf _ => false | .nd p _ _ => decide (p = o)))) [.val s.d, .val (.str o.s)]
theorem sg_eq (o p : Sg) : (o.s = p.s) = (o = p) := by
  by_cases h : o = p
  · simp [h]
  · have : ¬ o.s = p.s := fun z => h (Sg.inj z)
    simp [h, this]
theorem has_ok : HasOK (runB [] 2 p_has_sign) := by
  intro s o
  cases s with
  | leaf x => simp [runB, bodyEnv, p_has_sign, St.d, kit_st, outsF]
  | nd p a b => simp [runB, bodyEnv, p_has_sign, St.d, kit_tt, outsF, Sg.ok, sg_eq]
def St.wt : St → Nat
  | .leaf _ => 1
  | .nd o a b => a.wt + b.wt + 1 + (if o = .con then 1 else 0)
def WeightOK (n : Nat) (f : DF) : Prop := ∀ s : St, s.hi < n → f [.val s.d] = .ok (.val (.int s.wt)) [.val s.d]
theorem weight_zero {f : DF} : WeightOK 0 f := fun _ h => absurd h (by omega)
theorem weight_step {n : Nat} {f g : DF} (hf : WeightOK n f) (hg : HasOK g) : WeightOK (n + 1) (runB [] 1 (p_weight f g)) := by
  intro s h
  cases s with
  | leaf x => simp [runB, bodyEnv, p_weight, St.d, kit_st, outsF, St.wt]
  | nd o a b =>
    simp only [St.hi] at h
    have e1 := hf a (by omega)
    have e2 := hf b (by omega)
    have e3 : g [.val (.tuple [.str o.s, a.d, b.d]), .val (.str (Str.ofString "and"))] = .ok (.val (.bool (decide (o = .con)))) [.val (.tuple [.str o.s, a.d, b.d]), .val (.str (Str.ofString "and"))] := hg (.nd o a b) .con
    simp [runB, bodyEnv, p_weight, St.d, kit_tt, outsF, e1, e2, e3, St.wt]
    split <;> rfl
def St.signs : St → List Sg
  | .leaf _ => []
  | .nd o a b => o :: (a.signs ++ b.signs)
theorem St.signs_len : ∀ s : St, s.signs.length = s.size
  | .leaf _ => rfl
  | .nd _ a b => by have := a.signs_len; have := b.signs_len; simp only [St.signs, St.size, List.length_append, List.length_cons]; omega
theorem St.wt_eq : ∀ s : St, s.wt = 2 * s.signs.length + 1 + (s.signs.filter fun o => decide (o = .con)).length
  | .leaf _ => rfl
  | .nd o a b => by
    have h1 := a.wt_eq
    have h2 := b.wt_eq
    simp only [St.wt, St.signs, List.length_cons, List.length_append, List.filter_cons, List.filter_append]
    by_cases q : o = .con <;> simp [q] <;> omega
def SignsOK (n : Nat) (f : DF) : Prop := ∀ s : St, s.hi < n → s.size ≤ 100000 → f [.val s.d] = .ok (.mut (s.signs.map fun o => .str o.s)) [.val s.d]
theorem signs_zero {f : DF} : SignsOK 0 f := fun _ h => absurd h (by omega)
theorem signs_step {n : Nat} {f : DF} (hf : SignsOK n f) : SignsOK (n + 1) (runB [] 1 (l_signs f)) := by
  intro s h hz
  cases s with
  | leaf x => simp [runB, bodyEnv, l_signs, St.d, St.signs, kit_st, outsF, sizeLine_eq]
  | nd o a b =>
    simp only [St.hi, St.size] at h hz
    have e1 := hf a (by omega) (by omega)
    have e2 := hf b (by omega) (by omega)
    have l1 := a.signs_len
    have l2 := b.signs_len
    have z : 1 + a.signs.length ≤ 16777216 := by omega
    have z2 : a.signs.length + 1 + b.signs.length ≤ 16777216 := by omega
    have z3 : a.signs.length + 1 ≤ 16777216 := by omega
    simp [runB, bodyEnv, l_signs, St.d, St.signs, kit_tt, outsF, sizeLine_eq, e1, e2, z, z2, z3]
def DueOK (n : Nat) (f : DF) : Prop := ∀ s : St, s.hi < n → s.size ≤ 100000 → f [.val s.d] = .ok (.val (.int s.wt)) [.val s.d]
theorem due_ok {n : Nat} {f : DF} (hf : SignsOK n f) : DueOK n (runB [] 3 (l_due f)) := by
  intro s h hz
  have e1 := hf s h hz
  have hl := s.signs_len
  have lc := lc_map (vs := [2]) (g := gN 2) (ft := l_due_1t) (fe := l_due_1e) (fun d => match d with | .str x => decide (x = Str.ofString "and") | _ => false) (fun d => d)
    (ρ := [some (.val s.d), some (.val (.list (s.signs.map fun o => .str o.s))), none]) (ds := s.signs.map fun o => .str o.s) (by rw [PySem.sizeLine_eq]; simp; omega) (fun d hd => by
      obtain ⟨o, ho, rfl⟩ := List.mem_map.mp hd
      refine ⟨[some (.val s.d), some (.val (.list (s.signs.map fun o => .str o.s))), some (.val (.str o.s))], [some (.val s.d), some (.val (.list (s.signs.map fun o => .str o.s))), some (.val (.str o.s))], rfl, ?_, fun _ => rfl, fun _ => ⟨[some (.val s.d), some (.val (.list (s.signs.map fun o => .str o.s))), some (.val (.str o.s))], rfl, rfl⟩⟩
      simp [l_due_1t, Sg.ok])
  have s2 : smallI 2 = true := by decide
  have hc : ((s.signs.map fun o => PyData.str o.s).filter (fun d => match d with | .str x => decide (x = Str.ofString "and") | _ => false)).length = (s.signs.filter fun o => decide (o = .con)).length := by
    rw [List.filter_map, List.length_map]
    congr 1
    refine List.filter_congr fun o _ => ?_
    exact decide_eq_decide.mpr (by rw [← sg_eq]; rfl)
  have hw := s.wt_eq
  simp [runB, bodyEnv, l_due, e1, l_due_1, lc, s2, outsF]
  simp only [List.map_id'] at *
  omega
end Lb
namespace Lb
open PySem PySem.Spec PyProof.Rows L2 Ls
noncomputable def p_letters_1t : TF := (tBool (eBin neOp (eV 1) (eC (.str "nought"))))
noncomputable def p_letters_1e : EF := (eV 1)
noncomputable def p_letters_1 (g_ends_of : DF) : EF := (eLc [1] (iSeq (eCall [] g_ends_of (aCons (eFz (eV 0)) aNil))) (gN 1) p_letters_1t p_letters_1e)
noncomputable def p_letters (g_ends_of : DF) : SF :=
  (sRet [] (eCall1 sortedSetFn (p_letters_1 g_ends_of)))
noncomputable def l_letters_1t : TF := (tBool (eBin neOp (eV 1) (eC (.str "nought"))))
noncomputable def l_letters_1e : EF := (eV 1)
noncomputable def l_letters_1 (g_law_ends : DF) : EF := (eLc [1] (iSeq (eCall [] g_law_ends (aCons (eFz (eV 0)) aNil))) (gN 1) l_letters_1t l_letters_1e)
noncomputable def l_letters (g_law_ends : DF) : SF :=
  (sRet [] (eCall1 sortedSetFn (l_letters_1 g_law_ends)))
noncomputable def l_counted (g_law_counted : DF) : SF :=
  (sSeq (sIf (tNegT (tTru (eCall1 (isiFn "tuple") (eV 0)))) (sRet [] (eC (.int 0))) sNil) (sRet [] (eBin addOp (eBin addOp (eC (.int 1)) (eCall [] g_law_counted (aCons (eFz (eBin idxOp (eV 0) (eC (.int 1)))) aNil))) (eCall [] g_law_counted (aCons (eFz (eBin idxOp (eV 0) (eC (.int 2)))) aNil)))))

theorem eq_same {d : PyData} (c : d.canLay0 = true) (h : d.depth ≤ 190) : eqOp d d = some (.val (.bool true)) := by
  rw [eqOp_eq, if_pos (by simp [eqOk, c, h]), PySem.SeqAt.eqv_refl d c]
theorem ne_same {d : PyData} (c : d.canLay0 = true) (h : d.depth ≤ 190) : neOp d d = some (.val (.bool false)) := by
  rw [neOp_eq, if_pos (by simp [eqOk, c, h]), PySem.SeqAt.eqv_refl d c]; rfl
theorem depth_strs : ∀ ss : List Str, PyData.depthAll (ss.map .str) = 0
  | [] => rfl
  | s :: ss => by simp [PyData.depthAll, PyData.depth, depth_strs ss]
theorem depth_list_strs (ss : List Str) : (PyData.list (ss.map .str)).depth ≤ 1 := by simp [PyData.depth, depth_strs]
theorem lay_list_strs {ss : List Str} (h : ∀ t ∈ ss, PyData.strOk t = true) : (PyData.list (ss.map .str)).canLay0 = true := by
  simp [PyData.canLay0, strs_lay h]
theorem cells {body : SF} {v : Nat} {a b c : Int} {ns : List Int} {ρ : Ls.Env} (hs : ρ[0]? = some (some (.val (scrD ns)))) (hl : ns.length ≤ 63) (ha : 0 ≤ a) (ha2 : a ≤ 63) (hb : b ≤ 63) (hc : 0 ≤ c) (hc2 : c ≤ 63) (I : Ls.Env → Prop) (h0 : I ρ)
    (h : ∀ (i : Nat) ρ, i < 64 → I ρ → ∃ ρ2, body (ρ.set v (some (.val (.int i)))) = .nx ρ2 ∧ I ρ2) :
    ∃ ρ', sFor (iRange1 (eBin maxFn2 (eC (.int a)) (eBin minFn2 (eC (.int b)) (eBin subOp (eCall1 lenFn (eV 0)) (eC (.int c)))))) (gN v) body ρ = .nx ρ' ∧ I ρ' := by
  obtain ⟨r, hr⟩ : ∃ r : Int, r = (if (if (ns.length : Int) - c < b then (ns.length : Int) - c else b) > a then (if (ns.length : Int) - c < b then (ns.length : Int) - c else b) else a) := ⟨_, rfl⟩
  have r0 : 0 ≤ r ∧ r ≤ 63 := by subst hr; split <;> split <;> omega
  have hro : rgOk r = true := by simp only [rgOk, Bool.and_eq_true, decide_eq_true_eq]; omega
  obtain ⟨ρ', e, hI⟩ := forL_inv (g := gN v) (body := body) (ds := rangeL 0 r) (fun _ ρ => I ρ) (fun i hi ρ hp => by
    rw [rangeL_len] at hi
    obtain ⟨ρ2, w1, w2⟩ := h i ρ (by omega) hp
    exact ⟨_, ρ2, by rw [rangeL_get]; rfl, .inl w1, w2⟩) h0
  refine ⟨ρ', ?_, hI⟩
  have e2 : maxFn2 (.int a) (.int (if (ns.length : Int) - c < b then (ns.length : Int) - c else b)) = some (.val (.int r)) := by rw [maxFn2_int, ← hr]
  simp only [sFor_eq, iRange1_eq, eBin_eq, eFt_eq, eC_eq, Res.bindOk, ftK_val, binK_eq, eCall1_eq, eV_eq, hs, slR_val, call1K_eq, rd_val, op1R_some, lenFn_scr, ansR_val, binK2_eq, op2R_some, subOp_int, minFn2_int, List.length_map, e2, rg1K_int, hro, if_true, Res.bindSOk, forK_eq, e]
theorem cells2 {body : SF} {v : Nat} {l a b : Int} {ns : List Int} {ρ : Ls.Env} (hs : ρ[0]? = some (some (.val (scrD ns)))) (hl : ns.length ≤ 63) (hl0 : 0 ≤ l) (hl2 : l ≤ a) (ha2 : a ≤ 63) (hb : b ≤ 63) (I : Ls.Env → Prop) (h0 : I ρ)
    (h : ∀ (i : Nat) ρ, i < 64 → I ρ → ∃ ρ2, body (ρ.set v (some (.val (.int i)))) = .nx ρ2 ∧ I ρ2) :
    ∃ ρ', sFor (iRange2 (eC (.int l)) (eBin maxFn2 (eC (.int a)) (eBin minFn2 (eC (.int b)) (eCall1 lenFn (eV 0))))) (gN v) body ρ = .nx ρ' ∧ I ρ' := by
  obtain ⟨r, hr⟩ : ∃ r : Int, r = (if (if (ns.length : Int) < b then (ns.length : Int) else b) > a then (if (ns.length : Int) < b then (ns.length : Int) else b) else a) := ⟨_, rfl⟩
  have r0 : l ≤ r ∧ r ≤ 63 := by subst hr; split <;> split <;> omega
  have hro : rgOk r = true := by simp only [rgOk, Bool.and_eq_true, decide_eq_true_eq]; omega
  have hlo : rgOk l = true := by simp only [rgOk, Bool.and_eq_true, decide_eq_true_eq]; omega
  obtain ⟨ρ', e, hI⟩ := forL_inv (g := gN v) (body := body) (ds := rangeL l r) (fun _ ρ => I ρ) (fun i hi ρ hp => by
    have hi' : i < (r - l).toNat := by simpa [rangeL] using hi
    obtain ⟨ρ2, w1, w2⟩ := h (l.toNat + i) ρ (by omega) hp
    refine ⟨_, ρ2, ?_, .inl w1, w2⟩
    have : (rangeL l r)[i] = .int ((l.toNat + i : Nat) : Int) := by
      simp [rangeL]; omega
    rw [this]; rfl) h0
  refine ⟨ρ', ?_, hI⟩
  have e2 : maxFn2 (.int a) (.int (if (ns.length : Int) < b then (ns.length : Int) else b)) = some (.val (.int r)) := by rw [maxFn2_int, ← hr]
  simp only [sFor_eq, iRange2_eq, eBin_eq, eFt_eq, eFz_eq, fzK_val, rg2K_eq, eC_eq, Res.bindOk, ftK_val, binK_eq, eCall1_eq, eV_eq, hs, slR_val, call1K_eq, rd_val, op1R_some, lenFn_scr, ansR_val, binK2_eq, op2R_some, subOp_int, minFn2_int, List.length_map, e2, rg2K2_int, hro, hlo, Bool.and_self, if_true, Res.bindSOk, forK_eq, e]
abbrev nought : Str := Str.ofString "nought"
def St.lets (s : St) : List Str := ssetS (s.ends.filter fun x => !decide (x = nought))
theorem mem_sset {x : Str} {xs : List Str} : x ∈ ssetS xs ↔ x ∈ xs := by
  unfold ssetS
  rw [(sortS_perm _).mem_iff, mem_uniqS]
theorem len_sset (xs : List Str) : (ssetS xs).length ≤ xs.length := by
  unfold ssetS
  rw [(sortS_perm _).length_eq]; exact len_uniqS xs
def LettersOK (n : Nat) (f : DF) : Prop := ∀ s : St, s.hi < n → s.size ≤ 60 → s.ok → f [.val s.d] = .ok (.mut (s.lets.map .str)) [.val s.d]
theorem filter_strs (p : Str → Bool) (q : PyData → Bool) : ∀ (ss : List Str), (∀ s ∈ ss, q (.str s) = p s) → ((ss.map PyData.str).filter q) = (ss.filter p).map .str
  | [], _ => rfl
  | s :: ss, h => by
    have h1 := h s (by simp)
    have h2 := filter_strs p q ss fun t ht => h t (by simp [ht])
    cases hp : p s
    · rw [hp] at h1; simp [h1, hp, h2]
    · rw [hp] at h1; simp [h1, hp, h2]
def strD : PyData → Str
  | .str s => s
  | _ => nought
theorem letters_core {ft : TF} {fe : EF} {s : St} (ok : s.ok) (hz : s.size ≤ 60) {ρ : Ls.Env} (hv : ρ[1]? = some none) (hf : ∀ x, PyData.strOk x = true → ft (ρ.set 1 (some (.val (.str x)))) = .ok (!decide (x = nought)) (ρ.set 1 (some (.val (.str x)))))
    (he : ∀ x, eFz fe (ρ.set 1 (some (.val (.str x)))) = .ok (.val (.str x)) (ρ.set 1 (some (.val (.str x))))) : lcL [1] (gN 1) ft fe (s.ends.map .str) ρ [] = .ok ((s.ends.filter fun x => !decide (x = nought)).map .str) ρ := by
  have l := s.ends_len
  have := lc_if (v := 1) (ft := ft) (fe := fe) (fun d => !decide (strD d = nought)) (fun d => d) (ρ := ρ) (ds := s.ends.map .str) (by simp; omega) hv (fun d hd => by
    obtain ⟨x, hx, rfl⟩ := List.mem_map.mp hd
    exact hf x (ok x hx)) (fun d hd _ => by
    obtain ⟨x, hx, rfl⟩ := List.mem_map.mp hd
    exact he x)
  rw [this, List.map_id', filter_strs (fun x => !decide (x = nought)) _ _ (fun t _ => rfl)]
theorem letters_ok {n : Nat} {f : DF} (hf : EndsOK n f) : LettersOK n (runB [] 2 (p_letters f)) := by
  intro s h hz ok
  have e := hf s h (by omega)
  have l := s.ends_len
  have lc := letters_core (ft := p_letters_1t) (fe := p_letters_1e) ok hz (ρ := [some (.val s.d), none]) rfl (fun x hx => by
    by_cases q : x = nought <;> simp [p_letters_1t, hx, q]) (fun x => by simp [p_letters_1e])
  have fl : (s.ends.filter fun x => !decide (x = nought)).length < 64 := by
    have := List.length_filter_le (fun x => !decide (x = nought)) s.ends
    omega
  have sf := sortedSetFn_strs fl
  simp [runB, bodyEnv, p_letters, p_letters_1, e, lc, sf, outsF, St.lets]
theorem law_letters_ok {n : Nat} {f : DF} (hf : EndsOK n f) : LettersOK n (runB [] 2 (l_letters f)) := by
  intro s h hz ok
  have e := hf s h (by omega)
  have l := s.ends_len
  have lc := letters_core (ft := l_letters_1t) (fe := l_letters_1e) ok hz (ρ := [some (.val s.d), none]) rfl (fun x hx => by
    by_cases q : x = nought <;> simp [l_letters_1t, hx, q]) (fun x => by simp [l_letters_1e])
  have fl : (s.ends.filter fun x => !decide (x = nought)).length < 64 := by
    have := List.length_filter_le (fun x => !decide (x = nought)) s.ends
    omega
  have sf := sortedSetFn_strs fl
  simp [runB, bodyEnv, l_letters, l_letters_1, e, lc, sf, outsF, St.lets]
def CountedOK (n : Nat) (f : DF) : Prop := ∀ s : St, s.hi < n → f [.val s.d] = .ok (.val (.int s.size)) [.val s.d]
theorem counted_zero {f : DF} : CountedOK 0 f := fun _ h => absurd h (by omega)
theorem counted_step {n : Nat} {f : DF} (hf : CountedOK n f) : CountedOK (n + 1) (runB [] 1 (l_counted f)) := by
  intro s h
  cases s with
  | leaf x => simp [runB, bodyEnv, l_counted, St.d, kit_st, outsF, St.size]
  | nd o a b =>
    simp only [St.hi] at h
    have e1 := hf a (by omega)
    have e2 := hf b (by omega)
    have a1 : atI [PyData.str o.s, a.d, b.d] 1 = some a.d := rfl
    have a2 : atI [PyData.str o.s, a.d, b.d] 2 = some b.d := rfl
    simp [runB, bodyEnv, l_counted, St.d, kit_tt, a1, a2, e1, e2, outsF, St.size]
end Lb
namespace Lb
open PySem PySem.Spec PyProof.Rows L2 Ls
noncomputable def p_is_true (g_is_true : DF) : SF :=
  (sSeq (sIf (tTru (eCall1 (isiFn "str") (eV 0))) (sRet [] (eGetF (eV 1) (eV 0))) sNil) (sSeq (sAsg (gT 3 (gsCons (gN 2) (gsCons (gN 3) (gsCons (gN 4) gsNil)))) (eV 0)) (sSeq (sIf (tBool (eBin eqOp (eV 2) (eC (.str "and")))) (sRet [] (eAnd (eCall [] g_is_true (aCons (eFz (eV 3)) (aCons (eFz (eV 1)) aNil))) (eCall [] g_is_true (aCons (eFz (eV 4)) (aCons (eFz (eV 1)) aNil))))) sNil) (sSeq (sIf (tBool (eBin eqOp (eV 2) (eC (.str "or")))) (sRet [] (eOr (eCall [] g_is_true (aCons (eFz (eV 3)) (aCons (eFz (eV 1)) aNil))) (eCall [] g_is_true (aCons (eFz (eV 4)) (aCons (eFz (eV 1)) aNil))))) sNil) (sRet [] (eOr (eCall [] g_is_true (aCons (eFz (eV 4)) (aCons (eFz (eV 1)) aNil))) (eNot (eCall [] g_is_true (aCons (eFz (eV 3)) (aCons (eFz (eV 1)) aNil))))))))))
noncomputable def p_twice : SF :=
  (sRet [] (eTup (aCons (eC (.str "gives")) (aCons (eTup (aCons (eC (.str "gives")) (aCons (eFz (eV 0)) (aCons (eC (.str "nought")) aNil)))) (aCons (eC (.str "nought")) aNil)))))
noncomputable def l_true (g_law_true : DF) : SF :=
  (sSeq (sIf (tNegT (tTru (eCall1 (isiFn "tuple") (eV 0)))) (sRet [] (eBin inOp (eV 0) (eV 1))) sNil) (sSeq (sSet 2 (eFz (eCall [] g_law_true (aCons (eFz (eBin idxOp (eV 0) (eC (.int 1)))) (aCons (eFz (eV 1)) aNil))))) (sSeq (sSet 3 (eFz (eCall [] g_law_true (aCons (eFz (eBin idxOp (eV 0) (eC (.int 2)))) (aCons (eFz (eV 1)) aNil))))) (sSeq (sIf (tBool (eBin eqOp (eBin idxOp (eV 0) (eC (.int 0))) (eC (.str "and")))) (sRet [] (eAnd (eV 2) (eV 3))) sNil) (sSeq (sIf (tBool (eBin eqOp (eBin idxOp (eV 0) (eC (.int 0))) (eC (.str "or")))) (sRet [] (eOr (eV 2) (eV 3))) sNil) (sRet [] (eOr (eV 3) (eNot (eV 2)))))))))
noncomputable def l_setting (g_law_take : DF) : SF :=
  (sDict 2 "zz" (eBin eqOp (eCall [0] g_law_take (aCons (eV 0) (aCons (eC (.int 2)) aNil))) (eC (.int 0))) (kFor 2 (iSeq (eV 1)) (gN 3) (kSeq (kOwn 2 (sSet 4 (eCall [0] g_law_take (aCons (eV 0) (aCons (eC (.int 5)) aNil))))) (kIfPut 2 (tBool (eBin ltOp (eV 4) (eC (.int 4)))) (eV 3) (eBin eqOp (eBin modOp (eV 4) (eC (.int 2))) (eC (.int 0)))))))
noncomputable def k47_law_1e (g_law_bag g_law_setting : DF) : EF := (eCall [0] g_law_setting (aCons (eCall [] g_law_bag (aCons (eFz (eV 0)) (aCons (eFz (eBin addOp (eC (.int 1)) (eV 4))) aNil))) (aCons (eFz (eV 2)) aNil)))
noncomputable def k47_law_1 (g_law_bag g_law_setting : DF) : EF := (eLc [4] (iRange1 (eC (.int 2))) (gN 4) tYesT (k47_law_1e g_law_bag g_law_setting))
noncomputable def k47_law_4t : TF := (tTru (eGetF (eV 7) (eV 11)))
noncomputable def k47_law_4e : EF := (eV 11)
noncomputable def k47_law_4 : EF := (eLc [11] (iSeq (eV 2)) (gN 11) k47_law_4t k47_law_4e)
noncomputable def k47_law_3b (g_law_true g_is_true : DF) : SF := (sSeq (sSet 8 (eFz (eCall1 dictFn (eV 7)))) (sSeq (sSet 9 (eFz (eCall [] g_law_true (aCons (eFz (eV 6)) (aCons (eFz k47_law_4) aNil))))) (sSeq (sSet 10 (eFz (eCall [] g_is_true (aCons (eFz (eV 6)) (aCons (eFz (eV 8)) aNil))))) (sIf (tEitherT (tNegT (tTru (eCall1 (isiFn "bool") (eV 10)))) (tEitherT (tBool (eBin neOp (eV 10) (eV 9))) (tBool (eBin neDOp (eV 8) (eV 7))))) (sRet [] (eC (.bool false))) sNil))))
noncomputable def k47_law_3 (g_law_true g_is_true : DF) : SF := (sFor (iSeq (eV 3)) (gN 7) (k47_law_3b g_law_true g_is_true))
noncomputable def k47_law_2b (g_law_bag g_law_take g_law_statement g_twice g_law_true g_is_true : DF) : SF := (sSeq (sSet 1 (eCall [] g_law_bag (aCons (eFz (eV 0)) (aCons (eFz (eBin addOp (eC (.int 3)) (eV 4))) aNil)))) (sSeq (sSet 5 (eCall [0] g_law_take (aCons (eV 1) (aCons (eC (.int 7)) aNil)))) (sSeq (sIf (tBool (eBin eqOp (eCall [0] g_law_take (aCons (eV 1) (aCons (eC (.int 4)) aNil))) (eC (.int 3)))) (sSet 5 (eC (.int 10))) sNil) (sSeq (sSet 6 (eCall [0] g_law_statement (aCons (eV 1) (aCons (eFz (eV 2)) (aCons (eFz (eV 5)) aNil))))) (sSeq (sIf (tBool (eBin neOp (eCall [] g_twice (aCons (eFz (eV 6)) aNil)) (eTup (aCons (eC (.str "gives")) (aCons (eTup (aCons (eC (.str "gives")) (aCons (eFz (eV 6)) (aCons (eC (.str "nought")) aNil)))) (aCons (eC (.str "nought")) aNil)))))) (sRet [] (eC (.bool false))) sNil) (k47_law_3 g_law_true g_is_true))))))
noncomputable def k47_law_2 (g_law_bag g_law_take g_law_statement g_twice g_law_true g_is_true : DF) : SF := (sFor (iRange1 (eC (.int 6))) (gN 4) (k47_law_2b g_law_bag g_law_take g_law_statement g_twice g_law_true g_is_true))
noncomputable def k47_law (g_law_bag g_law_names g_law_take g_law_setting g_law_statement g_twice g_law_true g_is_true : DF) : SF :=
  (sSeq (sSet 1 (eCall [] g_law_bag (aCons (eFz (eV 0)) (aCons (eC (.int 0)) aNil)))) (sSeq (sSet 2 (eFz (eCall [0] g_law_names (aCons (eV 1) (aCons (eFz (eBin addOp (eC (.int 1)) (eCall [0] g_law_take (aCons (eV 1) (aCons (eC (.int 4)) aNil))))) aNil))))) (sSeq (sSet 3 (eFz (eBin addOp (k47_law_1 g_law_bag g_law_setting) (eLst (aCons (eC (dctD [])) aNil))))) (sSeq (k47_law_2 g_law_bag g_law_take g_law_statement g_twice g_law_true g_is_true) (sRet [] (eC (.bool true)))))))
theorem seq_nx47 {s s2 : SF} {ρ ρ' : Ls.Env} (h : s ρ = .nx ρ') : sSeq s s2 ρ = s2 ρ' := by rw [sSeq_eq, h]; rfl
def truB (v : Str → Bool) : St → Bool
  | .leaf x => v x
  | .nd .con a b => truB v a && truB v b
  | .nd .dis a b => truB v a || truB v b
  | .nd .imp a b => truB v b || !truB v a
theorem truB_loc {v w : Str → Bool} : ∀ {s : St}, (∀ x ∈ s.ends, v x = w x) → truB v s = truB w s
  | .leaf x, h => h x (by simp [St.ends])
  | .nd o a b, h => by
    have ha := truB_loc (v := v) (w := w) (s := a) fun x hx => h x (by simp [St.ends, hx])
    have hb := truB_loc (v := v) (w := w) (s := b) fun x hx => h x (by simp [St.ends, hx])
    cases o <;> simp only [truB, ha, hb]
def bval (kvs : List (Str × Bool)) (x : Str) : Bool := (valB kvs x).getD false
@[simp] theorem dictFn_dct (kvs : List (Str × Bool)) : dictFn (dctD kvs) = some (.val (dctD kvs)) := by unfold dictFn; rw [dicOf_dct]
theorem neD_same {kvs : List (Str × Bool)} (h : (kvs.map (·.1)).Nodup) : neDOp (dctD kvs) (dctD kvs) = some (.val (.bool false)) := by
  unfold neDOp; rw [dicOf_dct]; exact if_pos ⟨rfl, h⟩
def IsTrueOK (n : Nat) (f : DF) : Prop := ∀ (s : St) (kvs : List (Str × Bool)), s.hi < n → s.ok → f [.val s.d, .val (dctD kvs)] = .ok (.val (.bool (truB (bval kvs) s))) [.val s.d, .val (dctD kvs)]
theorem istrue_zero {f : DF} : IsTrueOK 0 f := fun _ _ h => absurd h (by omega)
theorem istrue_step {n : Nat} {f : DF} (hf : IsTrueOK n f) : IsTrueOK (n + 1) (runB [] 5 (p_is_true f)) := by
  intro s kvs hs ok
  cases s with
  | leaf x =>
    have hx : PyData.strOk x = true := ok x (by simp [St.ends])
    have h : eGetF (eV 1) (eV 0) [some (.val (.str x)), some (.val (dctD kvs)), none, none, none] = .ok (.val (.bool (bval kvs x))) [some (.val (.str x)), some (.val (dctD kvs)), none, none, none] := eGetF_at (ρ1 := [some (.val (.str x)), some (.val (dctD kvs)), none, none, none]) (by simp) (by simp)
    generalize dctD kvs = D at *
    simp [runB, bodyEnv, p_is_true, St.d, kit_ss, h, outsF, truB]
  | nd o a b =>
    simp only [St.hi] at hs
    have e1 := hf a kvs (by omega) ok.left
    have e2 := hf b kvs (by omega) ok.right
    generalize dctD kvs = D at *
    generalize bval kvs = v at *
    cases o with
    | con =>
      have w1 : (Sg.con.s = Str.ofString "and") = True := by simp [Sg.s]
      cases p : truB v a <;> rw [p] at e1 <;> simp [runB, bodyEnv, p_is_true, St.d, kit_ts, e1, e2, Sg.ok, w1, truB, p, outsF]
    | dis =>
      have w1 : (Sg.dis.s = Str.ofString "and") = False := by have := sg_eq .dis .con; simpa [Sg.s] using this
      have w2 : (Sg.dis.s = Str.ofString "or") = True := by simp [Sg.s]
      cases p : truB v a <;> rw [p] at e1 <;> simp [runB, bodyEnv, p_is_true, St.d, kit_ts, e1, e2, Sg.ok, w1, w2, truB, p, outsF]
    | imp =>
      have w1 : (Sg.imp.s = Str.ofString "and") = False := by have := sg_eq .imp .con; simpa [Sg.s] using this
      have w2 : (Sg.imp.s = Str.ofString "or") = False := by have := sg_eq .imp .dis; simpa [Sg.s] using this
      cases p : truB v b <;> rw [p] at e2 <;> simp [runB, bodyEnv, p_is_true, St.d, kit_ts, e1, e2, Sg.ok, w1, w2, truB, p, outsF]
def LTrueOK (n : Nat) (f : DF) : Prop := ∀ (s : St) (V : List Str), s.hi < n → s.ok → (∀ x ∈ V, PyData.strOk x = true) → f [.val s.d, .val (.list (V.map .str))] = .ok (.val (.bool (truB (fun x => decide (x ∈ V)) s))) [.val s.d, .val (.list (V.map .str))]
theorem ltrue_zero {f : DF} : LTrueOK 0 f := fun _ _ h => absurd h (by omega)
theorem ltrue_step {n : Nat} {f : DF} (hf : LTrueOK n f) : LTrueOK (n + 1) (runB [] 4 (l_true f)) := by
  intro s V hs ok hV
  cases s with
  | leaf x =>
    have hx : PyData.strOk x = true := ok x (by simp [St.ends])
    have hin := inL_strs hx hV
    simp [runB, bodyEnv, l_true, St.d, kit_st, hin, outsF, truB]
  | nd o a b =>
    simp only [St.hi] at hs
    have e1 := hf a V (by omega) ok.left hV
    have e2 := hf b V (by omega) ok.right hV
    generalize V.map PyData.str = D at *
    generalize (fun x => decide (x ∈ V)) = v at *
    cases o with
    | con =>
      have w1 : (Sg.con.s = Str.ofString "and") = True := by simp [Sg.s]
      cases p : truB v a <;> rw [p] at e1 <;> simp [runB, bodyEnv, l_true, St.d, kit_tt, e1, e2, Sg.ok, w1, truB, p, outsF]
    | dis =>
      have w1 : (Sg.dis.s = Str.ofString "and") = False := by have := sg_eq .dis .con; simpa [Sg.s] using this
      have w2 : (Sg.dis.s = Str.ofString "or") = True := by simp [Sg.s]
      cases p : truB v a <;> rw [p] at e1 <;> simp [runB, bodyEnv, l_true, St.d, kit_tt, e1, e2, Sg.ok, w1, w2, truB, p, outsF]
    | imp =>
      have w1 : (Sg.imp.s = Str.ofString "and") = False := by have := sg_eq .imp .con; simpa [Sg.s] using this
      have w2 : (Sg.imp.s = Str.ofString "or") = False := by have := sg_eq .imp .dis; simpa [Sg.s] using this
      cases p : truB v b <;> rw [p] at e2 <;> simp [runB, bodyEnv, l_true, St.d, kit_tt, e1, e2, Sg.ok, w1, w2, truB, p, outsF]
def nt (s : St) : St := .nd .imp (.nd .imp s (.leaf (Str.ofString "nought"))) (.leaf (Str.ofString "nought"))
def Twice47 (f : DF) : Prop := ∀ s : St, f [.val s.d] = .ok (.val (nt s).d) [.val s.d]
theorem twice47 : Twice47 (runB [] 1 p_twice) := by
  intro s
  simp [runB, bodyEnv, p_twice, nt, St.d, Sg.s, outsF, sizeLine_eq]
structure SetS (ss : List Str) (kvs : List (Str × Bool)) : Prop where
  n : (kvs.map (·.1)).Nodup
  k : ∀ p ∈ kvs, p.1 = Str.ofString "zz" ∨ p.1 ∈ ss
theorem put_key {kvs : List (Str × Bool)} {x : Str} {b : Bool} : (putB kvs x b).map (·.1) = if (kvs.any fun p => decide (p.1 = x)) = true then kvs.map (·.1) else kvs.map (·.1) ++ [x] := by
  unfold putB
  split
  · rw [List.map_map]
    refine List.map_congr_left fun p _ => ?_
    simp only [Function.comp_apply]
    split <;> rfl
  · rw [List.map_append]; rfl
theorem put_len {kvs : List (Str × Bool)} {x : Str} {b : Bool} : (putB kvs x b).length ≤ kvs.length + 1 := by
  have := congrArg List.length (put_key (kvs := kvs) (x := x) (b := b))
  rw [List.length_map] at this
  rw [this]
  split <;> simp
theorem SetS.put {ss : List Str} {kvs : List (Str × Bool)} {x : Str} {b : Bool} (h : SetS ss kvs) (hx : x ∈ ss) : SetS ss (putB kvs x b) := by
  have pk := put_key (kvs := kvs) (x := x) (b := b)
  refine ⟨?_, fun p hp => ?_⟩
  · rw [pk]
    split
    · exact h.n
    · rename_i q
      rw [List.nodup_append]
      refine ⟨h.n, by simp, fun y hy z hz => ?_⟩
      rw [List.mem_singleton.mp hz]
      rintro rfl
      obtain ⟨p, hp, e⟩ := List.mem_map.mp hy
      exact q (List.any_eq_true.mpr ⟨p, hp, decide_eq_true e⟩)
  · have hm : p.1 ∈ (putB kvs x b).map (·.1) := List.mem_map.mpr ⟨p, hp, rfl⟩
    rw [pk] at hm
    have old : ∀ y ∈ kvs.map (·.1), y = Str.ofString "zz" ∨ y ∈ ss := fun y hy => by
      obtain ⟨q, hq, rfl⟩ := List.mem_map.mp hy
      exact h.k q hq
    split at hm
    · exact old _ hm
    · rcases List.mem_append.mp hm with q | q
      · exact old _ q
      · rw [List.mem_singleton.mp q]; exact .inr hx
abbrev sEnv (ds : List PyData) (ss : List Str) (x3 x4 : Option Sl) : Ls.Env := [some (.mut ds), some (.val (.list (ss.map .str))), none, x3, x4]
theorem kIfPut_t {k : Nat} {ft : TF} {fk fv : EF} {kv : List (Str × Bool)} {ρ ρ1 ρ2 ρ3 : Ls.Env} {b : Bool} {x : Str} (h1 : ft ρ = .ok true ρ1) (h2 : eFz fv ρ1 = .ok (.val (.bool b)) ρ2) (h3 : eFz fk ρ2 = .ok (.val (.str x)) ρ3) (h4 : noneAt ρ3 k = true) (h5 : kv.length < sizeLine) :
    kIfPut k ft fk fv kv ρ = some (putB kv x b, ρ3) := by
  unfold kIfPut; rw [h1]; dsimp only; rw [h2]; dsimp only; rw [h3]; exact if_pos ⟨h4, h5⟩
theorem kIfPut_f {k : Nat} {ft : TF} {fk fv : EF} {kv : List (Str × Bool)} {ρ ρ1 : Ls.Env} (h1 : ft ρ = .ok false ρ1) (h4 : noneAt ρ1 k = true) : kIfPut k ft fk fv kv ρ = some (kv, ρ1) := by
  unfold kIfPut; rw [h1]; exact if_pos h4
theorem kOwn_at {k : Nat} {fs : SF} {kv : List (Str × Bool)} {ρ ρ' : Ls.Env} (h : fs ρ = .nx ρ') (hn : noneAt ρ' k = true) : kOwn k fs kv ρ = some (kv, ρ') := by
  unfold kOwn; rw [h]; exact if_pos hn
theorem kSeq_at {f g : KF} {kv kv' : List (Str × Bool)} {ρ ρ' : Ls.Env} (h : f kv ρ = some (kv', ρ')) : kSeq f g kv ρ = g kv' ρ' := by unfold kSeq; rw [h]
theorem kForL_at {k : Nat} {g : GF} {fb : KF} {d : PyData} {ds : List PyData} {kv kv' : List (Str × Bool)} {ρ ρa ρb : Ls.Env} (h : g d ρ = some ρa) (hn : noneAt ρa k = true) (hb : fb kv ρa = some (kv', ρb)) : kForL k g fb (d :: ds) kv ρ = kForL k g fb ds kv' ρb := by
  rw [kForL, h]; dsimp only; rw [if_pos hn, hb]
theorem kFor_at {k : Nat} {fi : IF} {g : GF} {fb : KF} {ds : List PyData} {kv : List (Str × Bool)} {ρ ρ1 : Ls.Env} (h : fi ρ = .ok ds ρ1) (hn : noneAt ρ1 k = true) : kFor k fi g fb kv ρ = kForL k g fb ds kv ρ1 := by
  unfold kFor; rw [h]; exact if_pos hn
theorem sDict_at {k : Nat} {k0 : Str} {fe : EF} {fq : KF} {b : Bool} {kv : List (Str × Bool)} {ρ ρ1 ρ2 : Ls.Env} (h1 : eFz fe ρ = .ok (.val (.bool b)) ρ1) (hn : noneAt ρ1 k = true) (h2 : fq [(k0, b)] ρ1 = some (kv, ρ2)) : sDict k k0 fe fq ρ = .ret (.val (dctD kv)) ρ2 := by
  unfold sDict; rw [h1]; dsimp only; rw [if_pos hn, h2]
theorem set_loop {tk : DF} (h1 : TakeOK tk) {ss : List Str} : ∀ (l : List Str), (∀ x ∈ l, x ∈ ss) → ∀ (kv : List (Str × Bool)) (ds : List PyData) (m : Int) (x3 x4 : Option Sl), SetS ss kv → kv.length + l.length < 1000 → BagOk m ds → m + l.length < 2 ^ 39 →
    ∃ (kv' : List (Str × Bool)) (ds' : List PyData) (y3 y4 : Option Sl), SetS ss kv' ∧ BagOk (m + l.length) ds' ∧
      kForL 2 (gN 3) (kSeq (kOwn 2 (sSet 4 (eCall [0] tk (aCons (eV 0) (aCons (eC (.int 5)) aNil))))) (kIfPut 2 (tBool (eBin ltOp (eV 4) (eC (.int 4)))) (eV 3) (eBin eqOp (eBin modOp (eV 4) (eC (.int 2))) (eC (.int 0))))) (l.map .str) kv (sEnv ds ss x3 x4) = some (kv', sEnv ds' ss y3 y4)
  | [], _, kv, ds, m, x3, x4, S, _, hb, _ => ⟨kv, ds, x3, x4, S, by simpa using hb, rfl⟩
  | x :: l, hl, kv, ds, m, x3, x4, S, hz, hb, hm => by
    simp only [List.length_cons] at hz hm
    obtain ⟨v, d1, v0, v1, b1, e1⟩ := h1 ds 5 m hb (by omega) (by decide) (by decide)
    have o1 : kOwn 2 (sSet 4 (eCall [0] tk (aCons (eV 0) (aCons (eC (.int 5)) aNil)))) kv (sEnv ds ss (some (.val (.str x))) x4) = some (kv, sEnv d1 ss (some (.val (.str x))) (some (.val (.int v)))) := kOwn_at (by simp [e1]) rfl
    have s2 : smallI 2 = true := by decide
    by_cases q : v < 4
    · have t1 : tBool (eBin ltOp (eV 4) (eC (.int 4))) (sEnv d1 ss (some (.val (.str x))) (some (.val (.int v)))) = .ok true (sEnv d1 ss (some (.val (.str x))) (some (.val (.int v)))) := by simp [q]
      have sv : smallI v = true := by simp [smallI]; omega
      have t2 : eFz (eBin eqOp (eBin modOp (eV 4) (eC (.int 2))) (eC (.int 0))) (sEnv d1 ss (some (.val (.str x))) (some (.val (.int v)))) = .ok (.val (.bool (decide (v % 2 = 0)))) (sEnv d1 ss (some (.val (.str x))) (some (.val (.int v)))) := by simp [s2, sv]
      have t3 : eFz (eV 3) (sEnv d1 ss (some (.val (.str x))) (some (.val (.int v)))) = .ok (.val (.str x)) (sEnv d1 ss (some (.val (.str x))) (some (.val (.int v)))) := by simp
      have pl := put_len (kvs := kv) (x := x) (b := decide (v % 2 = 0))
      obtain ⟨kv', ds', y3, y4, S', b', e'⟩ := set_loop h1 l (fun y hy => hl y (by simp [hy])) (putB kv x (decide (v % 2 = 0))) d1 (m + 1) (some (.val (.str x))) (some (.val (.int v))) (S.put (hl x (by simp))) (by omega) b1 (by omega)
      refine ⟨kv', ds', y3, y4, S', b'.mono (by simp only [List.length_cons]; omega), ?_⟩
      rw [List.map_cons, kForL_at (ρa := sEnv ds ss (some (.val (.str x))) x4) rfl rfl ((kSeq_at o1).trans (kIfPut_t t1 t2 t3 rfl (by rw [sizeLine_eq]; omega)))]
      exact e'
    · have t1 : tBool (eBin ltOp (eV 4) (eC (.int 4))) (sEnv d1 ss (some (.val (.str x))) (some (.val (.int v)))) = .ok false (sEnv d1 ss (some (.val (.str x))) (some (.val (.int v)))) := by simp [q]
      obtain ⟨kv', ds', y3, y4, S', b', e'⟩ := set_loop h1 l (fun y hy => hl y (by simp [hy])) kv d1 (m + 1) (some (.val (.str x))) (some (.val (.int v))) S (by omega) b1 (by omega)
      refine ⟨kv', ds', y3, y4, S', b'.mono (by simp only [List.length_cons]; omega), ?_⟩
      rw [List.map_cons, kForL_at (ρa := sEnv ds ss (some (.val (.str x))) x4) rfl rfl ((kSeq_at o1).trans (kIfPut_f t1 rfl))]
      exact e'
def SettingOK (f : DF) : Prop := ∀ (ds : List PyData) (ss : List Str) (m : Int), BagOk m ds → m < 2 ^ 38 → ss.length ≤ 100 → ∃ (kvs : List (Str × Bool)) (ds' : List PyData), SetS ss kvs ∧
  f [.mut ds, .val (.list (ss.map .str))] = .ok (.val (dctD kvs)) [.mut ds', .val (.list (ss.map .str))]
theorem setting_ok {tk : DF} (h1 : TakeOK tk) : SettingOK (runB [0] 5 (l_setting tk)) := by
  intro ds ss m hb hm hl
  obtain ⟨v, d1, v0, v1, b1, e1⟩ := h1 ds 2 m hb (by omega) (by decide) (by decide)
  have t1 : eFz (eBin eqOp (eCall [0] tk (aCons (eV 0) (aCons (eC (.int 2)) aNil))) (eC (.int 0))) (sEnv ds ss none none) = .ok (.val (.bool (decide (v = 0)))) (sEnv d1 ss none none) := by simp [e1]
  obtain ⟨kv, d2, y3, y4, S, b2, e2⟩ := set_loop h1 (ss := ss) ss (fun _ h => h) [(Str.ofString "zz", decide (v = 0))] d1 (m + 1) none none ⟨by simp, by simp⟩ (by simp; omega) b1 (by omega)
  refine ⟨kv, d2, S, ?_⟩
  have t2 : l_setting tk (sEnv ds ss none none) = .ret (.val (dctD kv)) (sEnv d2 ss y3 y4) := by
    unfold l_setting
    exact sDict_at t1 rfl ((kFor_at (ds := ss.map .str) (ρ1 := sEnv d1 ss none none) (by simp) rfl).trans e2)
  generalize dctD kv = D at *
  simp only [sEnv] at t2
  simp [runB, bodyEnv, t2, outsF]
end Lb
namespace Lb
open PySem PySem.Spec PyProof.Rows L2 Ls
abbrev e47 (ns : List Int) (x1 : Option Sl) (ss : List Str) (D : List PyData) (x4 x5 x6 x7 x8 x9 x10 : Option Sl) : Ls.Env :=
  [some (.val (scrD ns)), x1, some (.val (.list (ss.map .str))), some (.val (.list D)), x4, x5, x6, x7, x8, x9, x10, none]
theorem kit_bb47 : kitB "bool" "bool" = some true := by decide +kernel
theorem no_key {kvs : List (Str × Bool)} {x : Str} (h : ∀ p ∈ kvs, p.1 ≠ x) : valB kvs x = none := by
  unfold valB
  rw [List.find?_eq_none.mpr fun p hp => by simpa using h p hp]; rfl
theorem bval_no {ss : List Str} {kvs : List (Str × Bool)} (S : SetS ss kvs) (n2 : ∀ s ∈ ss, IsLet s) : bval kvs (Str.ofString "nought") = false := by
  unfold bval
  rw [no_key fun p hp => ?_]
  · rfl
  · rcases S.k p hp with q | q
    · rw [q]; decide +kernel
    · intro z
      exact (n2 _ q).no (by rw [z]; simp [wordsOf])
def strV (v : Str → Bool) : PyData → Bool
  | .str x => v x
  | _ => false
theorem k47_3b {g_true g_is : DF} (h1 : LTrueOK 30 g_true) (h2 : IsTrueOK 30 g_is) {ns : List Int} {x1 : Option Sl} {ss : List Str} (n2 : ∀ s ∈ ss, IsLet s) (hl : ss.length ≤ 1000) {kvs : List (Str × Bool)} (S : SetS ss kvs) {s : St} (he : ∀ x ∈ s.ends, x ∈ ss ∨ x = Str.ofString "nought") (hz : s.size ≤ 20) {D : List PyData} {x4 x5 x8 x9 x10 : Option Sl} :
    ∃ y8 y9 y10, k47_law_3b g_true g_is (e47 ns x1 ss D x4 x5 (some (.val s.d)) (some (.val (dctD kvs))) x8 x9 x10) = .nx (e47 ns x1 ss D x4 x5 (some (.val s.d)) (some (.val (dctD kvs))) y8 y9 y10) := by
  have ok : s.ok := fun x hx => by
    rcases he x hx with q | q
    · exact (n2 x q).ok
    · rw [q]; exact strOk_lit _
  have sh := s.hi_le
  obtain ⟨V, hV⟩ : ∃ V, V = ss.filter (bval kvs) := ⟨_, rfl⟩
  have hVok : ∀ x ∈ V, PyData.strOk x = true := fun x hx => by rw [hV] at hx; exact (n2 x (List.mem_filter.mp hx).1).ok
  have e1 := h1 s V (by omega) ok hVok
  have e2 := h2 s kvs (by omega) ok
  have same : truB (fun x => decide (x ∈ V)) s = truB (bval kvs) s := truB_loc fun x hx => by
    rcases he x hx with q | q
    · cases hb : bval kvs x with
      | true => exact decide_eq_true (by rw [hV]; exact List.mem_filter.mpr ⟨q, hb⟩)
      | false => exact decide_eq_false fun z => by rw [hV] at z; rw [(List.mem_filter.mp z).2] at hb; cases hb
    · subst q
      rw [bval_no S n2]
      exact decide_eq_false fun z => by
        rw [hV] at z
        exact (n2 _ (List.mem_filter.mp z).1).no (by simp [wordsOf])
  rw [same] at e1
  have lc : ∀ x8 x9 x10, lcL [11] (gN 11) k47_law_4t k47_law_4e (ss.map .str) (e47 ns x1 ss D x4 x5 (some (.val s.d)) (some (.val (dctD kvs))) x8 x9 x10) [] = .ok (V.map .str) (e47 ns x1 ss D x4 x5 (some (.val s.d)) (some (.val (dctD kvs))) x8 x9 x10) := fun x8 x9 x10 => by
    have := lc_if (v := 11) (ft := k47_law_4t) (fe := k47_law_4e) (strV (bval kvs)) (fun d => d) (ρ := e47 ns x1 ss D x4 x5 (some (.val s.d)) (some (.val (dctD kvs))) x8 x9 x10) (ds := ss.map .str) (by rw [List.length_map]; omega) rfl (fun y hy => by
      obtain ⟨x, hx, rfl⟩ := List.mem_map.mp hy
      have h : eGetF (eV 7) (eV 11) [some (.val (scrD ns)), x1, some (.val (.list (ss.map .str))), some (.val (.list D)), x4, x5, some (.val s.d), some (.val (dctD kvs)), x8, x9, x10, some (.val (.str x))] = .ok (.val (.bool (bval kvs x))) [some (.val (scrD ns)), x1, some (.val (.list (ss.map .str))), some (.val (.list D)), x4, x5, some (.val s.d), some (.val (dctD kvs)), x8, x9, x10, some (.val (.str x))] :=
        eGetF_at (ρ1 := [some (.val (scrD ns)), x1, some (.val (.list (ss.map .str))), some (.val (.list D)), x4, x5, some (.val s.d), some (.val (dctD kvs)), x8, x9, x10, some (.val (.str x))]) (by simp) (by simp)
      generalize dctD kvs = T at *
      generalize bval kvs = v at *
      simp [k47_law_4t, h, strV]) (fun y hy _ => by
      obtain ⟨x, hx, rfl⟩ := List.mem_map.mp hy
      simp [k47_law_4e])
    rw [this, List.filter_map]
    have e : (strV (bval kvs) ∘ PyData.str) = bval kvs := rfl
    rw [e, ← hV]; simp
  have ne := neD_same S.n
  have dd := dictFn_dct kvs
  generalize dctD kvs = T at *
  generalize V.map PyData.str = Y at *
  generalize truB (bval kvs) s = b at *
  refine ⟨some (.val T), some (.val (.bool b)), some (.val (.bool b)), ?_⟩
  simp [k47_law_3b, k47_law_4, dd, lc, e1, e2, ne, kit_bb47]
theorem oke47 {t : St} {ss : List Str} (n2 : ∀ s ∈ ss, IsLet s) (h : ∀ x ∈ t.ends, x ∈ ss ∨ x = Str.ofString "nought") : t.ok := fun x hx => by
  rcases h x hx with q | q
  · exact (n2 x q).ok
  · rw [q]; exact strOk_lit _
theorem k47_2b {g_bag g_take g_st g_tw g_true g_is : DF} (b1 : BagOK g_bag) (b2 : TakeOK g_take) (b3 : StatOK 30 g_st) (b4 : Twice47 g_tw) (h1 : LTrueOK 30 g_true) (h2 : IsTrueOK 30 g_is) {ns : List Int} (hl : ns.length ≤ 63) {d : List PyData} {ss : List Str} (n2 : ∀ s ∈ ss, IsLet s) (hs1 : 1 ≤ ss.length) (hs2 : ss.length ≤ 1000) {K : List (List (Str × Bool))} (hK : ∀ kvs ∈ K, SetS ss kvs) {i : Nat} (hi : i < 6) {x5 x6 x7 x8 x9 x10 : Option Sl} :
    ∃ d' y5 y6 y7 y8 y9 y10, k47_law_2b g_bag g_take g_st g_tw g_true g_is (e47 ns (some (.mut d)) ss (K.map dctD) (some (.val (.int i))) x5 x6 x7 x8 x9 x10) = .nx (e47 ns (some (.mut d')) ss (K.map dctD) (some (.val (.int i))) y5 y6 y7 y8 y9 y10) := by
  obtain ⟨f1, c1, k1⟩ := b1 ns (3 + i) hl (by omega) (by omega)
  obtain ⟨u1, f2, p1, r1, c2, k2⟩ := b2 f1 7 _ c1 (by omega) (by decide) (by decide)
  obtain ⟨u2, f3, p2, r2, c3, k3⟩ := b2 f2 4 _ c2 (by omega) (by decide) (by decide)
  obtain ⟨U, rfl⟩ : ∃ U : Nat, u1 = (U : Int) := ⟨u1.toNat, by omega⟩
  obtain ⟨m, hm, hm2⟩ : ∃ m : Nat, m ≤ 10 ∧ (if u2 = 3 then (10 : Int) else U) = m := by
    split
    · exact ⟨10, by omega, rfl⟩
    · exact ⟨U, by omega, rfl⟩
  obtain ⟨s, f4, s1, s2, c4, k4⟩ := b3 f3 ss m _ (by omega) (by omega) c3 (by omega) hs1 hs2
  have ok := oke47 n2 s2
  have sh := s.hi_le
  have tw := b4 s
  have ntok : (nt s).ok := by
    have lk : (St.leaf (Str.ofString "nought")).ok := fun y hy => by simp only [St.ends, List.mem_singleton] at hy; rw [hy]; exact strOk_lit _
    exact (ok.nd lk).nd lk
  have ne : neOp (nt s).d (nt s).d = some (.val (.bool false)) := ne_same (St.lay ntok) (by rw [(nt s).depth]; simp only [nt, St.hi]; omega)
  have nd : (nt s).d = .tuple [.str (Str.ofString "gives"), .tuple [.str (Str.ofString "gives"), s.d, .str (Str.ofString "nought")], .str (Str.ofString "nought")] := rfl
  rw [nd] at tw ne
  obtain ⟨ρ', e, y7, y8, y9, y10, rfl⟩ := forL_inv (g := gN 7) (body := k47_law_3b g_true g_is) (ds := K.map dctD) (ρ := e47 ns (some (.mut f4)) ss (K.map dctD) (some (.val (.int i))) (some (.val (.int m))) (some (.val s.d)) x7 x8 x9 x10)
    (fun _ ρ => ∃ y7 y8 y9 y10, ρ = e47 ns (some (.mut f4)) ss (K.map dctD) (some (.val (.int i))) (some (.val (.int m))) (some (.val s.d)) y7 y8 y9 y10)
    (fun j hj ρ => by
      rintro ⟨y7, y8, y9, y10, rfl⟩
      have hj' : j < K.length := by simpa using hj
      rw [List.getElem_map]
      obtain ⟨z8, z9, z10, q⟩ := k47_3b h1 h2 (ns := ns) (x1 := some (.mut f4)) n2 hs2 (hK _ (List.getElem_mem hj')) s2 (by omega) (D := K.map dctD) (x4 := some (.val (.int i))) (x5 := some (.val (.int m))) (x8 := y8) (x9 := y9) (x10 := y10)
      exact ⟨_, _, rfl, .inl q, _, _, _, _, rfl⟩) ⟨_, _, _, _, rfl⟩
  refine ⟨f4, some (.val (.int m)), some (.val s.d), y7, y8, y9, y10, ?_⟩
  generalize K.map dctD = Y at *
  by_cases hq : u2 = 3
  · rw [if_pos hq] at hm2
    have hm3 : m = 10 := by omega
    subst hm3
    have k4' : g_st [.mut f3, .val (.list (ss.map .str)), .val (.int 10)] = .ok (.val s.d) [.mut f4, .val (.list (ss.map .str)), .val (.int 10)] := k4
    have e' : forL (gN 7) (k47_law_3b g_true g_is) Y (e47 ns (some (.mut f4)) ss Y (some (.val (.int i))) (some (.val (.int 10))) (some (.val s.d)) x7 x8 x9 x10) = .nx (e47 ns (some (.mut f4)) ss Y (some (.val (.int i))) (some (.val (.int 10))) (some (.val s.d)) y7 y8 y9 y10) := e
    simp [k47_law_2b, k47_law_3, k1, k2, k3, hq, k4', tw, ne, e', sizeLine_eq]
  · rw [if_neg hq] at hm2
    have hm3 : m = U := by omega
    subst hm3
    simp [k47_law_2b, k47_law_3, k1, k2, k3, hq, k4, tw, ne, e, sizeLine_eq]
theorem k47_true {g_bag g_names g_take g_set g_st g_tw g_true g_is : DF} (b1 : BagOK g_bag) (b0 : NamesOK g_names) (b2 : TakeOK g_take) (b5 : SettingOK g_set) (b3 : StatOK 30 g_st) (b4 : Twice47 g_tw) (h1 : LTrueOK 30 g_true) (h2 : IsTrueOK 30 g_is) :
    ∀ ns : List Int, ns.length ≤ 63 → ∃ outs, runB [] 12 (k47_law g_bag g_names g_take g_set g_st g_tw g_true g_is) [.val (scrD ns)] = .ok (.val (.bool true)) outs := by
  intro ns hl
  obtain ⟨d1, c1, e1⟩ := b1 ns 0 hl (by decide) (by decide)
  obtain ⟨v, d2, v0, v1, c2, e2⟩ := b2 d1 4 1 c1 (by decide) (by decide) (by decide)
  obtain ⟨ss, d3, n1, n2, n3, c3, e3⟩ := b0 d2 (1 + v) 2 c2 (by decide) (by omega) (by omega)
  have base : ∃ K : List (List (Str × Bool)), (∀ kvs ∈ K, SetS ss kvs) ∧ K.length = 2 ∧ lcL [4] (gN 4) tYesT (k47_law_1e g_bag g_set) (rangeL 0 2) [some (.val (scrD ns)), some (.mut d3), some (.val (.list (ss.map .str))), none, none, none, none, none, none, none, none, none] [] = .ok (K.map dctD) [some (.val (scrD ns)), some (.mut d3), some (.val (.list (ss.map .str))), none, none, none, none, none, none, none, none, none] := by
    obtain ⟨ρ', acc, e, L, q1, q2, rfl, rfl⟩ := lcL_inv (vs := [4]) (g := gN 4) (fe := k47_law_1e g_bag g_set) (ds := rangeL 0 2) (ρ := [some (.val (scrD ns)), some (.mut d3), some (.val (.list (ss.map .str))), none, none, none, none, none, none, none, none, none])
      (fun i ρ acc => ∃ L : List (List (Str × Bool)), L.length = i ∧ (∀ kvs ∈ L, SetS ss kvs) ∧ acc = L.map dctD ∧ ρ = [some (.val (scrD ns)), some (.mut d3), some (.val (.list (ss.map .str))), none, none, none, none, none, none, none, none, none])
      (fun i hi ρ acc => by
        rintro ⟨L, q1, q2, rfl, rfl⟩
        have hi' : i < 2 := by rw [rangeL_len] at hi; exact hi
        obtain ⟨f1, a1, k1⟩ := b1 ns (1 + i) hl (by omega) (by omega)
        obtain ⟨kvs, f2, S, k2⟩ := b5 f1 ss _ a1 (by omega) (by omega)
        rw [rangeL_get]
        refine ⟨[some (.val (scrD ns)), some (.mut d3), some (.val (.list (ss.map .str))), none, some (.val (.int i)), none, none, none, none, none, none, none], dctD kvs, [some (.val (scrD ns)), some (.mut d3), some (.val (.list (ss.map .str))), none, some (.val (.int i)), none, none, none, none, none, none, none], rfl, ?_, by rw [List.length_map]; omega, L ++ [kvs], by simp [q1], fun k hk => ?_, by simp, rfl⟩
        · generalize dctD kvs = T at *
          simp [k47_law_1e, k1, k2]
        · rcases List.mem_append.mp hk with q | q
          · exact q2 k q
          · rw [List.mem_singleton.mp q]; exact S) ⟨[], rfl, by simp, rfl, rfl⟩
    exact ⟨L, q2, by rw [q1, rangeL_len]; rfl, e⟩
  obtain ⟨K, hK, lK, lc⟩ := base
  have hK' : ∀ kvs ∈ K ++ [[]], SetS ss kvs := fun kvs h => by
    rcases List.mem_append.mp h with q | q
    · exact hK kvs q
    · rw [List.mem_singleton.mp q]; exact ⟨by simp, by simp⟩
  have hm : K.map dctD ++ [dctD []] = (K ++ [[]]).map dctD := by simp
  obtain ⟨ρ', e, d', y4, y5, y6, y7, y8, y9, y10, rfl⟩ := forL_inv (g := gN 4) (body := k47_law_2b g_bag g_take g_st g_tw g_true g_is) (ds := rangeL 0 6) (ρ := e47 ns (some (.mut d3)) ss ((K ++ [[]]).map dctD) none none none none none none none)
    (fun _ ρ => ∃ d' y4 y5 y6 y7 y8 y9 y10, ρ = e47 ns (some (.mut d')) ss ((K ++ [[]]).map dctD) y4 y5 y6 y7 y8 y9 y10)
    (fun j hj ρ => by
      rintro ⟨d', y4, y5, y6, y7, y8, y9, y10, rfl⟩
      have hj' : j < 6 := by rw [rangeL_len] at hj; exact hj
      rw [rangeL_get]
      obtain ⟨d2, z5, z6, z7, z8, z9, z10, q⟩ := k47_2b b1 b2 b3 b4 h1 h2 hl n2 (by omega) (by omega) hK' hj' (d := d') (x5 := y5) (x6 := y6) (x7 := y7) (x8 := y8) (x9 := y9) (x10 := y10)
      exact ⟨_, _, rfl, .inl q, _, _, _, _, _, _, _, _, rfl⟩) ⟨_, _, _, _, _, _, _, _, rfl⟩
  have lM : (K.map dctD).length = 2 := by rw [List.length_map, lK]
  rw [← hm] at e
  generalize K.map dctD = Y at *
  have hr2 : rgOk 2 = true := by decide
  have hr6 : rgOk 6 = true := by decide
  simp only [e47] at e
  exact ⟨_, by simp [runB, bodyEnv, k47_law, k47_law_1, k47_law_2, hr2, hr6, e1, e2, e3, lc, lM, e, outsF, sizeLine_eq]; rfl⟩
end Lb
namespace Qk47
open PySem Ls
theorem q_is_true (k : Nat) : sem (k + 1) 0 = runB [] 5 (Lb.p_is_true (sem k 0)) := rfl
theorem q_twice (k : Nat) : sem (k + 1) 1 = runB [] 1 Lb.p_twice := rfl
theorem q_law_cell (k : Nat) : sem (k + 1) 2 = runB [] 4 Lb.l_cell := rfl
theorem q_law_bag (k : Nat) : sem (k + 1) 3 = runB [] 3 (Lb.l_bag (sem k 2)) := rfl
theorem q_law_take (k : Nat) : sem (k + 1) 4 = runB [0] 3 Lb.l_take := rfl
theorem q_law_names (k : Nat) : sem (k + 1) 5 = runB [0] 10 (Lb.l_names (sem k 4)) := rfl
theorem q_law_statement (k : Nat) : sem (k + 1) 6 = runB [0] 6 (Lb.l_statement (sem k 4) (sem k 6)) := rfl
theorem q_law_true (k : Nat) : sem (k + 1) 7 = runB [] 4 (Lb.l_true (sem k 7)) := rfl
theorem q_law_setting (k : Nat) : sem (k + 1) 8 = runB [0] 5 (Lb.l_setting (sem k 4)) := rfl
theorem q_law (k : Nat) : sem (k + 1) 9 = runB [] 12 (Lb.k47_law (sem k 3) (sem k 5) (sem k 4) (sem k 8) (sem k 6) (sem k 1) (sem k 7) (sem k 0)) := rfl
end Qk47
namespace Qk47
open PySem Ls Lb
theorem law_true : ∀ ns : List Int, ns.length ≤ 63 → ∃ outs, sem 315 9 [.val (scrD ns)] = .ok (.val (.bool true)) outs := by
  intro ns hl
  have h_law_cell : ∀ k, CellOK (sem (k + 1) 2) := fun k => by rw [q_law_cell]; exact cell_ok 
  have h_law_bag : ∀ k, BagOK (sem (k + 2) 3) := fun k => by rw [q_law_bag]; exact bag_ok (h_law_cell (k))
  have h_law_take : ∀ k, TakeOK (sem (k + 1) 4) := fun k => by rw [q_law_take]; exact take_ok 
  have h_law_names : ∀ k, NamesOK (sem (k + 2) 5) := fun k => by rw [q_law_names]; exact names_ok (h_law_take (k))
  have h_law_setting : ∀ k, SettingOK (sem (k + 2) 8) := fun k => by rw [q_law_setting]; exact setting_ok (h_law_take (k))
  have h_law_statement_r : ∀ n k, StatOK n (sem (k + n + 1) 6) := by
    intro n
    induction n with
    | zero => exact fun k => stat_zero
    | succ n ih =>
      intro k
      show StatOK (n + 1) (sem (k + n + 1 + 1) 6)
      rw [q_law_statement]; exact stat_step (h_law_take (k + n)) (ih k)
  have h_law_statement : ∀ k, StatOK 30 (sem (k + 31) 6) := fun k => h_law_statement_r 30 k
  have h_twice : ∀ k, Twice47 (sem (k + 1) 1) := fun k => by rw [q_twice]; exact twice47 
  have h_law_true_r : ∀ n k, LTrueOK n (sem (k + n) 7) := by
    intro n
    induction n with
    | zero => exact fun k => ltrue_zero
    | succ n ih =>
      intro k
      show LTrueOK (n + 1) (sem (k + n + 1) 7)
      rw [q_law_true]; exact ltrue_step (ih k)
  have h_law_true : ∀ k, LTrueOK 30 (sem (k + 30) 7) := fun k => h_law_true_r 30 k
  have h_is_true_r : ∀ n k, IsTrueOK n (sem (k + n) 0) := by
    intro n
    induction n with
    | zero => exact fun k => istrue_zero
    | succ n ih =>
      intro k
      show IsTrueOK (n + 1) (sem (k + n + 1) 0)
      rw [q_is_true]; exact istrue_step (ih k)
  have h_is_true : ∀ k, IsTrueOK 30 (sem (k + 30) 0) := fun k => h_is_true_r 30 k
  rw [q_law]
  exact k47_true (h_law_bag 312) (h_law_names 312) (h_law_take 313) (h_law_setting 312) (h_law_statement 283) (h_twice 313) (h_law_true 284) (h_is_true 284) ns hl
end Qk47
namespace Qk47
open PySem PySem.Spec PyProof.Rows L2 Ls
theorem exm_of {K : PySem.W.Frag} {S T : Addr} (h1 : PySem.W.subIn K (.ref T) (.type "BaseException") = some true) (h2 : PySem.W.isClsIn K T = true) (h3 : PySem.W.typeIn K (.ref T) = some (.type "type")) (h4 : PySem.W.subIn K (.ref S) (.ref T) = some true) : PySem.W.exmOne K (.ref S) (.ref T) = some true := by
  have h2' : (PySem.W.clsIn K T).isSome = true := h2
  have e2 : ((PySem.W.clsIn K T).isSome && PySem.W.typeIn K (.ref T) == some (.type "type")) = true := by rw [h2', h3]; decide
  show (if (PySem.W.subIn K (.ref T) (.type "BaseException") == some true) = true then (if ((PySem.W.clsIn K T).isSome && PySem.W.typeIn K (.ref T) == some (.type "type")) = true then PySem.W.subIn K (.ref S) (.ref T) else none) else none) = some true
  rw [if_pos (by rw [h1]; decide), if_pos e2]
  exact h4
theorem all_mk {P : Program} {w : World} {K : PySem.W.Frag} {h : Heap} {mg : Str → Option Value} {fa : Addr} (X : K.In h) (G : h.Ns mainGlobals mg) (hfa : mg "law" = some (.ref fa))
    {f0 f1 f2 f3 f4 f5 f6 f7 f8 f9 : Addr} {od0 an0 od1 an1 od2 an2 od3 an3 od4 an4 od5 an5 od6 an6 od7 an7 od8 an8 od9 an9 : Option Addr} {sl0 sl1 sl2 sl3 sl4 sl5 sl6 sl7 sl8 sl9 : Array (Option Value)} {oc0 kV0 dc0 pm0 cd0 ct0 oc1 kV1 dc1 pm1 cd1 ct1 oc2 kV2 dc2 pm2 cd2 ct2 oc3 kV3 dc3 pm3 cd3 ct3 oc4 kV4 dc4 pm4 cd4 ct4 oc5 kV5 dc5 pm5 cd5 ct5 oc6 kV6 dc6 pm6 cd6 ct6 oc7 kV7 dc7 pm7 cd7 ct7 oc8 kV8 dc8 pm8 cd8 ct8 oc9 kV9 dc9 pm9 cd9 ct9 : Value}
    (a0 : PySem.W.nsIn K mainGlobals "is_true" = some (some (.ref f0))) (l0 : K.lookup f0 = some ⟨oc0, od0, .func (PySem.W.fnOf "is_true" "is_true" (defArgs s0) (defBody s0) (defScope s0) .none kV0 dc0 pm0 an0 cd0 ct0), sl0⟩) (c0 : PySem.W.codeIn K cd0 "is_true" = true) (k0 : PySem.W.keepIn K (.ref f0) = true)
    (a1 : PySem.W.nsIn K mainGlobals "twice" = some (some (.ref f1))) (l1 : K.lookup f1 = some ⟨oc1, od1, .func (PySem.W.fnOf "twice" "twice" (defArgs s1) (defBody s1) (defScope s1) .none kV1 dc1 pm1 an1 cd1 ct1), sl1⟩) (c1 : PySem.W.codeIn K cd1 "twice" = true) (k1 : PySem.W.keepIn K (.ref f1) = true)
    (a2 : PySem.W.nsIn K mainGlobals "_law_cell" = some (some (.ref f2))) (l2 : K.lookup f2 = some ⟨oc2, od2, .func (PySem.W.fnOf "_law_cell" "_law_cell" (defArgs s2) (defBody s2) (defScope s2) .none kV2 dc2 pm2 an2 cd2 ct2), sl2⟩) (c2 : PySem.W.codeIn K cd2 "_law_cell" = true) (k2 : PySem.W.keepIn K (.ref f2) = true)
    (a3 : PySem.W.nsIn K mainGlobals "_law_bag" = some (some (.ref f3))) (l3 : K.lookup f3 = some ⟨oc3, od3, .func (PySem.W.fnOf "_law_bag" "_law_bag" (defArgs s3) (defBody s3) (defScope s3) .none kV3 dc3 pm3 an3 cd3 ct3), sl3⟩) (c3 : PySem.W.codeIn K cd3 "_law_bag" = true) (k3 : PySem.W.keepIn K (.ref f3) = true)
    (a4 : PySem.W.nsIn K mainGlobals "_law_take" = some (some (.ref f4))) (l4 : K.lookup f4 = some ⟨oc4, od4, .func (PySem.W.fnOf "_law_take" "_law_take" (defArgs s4) (defBody s4) (defScope s4) .none kV4 dc4 pm4 an4 cd4 ct4), sl4⟩) (c4 : PySem.W.codeIn K cd4 "_law_take" = true) (k4 : PySem.W.keepIn K (.ref f4) = true)
    (a5 : PySem.W.nsIn K mainGlobals "_law_names" = some (some (.ref f5))) (l5 : K.lookup f5 = some ⟨oc5, od5, .func (PySem.W.fnOf "_law_names" "_law_names" (defArgs s5) (defBody s5) (defScope s5) .none kV5 dc5 pm5 an5 cd5 ct5), sl5⟩) (c5 : PySem.W.codeIn K cd5 "_law_names" = true) (k5 : PySem.W.keepIn K (.ref f5) = true)
    (a6 : PySem.W.nsIn K mainGlobals "_law_statement" = some (some (.ref f6))) (l6 : K.lookup f6 = some ⟨oc6, od6, .func (PySem.W.fnOf "_law_statement" "_law_statement" (defArgs s6) (defBody s6) (defScope s6) .none kV6 dc6 pm6 an6 cd6 ct6), sl6⟩) (c6 : PySem.W.codeIn K cd6 "_law_statement" = true) (k6 : PySem.W.keepIn K (.ref f6) = true)
    (a7 : PySem.W.nsIn K mainGlobals "_law_true" = some (some (.ref f7))) (l7 : K.lookup f7 = some ⟨oc7, od7, .func (PySem.W.fnOf "_law_true" "_law_true" (defArgs s7) (defBody s7) (defScope s7) .none kV7 dc7 pm7 an7 cd7 ct7), sl7⟩) (c7 : PySem.W.codeIn K cd7 "_law_true" = true) (k7 : PySem.W.keepIn K (.ref f7) = true)
    (a8 : PySem.W.nsIn K mainGlobals "_law_setting" = some (some (.ref f8))) (l8 : K.lookup f8 = some ⟨oc8, od8, .func (PySem.W.fnOf "_law_setting" "_law_setting" (defArgs s8) (defBody s8) (defScope s8) .none kV8 dc8 pm8 an8 cd8 ct8), sl8⟩) (c8 : PySem.W.codeIn K cd8 "_law_setting" = true) (k8 : PySem.W.keepIn K (.ref f8) = true)
    (a9 : PySem.W.nsIn K mainGlobals "law" = some (some (.ref f9))) (l9 : K.lookup f9 = some ⟨oc9, od9, .func (PySem.W.fnOf "law" "law" (defArgs s9) (defBody s9) (defScope s9) .none kV9 dc9 pm9 an9 cd9 ct9), sl9⟩) (c9 : PySem.W.codeIn K cd9 "law" = true) (k9 : PySem.W.keepIn K (.ref f9) = true)
    (zb_bool : PySem.W.nsIn K mainGlobals "bool" = some none)
    (zb_dict : PySem.W.nsIn K mainGlobals "dict" = some none)
    (zb_isinstance : PySem.W.nsIn K mainGlobals "isinstance" = some none)
    (zb_len : PySem.W.nsIn K mainGlobals "len" = some none)
    (zb_range : PySem.W.nsIn K mainGlobals "range" = some none)
    (zb_str : PySem.W.nsIn K mainGlobals "str" = some none)
    (zb_tuple : PySem.W.nsIn K mainGlobals "tuple" = some none)
    : ∃ fd : FuncData, (∀ (s : Shared) (u : Value), BindsTo s fd ⟨[u], []⟩ [("_law_script", u)]) ∧ ∀ base : Heap, K.In base → base.Ns mainGlobals mg → FnM P w K mg base 315 fa fd ["_law_script"] (spM (cof mg) K 1 (sem 315 9)) := by
  have T : Tops K mg := ⟨PySem.W.mg_none_of X G zb_bool, PySem.W.mg_none_of X G zb_dict, PySem.W.mg_none_of X G zb_isinstance, PySem.W.mg_none_of X G zb_len, PySem.W.mg_none_of X G zb_range, PySem.W.mg_none_of X G zb_str, PySem.W.mg_none_of X G zb_tuple⟩
  have Q : Fts K mg := ⟨ft_mk X G a0 l0 c0 k0 (fun _ _ _ _ _ _ us hl => match us, hl with | [_, _], _ => rfl), ft_mk X G a1 l1 c1 k1 (fun _ _ _ _ _ _ us hl => match us, hl with | [_], _ => rfl), ft_mk X G a2 l2 c2 k2 (fun _ _ _ _ _ _ us hl => match us, hl with | [_, _], _ => rfl), ft_mk X G a3 l3 c3 k3 (fun _ _ _ _ _ _ us hl => match us, hl with | [_, _], _ => rfl), ft_mk X G a4 l4 c4 k4 (fun _ _ _ _ _ _ us hl => match us, hl with | [_, _], _ => rfl), ft_mk X G a5 l5 c5 k5 (fun _ _ _ _ _ _ us hl => match us, hl with | [_, _], _ => rfl), ft_mk X G a6 l6 c6 k6 (fun _ _ _ _ _ _ us hl => match us, hl with | [_, _, _], _ => rfl), ft_mk X G a7 l7 c7 k7 (fun _ _ _ _ _ _ us hl => match us, hl with | [_, _], _ => rfl), ft_mk X G a8 l8 c8 k8 (fun _ _ _ _ _ _ us hl => match us, hl with | [_, _], _ => rfl), ft_mk X G a9 l9 c9 k9 (fun _ _ _ _ _ _ us hl => match us, hl with | [_], _ => rfl)⟩
  exact law_mk (st := s9) X G hfa a9 l9 c9 k9 (fun _ _ _ _ _ _ u => rfl) (fun fd base F => ok9 F T (known T Q 314))
end Qk47
open PySem PySem.W PyProof.Rows
theorem PySem.Challenge.cw_lesssay_k47_true_at_settings_holds : PySem.Challenge.rw_lesssay_k47_true_at_settings.Holds := by
  w_on; o_law; k_head; (case hw => w_witness2)
  k_fill
  refine Ls.ls_walk (l := PySem.Challenge.rw_lesssay_k47_true_at_settings) (k := 315) (j := 105) (x := "_law_script") (m := Qk47.sem 315 9) rfl rfl ⟨rfl, by decide, by decide⟩ (by decide) (fun w h Y => PySem.W.kIn_of Y) Qk47.law_true ?F
  case F =>
    intro w mg fa h KX G hmg
    refine' Qk47.all_mk KX G hmg ?a0 ?l0 ?c0 ?k0 ?a1 ?l1 ?c1 ?k1 ?a2 ?l2 ?c2 ?k2 ?a3 ?l3 ?c3 ?k3 ?a4 ?l4 ?c4 ?k4 ?a5 ?l5 ?c5 ?k5 ?a6 ?l6 ?c6 ?k6 ?a7 ?l7 ?c7 ?k7 ?a8 ?l8 ?c8 ?k8 ?a9 ?l9 ?c9 ?k9 ?zb_bool ?zb_dict ?zb_isinstance ?zb_len ?zb_range ?zb_str ?zb_tuple
    (case a0 => k_is)
    (case l0 => k_is)
    (case c0 => k_is)
    (case k0 => k_is)
    (case a1 => k_is)
    (case l1 => k_is)
    (case c1 => k_is)
    (case k1 => k_is)
    (case a2 => k_is)
    (case l2 => k_is)
    (case c2 => k_is)
    (case k2 => k_is)
    (case a3 => k_is)
    (case l3 => k_is)
    (case c3 => k_is)
    (case k3 => k_is)
    (case a4 => k_is)
    (case l4 => k_is)
    (case c4 => k_is)
    (case k4 => k_is)
    (case a5 => k_is)
    (case l5 => k_is)
    (case c5 => k_is)
    (case k5 => k_is)
    (case a6 => k_is)
    (case l6 => k_is)
    (case c6 => k_is)
    (case k6 => k_is)
    (case a7 => k_is)
    (case l7 => k_is)
    (case c7 => k_is)
    (case k7 => k_is)
    (case a8 => k_is)
    (case l8 => k_is)
    (case c8 => k_is)
    (case k8 => k_is)
    (case a9 => k_is)
    (case l9 => k_is)
    (case c9 => k_is)
    (case k9 => k_is)
    (case zb_bool => k_is)
    (case zb_dict => k_is)
    (case zb_isinstance => k_is)
    (case zb_len => k_is)
    (case zb_range => k_is)
    (case zb_str => k_is)
    (case zb_tuple => k_is)
