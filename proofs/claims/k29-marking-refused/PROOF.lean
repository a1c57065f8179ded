import PyProof.Rows.All
import Wide.All
import OpenK.AllK
import Wide.FinOn
import HandS.ForMost
import HandS.ForExc
import HandS.Walk
import HandS.IsInst
import HandS.StrMore
import HandS.TupAny
import KE.KDictKeyed
import KE.SortData
import KE.DataMinMax
import HandS.TupMul
import HandS.RevTup
import HandS.Style
import HandS.Deep
import HandS.List
import KE.KDictCopyH
import HandS.SetFor
import HandS.Strs
import HandS.TupSets
import KE.KEqDict
import HandS.WrittenGet
import KE.GoesEnum
import KE.GoesMore
import KE.GoesZip
import HandS.HotCalls
import HandS.ExcIs
import KE.KDictPairs
import KE.KDictDisplayH
import HandS.Conv
import PySem.Challenge.RW_gapforms_k29_marking_refused
set_option Elab.async false
set_option linter.all false
set_option maxRecDepth 100000
set_option autoImplicit false
/-! G1: pure data, how it stands in the abstract heap, the frame and its world. -/
namespace G
open PySem L2
/-- pure data -/
inductive D where
  | non | bl (b : Bool) | int (i : Int) | str (x : Str) | tup (l : List D) | lst (l : List D)
  | dct (l : List (D × D)) | fn (f : Nat) | town | scr (ns : List Int) | exn (c : Nat)
  deriving Inhabited
/-- what a text has written: the classes and defs by numbers of ours -/
structure Cn where
  K : PySem.W.Frag
  fa : Nat → Option Addr
  cls : Nat → Addr
  ex : Option (Addr × Nat)
  w : World
mutual
/-- no def, no list, no dict within -/
def D.keyB : D → Bool
  | .non => true
  | .bl _ => true
  | .int _ => true
  | .str _ => true
  | .tup xs => D.keysB xs
  | _ => false
def D.keysB : List D → Bool
  | [] => true
  | x :: xs => D.keyB x && D.keysB xs
end
mutual
/-- the key of a dict that a datum is -/
def D.nk : D → NestedKey
  | .bl b => .num (if b = true then 1 else 0)
  | .int i => .num i
  | .str x => .text x
  | .tup xs => .tup (D.nks xs)
  | _ => .none
def D.nks : List D → List NestedKey
  | [] => []
  | x :: xs => D.nk x :: D.nks xs
end
/-- what may be a dict's key: a text, or a tuple that is not deep -/
def D.topB : D → Bool
  | .str _ => true
  | .tup xs => D.keysB xs && decide ((NestedKey.tup (D.nks xs)).depth ≤ 8)
  | _ => false
def D.strB : D → Bool
  | .str _ => true
  | _ => false
/-- the keys of a dict: all texts, or all tuples; none twice -/
def keysOk (ks : List D) : Prop := (∀ k ∈ ks, k.topB = true) ∧ ((∀ k ∈ ks, k.strB = true) ∨ ∀ k ∈ ks, k.strB = false) ∧ (ks.map D.nk).Nodup
/-- a dict, by its object and its rows: hash, key, worth -/
def dicO (w : World) (a : Addr) (o : Obj) (xs : List (NestedKey × V × V)) : HO := .ext fun h => h.get? a = some o ∧ o.ExactDict ∧ ∃ es ep, o.data = .dict es ep ∧ Paired (fun (x : NestedKey × V × V) (e : DictEntry) => e.hash = x.1.hash w ∧ RelV x.2.1 e.key ∧ RelV x.2.2 e.val) xs es.toList
/-- the shared part of the heap (never written), and the draws' list -/
structure Wd where
  Hs : Hp
  L : Option Addr
mutual
/-- the value v is the datum d, in the shared part -/
inductive Rep (C : Cn) (W : Wd) : V → D → Prop
  | non : Rep C W .non .non
  | bl (b : Bool) : Rep C W (.bl b) (.bl b)
  | int (i : Int) : Rep C W (.int i) (.int i)
  | str (x : Str) (h : x.length ≤ sizeLine) (h2 : PyData.strOk x = true) : Rep C W (.str x) (.str x)
  | tup {a : Addr} {vs : List V} {ds : List D} : SqT C.K W.Hs a vs → vs.length ≤ sizeLine → Reps C W vs ds → Rep C W (.ref a) (.tup ds)
  | lst {a : Addr} {vs : List V} {ds : List D} : W.Hs a = some (.lst vs) → vs.length ≤ sizeLine → Reps C W vs ds → Rep C W (.ref a) (.lst ds)
  | scr {a : Addr} {ns : List Int} : SqL C.K W.Hs a (ns.map V.int) → ns.length ≤ sizeLine → Rep C W (.ref a) (.scr ns)
  | fn {f : Nat} {a : Addr} : C.fa f = some a → Rep C W (.ref a) (.fn f)
  | town {a : Addr} : W.L = some a → Rep C W (.ref a) .town
  | exn {a : Addr} {c : Nat} : C.ex = some (a, c) → Rep C W (.ref a) (.exn c)
  | dct {a : Addr} {o : Obj} {xs : List (NestedKey × V × V)} {l : List (D × D)} : W.Hs a = some (dicO C.w a o xs) → xs.length ≤ sizeLine → (a == sysModules) = false → keysOk (l.map (·.1)) → xs.map (·.1) = l.map (fun p => p.1.nk) →
      Reps C W (xs.map (·.2.1)) (l.map (·.1)) → Reps C W (xs.map (·.2.2)) (l.map (·.2)) → Rep C W (.ref a) (.dct l)
inductive Reps (C : Cn) (W : Wd) : List V → List D → Prop
  | nil : Reps C W [] []
  | cons {v : V} {vs : List V} {d : D} {ds : List D} : Rep C W v d → Reps C W vs ds → Reps C W (v :: vs) (d :: ds)
end
theorem Same.sqT {K : PySem.W.Frag} {H H' : Hp} {a : Addr} {xs : List V} (e : Same H H') (h : SqT K H a xs) : SqT K H' a xs := by
  rcases h with h | h
  · refine .inl ?_
    rcases h with h | ⟨o, h⟩
    · exact .inl (e _ _ h)
    · exact .inr ⟨o, e _ _ h⟩
  · exact .inr h
/-- the world has grown -/
structure WLe (W W' : Wd) : Prop where
  sh : Same W.Hs W'.Hs
  lo : W.L = none ∨ W'.L = W.L
theorem WLe.refl (W : Wd) : WLe W W := ⟨Same.refl _, .inr rfl⟩
theorem WLe.trans {W W1 W2 : Wd} (a : WLe W W1) (b : WLe W1 W2) : WLe W W2 := ⟨a.sh.trans b.sh, by
  rcases a.lo with h | h
  · exact .inl h
  · rcases b.lo with h2 | h2
    · left; rw [← h]; exact h2
    · right; rw [h2, h]⟩
mutual
theorem Rep.mono {C : Cn} {W W' : Wd} (e : WLe W W') : ∀ {v : V} {d : D}, Rep C W v d → Rep C W' v d
  | _, _, .non => .non
  | _, _, .bl b => .bl b
  | _, _, .int i => .int i
  | _, _, .str x h h2 => .str x h h2
  | _, _, .tup h l r => .tup (Same.sqT e.sh h) l (Reps.mono e r)
  | _, _, .lst h l r => .lst (e.sh _ _ h) l (Reps.mono e r)
  | _, _, .scr h l => .scr (e.sh.seq h) l
  | _, _, .fn h => .fn h
  | _, _, .exn h => .exn h
  | _, _, .dct h l n k q r1 r2 => .dct (e.sh _ _ h) l n k q (Reps.mono e r1) (Reps.mono e r2)
  | _, _, .town h => .town (by
      rcases e.lo with z | z
      · rw [z] at h; cases h
      · rw [z]; exact h)
theorem Reps.mono {C : Cn} {W W' : Wd} (e : WLe W W') : ∀ {vs : List V} {ds : List D}, Reps C W vs ds → Reps C W' vs ds
  | _, _, .nil => .nil
  | _, _, .cons h t => .cons (Rep.mono e h) (Reps.mono e t)
end
theorem Reps.length {C : Cn} {W : Wd} : ∀ {vs : List V} {ds : List D}, Reps C W vs ds → vs.length = ds.length
  | _, _, .nil => rfl
  | _, _, .cons _ t => by simp [Reps.length t]
theorem Reps.get {C : Cn} {W : Wd} : ∀ {vs : List V} {ds : List D} {i : Nat} {d : D}, Reps C W vs ds → ds[i]? = some d → ∃ v, vs[i]? = some v ∧ Rep C W v d
  | _, _, _, _, .nil, e => by simp at e
  | _, _, 0, _, .cons h _, e => by simp at e; subst e; exact ⟨_, rfl, h⟩
  | _, _, i + 1, d, .cons _ t, e => by
    obtain ⟨u, h1, h2⟩ := Reps.get (i := i) (d := d) t (by simpa using e)
    exact ⟨u, by simpa using h1, h2⟩
theorem Reps.getV {C : Cn} {W : Wd} : ∀ {vs : List V} {ds : List D} {i : Nat} {v : V}, Reps C W vs ds → vs[i]? = some v → ∃ d, ds[i]? = some d ∧ Rep C W v d
  | _, _, _, _, .nil, e => by simp at e
  | _, _, 0, _, .cons h _, e => by simp at e; subst e; exact ⟨_, rfl, h⟩
  | _, _, i + 1, v, .cons _ t, e => by
    obtain ⟨u, h1, h2⟩ := Reps.getV (i := i) (v := v) t (by simpa using e)
    exact ⟨u, by simpa using h1, h2⟩
theorem Reps.append {C : Cn} {W : Wd} : ∀ {vs us : List V} {ds es : List D}, Reps C W vs ds → Reps C W us es → Reps C W (vs ++ us) (ds ++ es)
  | _, _, _, _, .nil, s => s
  | _, _, _, _, .cons h t, s => .cons h (Reps.append t s)
theorem Reps.take {C : Cn} {W : Wd} : ∀ {vs : List V} {ds : List D} (n : Nat), Reps C W vs ds → Reps C W (vs.take n) (ds.take n)
  | _, _, 0, _ => .nil
  | _, _, _ + 1, .nil => .nil
  | _, _, n + 1, .cons h t => .cons h (Reps.take n t)
theorem Reps.drop {C : Cn} {W : Wd} : ∀ {vs : List V} {ds : List D} (n : Nat), Reps C W vs ds → Reps C W (vs.drop n) (ds.drop n)
  | _, _, 0, r => r
  | _, _, _ + 1, .nil => .nil
  | _, _, n + 1, .cons _ t => Reps.drop n t
theorem Reps.reverse {C : Cn} {W : Wd} : ∀ {vs : List V} {ds : List D}, Reps C W vs ds → Reps C W vs.reverse ds.reverse
  | _, _, .nil => .nil
  | _, _, .cons h t => by simpa using (Reps.reverse t).append (.cons h .nil)
theorem Reps.one {C : Cn} {W : Wd} {v : V} {d : D} (h : Rep C W v d) : Reps C W [v] [d] := .cons h .nil
theorem Reps.inv1 {C : Cn} {W : Wd} {vs : List V} {d : D} (h : Reps C W vs [d]) : ∃ v, vs = [v] ∧ Rep C W v d := by
  cases h with | cons h t => cases t; exact ⟨_, rfl, h⟩
theorem Reps.inv2 {C : Cn} {W : Wd} {vs : List V} {d e : D} (h : Reps C W vs [d, e]) : ∃ v u, vs = [v, u] ∧ Rep C W v d ∧ Rep C W u e := by
  cases h with | cons h t => cases t with | cons h2 t2 => cases t2; exact ⟨_, _, rfl, h, h2⟩
/-- the store: how many draws there were, once the draws' list is there -/
abbrev Sto := Option Nat
/-- the draws' list has as many zeros; the shared part stands -/
structure StoOk (W : Wd) (S : Sto) (H : Hp) : Prop where
  sh : Same W.Hs H
  tw : ∀ a, W.L = some a → H a = some (.lst (List.replicate (S.getD 0) (.int 0))) ∧ W.Hs a = none
  sn : S = none → W.L = none
/-- from W, H to W', H': what was not ours stands -/
structure Ext (W : Wd) (H : Hp) (W' : Wd) (H' : Hp) : Prop where
  le : WLe W W'
  nw : ∀ a, W.Hs a = none → W'.Hs a ≠ none → H a = none
  nl : ∀ a, W'.L = some a → W.L = none → H a = none
  kp : ∀ a o, H a = some o → W.L ≠ some a → H' a = some o
  al : ∀ a, H a ≠ none → H' a ≠ none
theorem Ext.refl (W : Wd) (H : Hp) : Ext W H W H := ⟨WLe.refl _, fun _ h1 h2 => absurd h1 h2, fun _ h1 h2 => (by rw [h2] at h1; cases h1), fun _ _ h _ => h, fun _ h => h⟩
theorem Ext.trans {W W1 W2 : Wd} {H H1 H2 : Hp} (a : Ext W H W1 H1) (b : Ext W1 H1 W2 H2) : Ext W H W2 H2 := by
  refine ⟨a.le.trans b.le, fun x h1 h2 => ?_, fun x h1 h2 => ?_, fun x o h1 h2 => ?_, fun x h => b.al x (a.al x h)⟩
  · by_cases h : W1.Hs x = none
    · have := b.nw x h h2
      cases e : H x with
      | none => rfl
      | some o => exact absurd this (a.al x (by rw [e]; simp))
    · exact a.nw x h1 h
  · cases e : W1.L with
    | none =>
      have := b.nl x h1 e
      cases e : H x with
      | none => rfl
      | some o => exact absurd this (a.al x (by rw [e]; simp))
    | some y =>
      have e2 : W2.L = W1.L := by
        rcases b.le.lo with z | z
        · rw [e] at z; cases z
        · exact z
      rw [e2, e] at h1
      cases h1
      exact a.nl _ e h2
  · refine b.kp x o (a.kp x o h1 h2) fun e => ?_
    rcases a.le.lo with z | z
    · rw [a.nl x e z] at h1; cases h1
    · exact h2 (z.symm.trans e)
/-- a new object laid, shared -/
theorem Ext.laid {W : Wd} {H : Hp} {p : Addr} {o : HO} (sh : Same W.Hs H) (hp : H p = none) : Ext W H ⟨upd W.Hs p o, W.L⟩ (upd H p o) := by
  have hs : W.Hs p = none := sh.free hp
  refine ⟨⟨fun b u e => ?_, .inr rfl⟩, fun a h1 h2 => ?_, fun a h1 h2 => ?_, fun a u h1 h2 => ?_, fun a h => ?_⟩
  · show upd W.Hs p o b = some u
    rw [upd_ne (ne_of_none e hs)]; exact e
  · by_cases ha : a = p
    · rw [ha]; exact hp
    · rw [show (⟨upd W.Hs p o, W.L⟩ : Wd).Hs a = W.Hs a from upd_ne ha] at h2
      exact absurd h1 h2
  · rw [show (⟨upd W.Hs p o, W.L⟩ : Wd).L = W.L from rfl, h2] at h1; cases h1
  · rw [upd_ne (ne_of_none h1 hp)]; exact h1
  · by_cases ha : a = p
    · rw [ha, upd_same]; simp
    · rw [upd_ne ha]; exact h
theorem StoOk.laid {W : Wd} {S : Sto} {H : Hp} {p : Addr} {o : HO} (s : StoOk W S H) (hp : H p = none) : StoOk ⟨upd W.Hs p o, W.L⟩ S (upd H p o) := by
  refine ⟨fun b u e => ?_, fun a h => ?_, s.sn⟩
  · by_cases hb : b = p
    · rw [hb, show (⟨upd W.Hs p o, W.L⟩ : Wd).Hs p = some o from upd_same] at e
      rw [hb, upd_same]; exact e
    · rw [show (⟨upd W.Hs p o, W.L⟩ : Wd).Hs b = W.Hs b from upd_ne hb] at e
      rw [upd_ne hb]; exact s.sh _ _ e
  · obtain ⟨h1, h2⟩ := s.tw a h
    have ne : a ≠ p := ne_of_none h1 hp
    exact ⟨by rw [upd_ne ne]; exact h1, by show upd W.Hs p o a = none; rw [upd_ne ne]; exact h2⟩
/-- a new object laid, of its own -/
theorem Ext.own {W : Wd} {H : Hp} {p : Addr} {o : HO} (hp : H p = none) : Ext W H W (upd H p o) := by
  refine ⟨WLe.refl _, fun a h1 h2 => absurd h1 h2, fun a h1 h2 => ?_, fun a u h1 h2 => ?_, fun a h => ?_⟩
  · rw [h2] at h1; cases h1
  · rw [upd_ne (ne_of_none h1 hp)]; exact h1
  · by_cases ha : a = p
    · rw [ha, upd_same]; simp
    · rw [upd_ne ha]; exact h
theorem StoOk.own {W : Wd} {S : Sto} {H : Hp} {p : Addr} {o : HO} (s : StoOk W S H) (hp : W.Hs p = none) (hl : W.L ≠ some p) : StoOk W S (upd H p o) := by
  refine ⟨fun b u e => ?_, fun a h => ?_, s.sn⟩
  · rw [upd_ne (ne_of_none e hp)]; exact s.sh _ _ e
  · obtain ⟨h1, h2⟩ := s.tw a h
    have ne : a ≠ p := fun z => hl (by rw [← z]; exact h)
    exact ⟨by rw [upd_ne ne]; exact h1, h2⟩
/-- what an owned slot holds stands at a, its items in the shared part -/
def OwnAt (C : Cn) (W : Wd) (H : Hp) (a : Addr) : D → Prop
  | .lst ds => ∃ vs, H a = some (.lst vs) ∧ vs.length ≤ sizeLine ∧ Reps C W vs ds
  | .dct l => ∃ (o : Obj) (xs : List (NestedKey × V × V)), H a = some (dicO C.w a o xs) ∧ xs.length ≤ sizeLine ∧ (a == sysModules) = false ∧ keysOk (l.map (·.1)) ∧ xs.map (·.1) = l.map (fun p => p.1.nk) ∧ Reps C W (xs.map (·.2.1)) (l.map (·.1)) ∧ Reps C W (xs.map (·.2.2)) (l.map (·.2))
  | _ => False
inductive Slot where
  | sh (d : D) | ow (d : D)
abbrev Fr := List (Option Slot)
structure Frm (C : Cn) (H0 : Hp) (W : Wd) (ρ : Fr) (σ : St) (H : Hp) : Prop where
  len : σ.length = ρ.length
  sh : ∀ (i : Nat) (d : D), ρ[i]? = some (some (Slot.sh d)) → ∃ v, σ[i]? = some (some v) ∧ Rep C W v d
  ow : ∀ (i : Nat) (d : D), ρ[i]? = some (some (Slot.ow d)) → ∃ a, σ[i]? = some (some (V.ref a)) ∧ OwnAt C W H a d ∧ W.Hs a = none ∧ W.L ≠ some a ∧ H0 a = none
  dj : ∀ (i j : Nat) (d e : D) (a : Addr), i ≠ j → ρ[i]? = some (some (Slot.ow d)) → ρ[j]? = some (some (Slot.ow e)) → σ[i]? = some (some (V.ref a)) → σ[j]? ≠ some (some (V.ref a))
structure Rel (C : Cn) (W0 : Wd) (H0 : Hp) (W : Wd) (ρ : Fr) (S : Sto) (σ : St) (H : Hp) : Prop where
  fr : Frm C H0 W ρ σ H
  st : StoOk W S H
  ex : Ext W0 H0 W H
theorem OwnAt.mono {C : Cn} {W W' : Wd} {H H' : Hp} {a : Addr} {d : D} (e : WLe W W') (k : ∀ o, H a = some o → H' a = some o) (h : OwnAt C W H a d) : OwnAt C W' H' a d := by
  cases d with
  | lst ds =>
    obtain ⟨vs, h1, h2, h3⟩ := h
    exact ⟨vs, k _ h1, h2, h3.mono e⟩
  | dct l =>
    obtain ⟨ob, xs, h1, h2, h3, h4, h5, h6, h7⟩ := h
    exact ⟨ob, xs, k _ h1, h2, h3, h4, h5, h6.mono e, h7.mono e⟩
  | _ => exact h.elim
theorem OwnAt.there {C : Cn} {W : Wd} {H : Hp} {a : Addr} {d : D} (h : OwnAt C W H a d) : ∃ o, H a = some o := by
  cases d with
  | lst ds =>
    obtain ⟨vs, h1, h2, h3⟩ := h
    exact ⟨_, h1⟩
  | dct l =>
    obtain ⟨ob, xs, h1, _⟩ := h
    exact ⟨_, h1⟩
  | _ => exact h.elim
theorem Frm.ext {C : Cn} {H0 : Hp} {W W' : Wd} {ρ : Fr} {σ : St} {H H' : Hp} (f : Frm C H0 W ρ σ H) (e : Ext W H W' H') : Frm C H0 W' ρ σ H' := by
  refine ⟨f.len, fun i d h => ?_, fun i d h => ?_, f.dj⟩
  · obtain ⟨v, h1, h2⟩ := f.sh i d h
    exact ⟨v, h1, h2.mono e.le⟩
  · obtain ⟨a, h1, h2, h3, h4, h5⟩ := f.ow i d h
    obtain ⟨o, ho⟩ := h2.there
    refine ⟨a, h1, h2.mono e.le fun o' h' => e.kp a o' h' h4, ?_, ?_, h5⟩
    · cases q : W'.Hs a with
      | none => rfl
      | some u =>
        have := e.nw a h3 (by rw [q]; simp)
        rw [this] at ho; cases ho
    · intro q
      rcases e.le.lo with z | z
      · have := e.nl a q z
        rw [this] at ho; cases ho
      · exact h4 (z.symm.trans q)
theorem Rel.ext {C : Cn} {W0 : Wd} {H0 : Hp} {W W' : Wd} {ρ : Fr} {S S' : Sto} {σ : St} {H H' : Hp} (r : Rel C W0 H0 W ρ S σ H) (e : Ext W H W' H') (s : StoOk W' S' H') : Rel C W0 H0 W' ρ S' σ H' :=
  ⟨r.fr.ext e, s, r.ex.trans e⟩
end G
/-! G2: the small language and what it computes. -/
namespace G
open PySem L2
inductive Res (α : Type) where
  | ok (a : α) (s : Sto)
  | exc (c : Nat) (s : Sto)
  | bad
abbrev M (α : Type) := Sto → Res α
def ret {α : Type} (a : α) : M α := fun s => .ok a s
def fail {α : Type} : M α := fun _ => .bad
def bnd {α β : Type} (m : M α) (f : α → M β) : M β := fun s => match m s with
  | .ok a s' => f a s'
  | .exc c s' => .exc c s'
  | .bad => .bad
def opt {α : Type} : Option α → M α
  | some a => ret a
  | none => fail
/-- an exception within is nothing that we speak of -/
def noexc {α : Type} (m : M α) : M α := fun s => match m s with
  | .ok a s' => .ok a s'
  | .exc _ _ => .bad
  | .bad => .bad
/-! ### data: equality, order, kinds -/
mutual
def D.eqb : D → D → Bool
  | .non, .non => true
  | .bl a, .bl b => a == b
  | .bl a, .int j => (if a then 1 else 0) == j
  | .int i, .bl b => i == (if b then 1 else 0)
  | .int i, .int j => i == j
  | .str x, .str y => x == y
  | .lst xs, .lst ys => D.eqbs xs ys
  | .tup xs, .tup ys => D.eqbs xs ys
  | _, _ => false
def D.eqbs : List D → List D → Bool
  | [], [] => true
  | x :: xs, y :: ys => D.eqb x y && D.eqbs xs ys
  | _, _ => false
end
mutual
/-- no def, no draws' list, no dict within -/
def D.plain : D → Bool
  | .non => true
  | .bl _ => true
  | .int _ => true
  | .str _ => true
  | .tup xs => D.plains xs
  | .lst xs => D.plains xs
  | .dct _ => false
  | .fn _ => false
  | .town => false
  | .scr _ => false
  | .exn _ => false
def D.plains : List D → Bool
  | [] => true
  | x :: xs => D.plain x && D.plains xs
end
mutual
def D.dep : D → Nat
  | .tup xs => D.deps xs + 1
  | .lst xs => D.deps xs + 1
  | _ => 0
def D.deps : List D → Nat
  | [] => 0
  | x :: xs => max (D.dep x) (D.deps xs)
end
mutual
def D.toP : D → PyData
  | .non => .none
  | .bl b => .bool b
  | .int i => .int i
  | .str x => .str x
  | .tup l => .tuple (D.toPs l)
  | .lst l => .list (D.toPs l)
  | .dct _ => .none
  | .fn _ => .none
  | .town => .none
  | .scr _ => .none
  | .exn _ => .none
def D.toPs : List D → List PyData
  | [] => []
  | d :: ds => D.toP d :: D.toPs ds
end
def D.eqOk (a b : D) : Bool := a.plain && b.plain && decide (min a.dep b.dep ≤ 60)
/-- texts: a before b -/
def sLt (a b : Str) : Bool := decide (a.cps.toList < b.cps.toList)
/-! ### operators -/
inductive BOp where
  | add | sub | mul | mod | pow
  deriving DecidableEq
inductive COp where
  | eq | ne | lt | le | gt | ge | isin | notin | is | isnot
  deriving DecidableEq
def CMulB (i j : Int) : Bool := (decide (-(2 ^ 64) < i) && decide (i < 2 ^ 64)) || (decide (-(2 ^ 64) < j) && decide (j < 2 ^ 64))
def rep {α : Type} (xs : List α) (k : Int) : List α := (List.replicate k.toNat xs).flatten
def dBin : BOp → D → D → Option D
  | .add, .int i, .int j => some (.int (i + j))
  | .add, .str x, .str y => if x.length + y.length ≤ sizeLine then some (.str (x ++ y)) else none
  | .add, .tup x, .tup y => if x.length + y.length ≤ sizeLine then some (.tup (x ++ y)) else none
  | .add, .lst x, .lst y => if x.length + y.length ≤ sizeLine then some (.lst (x ++ y)) else none
  | .sub, .int i, .int j => some (.int (i - j))
  | .mul, .int i, .int j => if CMulB i j = true then some (.int (i * j)) else none
  | .mul, .tup x, .int k => if -1000 ≤ k ∧ k ≤ 1000 ∧ x.length ≤ 1000 then some (.tup (rep x k)) else none
  | .mul, .lst x, .int k => if k < 2 ^ 62 ∧ x.length * k.toNat ≤ 100000 ∧ -(2 ^ 62) < k then some (.lst (rep x k)) else none
  | .mod, .int i, .int j => if 0 < j then some (.int (i % j)) else none
  | .pow, .int i, .int j => if 0 ≤ j ∧ j ≤ 1000000 ∧ i.natAbs < 2 ^ 64 then some (.int (i ^ j.toNat)) else none
  | _, _, _ => none
def isNon : D → Bool
  | .non => true
  | _ => false
def scrEq : D → D → Option D
  | .scr ns, .lst [] => some (.bl ns.isEmpty)
  | _, _ => none
def dEq (a b : D) : Option D := if a.eqOk b = true then some (.bl (a.eqb b)) else scrEq a b
def dNe (a b : D) : Option D := if a.eqOk b = true then some (.bl (!a.eqb b)) else none
def dLt : D → D → Option D
  | .int i, .int j => some (.bl (decide (i < j)))
  | .str x, .str y => some (.bl (sLt x y))
  | _, _ => none
def dLe : D → D → Option D
  | .int i, .int j => some (.bl (decide (i ≤ j)))
  | .str x, .str y => some (.bl (!sLt y x))
  | _, _ => none
def dGt : D → D → Option D
  | .int i, .int j => some (.bl (decide (j < i)))
  | _, _ => none
def dGe : D → D → Option D
  | .int i, .int j => some (.bl (decide (j ≤ i)))
  | _, _ => none
/-! dicts -/
def lookD (l : List (D × D)) (k : D) : Option D := (l.find? fun p => p.1.eqb k).map (·.2)
def putD (l : List (D × D)) (k v : D) : List (D × D) := if (lookD l k).isSome = true then l.map (fun p => if p.1.eqb k = true then (p.1, v) else p) else l ++ [(k, v)]
/-- a key of the dict's kind -/
def keyOkB (l : List (D × D)) (k : D) : Bool := k.topB && l.all fun p => p.1.strB == k.strB
def inOk (a : D) (l : List D) : Bool := a.plain && D.plains l && decide (min (D.deps l) a.dep ≤ 60)
def dIn0 (a : D) : D → Option D
  | .tup l => if inOk a l = true then some (.bl (l.any fun b => b.eqb a)) else none
  | .lst l => if inOk a l = true then some (.bl (l.any fun b => b.eqb a)) else none
  | _ => none
def dNotIn0 (a : D) : D → Option D
  | .tup l => if inOk a l = true then some (.bl (!l.any fun b => b.eqb a)) else none
  | .lst l => if inOk a l = true then some (.bl (!l.any fun b => b.eqb a)) else none
  | _ => none
def dIn (a : D) : D → Option D
  | .dct l => if keyOkB l a = true then some (.bl (lookD l a).isSome) else none
  | b => dIn0 a b
def dNotIn (a : D) : D → Option D
  | .dct l => if keyOkB l a = true then some (.bl (!(lookD l a).isSome)) else none
  | b => dNotIn0 a b
def dIs (a : D) : D → Option D
  | .non => some (.bl (isNon a))
  | _ => none
def dIsNot (a : D) : D → Option D
  | .non => some (.bl (!isNon a))
  | _ => none
def dCmp : COp → D → D → Option D
  | .eq => dEq | .ne => dNe | .lt => dLt | .le => dLe | .gt => dGt | .ge => dGe | .isin => dIn | .notin => dNotIn | .is => dIs | .isnot => dIsNot
/-! ### built-in calls, on data -/
inductive Ty where
  | int | bool | str | tuple | list
  deriving DecidableEq
def isTy : Ty → D → Option Bool
  | _, .dct _ => none
  | _, .fn _ => none
  | _, .town => none
  | _, .scr _ => none
  | _, .exn _ => none
  | .int, .int _ => some true
  | .int, .bl _ => some true
  | .bool, .bl _ => some true
  | .str, .str _ => some true
  | .tuple, .tup _ => some true
  | .list, .lst _ => some true
  | _, _ => some false
def strsOf : List D → Option (List Str)
  | [] => some []
  | .str x :: r => (strsOf r).map (x :: ·)
  | _ => none
def intsOf : List D → Option (List Int)
  | [] => some []
  | .int x :: r => (intsOf r).map (x :: ·)
  | _ => none
def blsOf : List D → Option (List Bool)
  | [] => some []
  | .bl x :: r => (blsOf r).map (x :: ·)
  | _ => none
/-- insertion, sorted -/
def insS (x : Str) : List Str → List Str
  | [] => [x]
  | y :: r => if sLt y x = true then y :: insS x r else x :: y :: r
def sortS : List Str → List Str
  | [] => []
  | x :: r => insS x (sortS r)
/-- without repeats -/
def dedupS : List Str → List Str
  | [] => []
  | x :: r => if r.contains x = true then dedupS r else x :: dedupS r
def seqOf : D → Option (List D)
  | .tup l => some l
  | .lst l => some l
  | _ => none
inductive Prim where
  | len | tpl | lst | all | any | max2 | min2 | toInt | sum | srt | mn | dic
  deriving DecidableEq
def un (f : D → Option D) : List D → Option D
  | [a] => f a
  | _ => none
def bi (f : D → D → Option D) : List D → Option D
  | [a, b] => f a b
  | _ => none
def dLen : D → Option D
  | .str x => some (.int x.length)
  | .tup l => some (.int l.length)
  | .lst l => some (.int l.length)
  | .scr l => some (.int l.length)
  | _ => none
def dIsi (t : Ty) (d : D) : Option D := (isTy t d).map .bl
def dSset (d : D) : Option D := (seqOf d).bind fun l => (strsOf l).bind fun xs => if xs.length ≤ 60 then some (.lst ((sortS (dedupS xs)).map .str)) else none
/-- tuples of whole numbers -/
def itsOf : List D → Option (List (List Int))
  | [] => some []
  | .tup l :: r => (intsOf l).bind fun ns => (itsOf r).map (ns :: ·)
  | _ => none
def dedupI : List (List Int) → List (List Int)
  | [] => []
  | x :: r => if r.contains x = true then dedupI r else x :: dedupI r
def dLsetI : D → Option D
  | .lst l => (itsOf l).bind fun ks => if ks.length ≤ 60 then some (.int (dedupI ks).length) else none
  | _ => none
def dLsetS (d : D) : Option D := (seqOf d).bind fun l => (strsOf l).bind fun xs => if xs.length ≤ 60 then some (.int (dedupS xs).length) else none
def dLset (d : D) : Option D := match dLsetS d with
  | some r => some r
  | none => dLsetI d
/-- two rows: where they first differ they can be compared -/
def okAll : List PyData → List PyData → Bool
  | x :: xs, y :: ys => PySem.W.alike x y && (!PyData.eqv x y || okAll xs ys)
  | _, _ => true
def neT : D → Bool
  | .tup (_ :: _) => true
  | _ => false
def isT : D → Bool
  | .tup _ => true
  | _ => false
def notT : D → Bool
  | .tup _ => false
  | .non => false
  | _ => true
def okD : D → D → Bool
  | .tup xs, .tup ys => okAll (D.toPs xs) (D.toPs ys)
  | _, _ => false
def alikeD (a b : D) : Bool := PySem.W.alike a.toP b.toP
def allP (f : D → D → Bool) (l : List D) : Bool := l.all fun a => l.all fun b => f a b
/-- what can be sorted -/
def srtB (l : List D) : Bool := (D.plains l && (decide (D.deps l ≤ 50) && decide (l.length ≤ sizeLine))) && ((l.all neT && allP okD l) || ((l.all notT && allP alikeD l) || (decide (l.length ≤ 1) && (l.all isT && allP okD l))))
def sortG (l : List D) : List D := l.mergeSort (PySem.W.dataLe false D.toP)
/-- sorted(xs) -/
def dSrt (d : D) : Option D := (seqOf d).bind fun l => if srtB l = true then some (.lst (sortG l)) else none
/-- the first of the least -/
def minG (x : D) (xs : List D) : D := xs.foldl (fun a y => if PySem.W.dataLt y.toP a.toP = true then y else a) x
def minB (l : List D) : Bool := D.plains l && (decide (D.deps l ≤ 50) && (l.all (fun d => !isNon d) && allP alikeD l))
/-- min(xs) -/
def dMn : D → Option D
  | .lst (x :: xs) => if minB (x :: xs) = true then some (minG x xs) else none
  | _ => none
def dTpl : D → Option D
  | .tup l => some (.tup l)
  | .lst l => some (.tup l)
  | _ => none
def dLst0 : D → Option D
  | .tup l => some (.lst l)
  | .lst l => some (.lst l)
  | _ => none
def dLst : D → Option D
  | .dct l => some (.lst (l.map (·.1)))
  | d => dLst0 d
def dAll : D → Option D
  | .lst l => (blsOf l).map fun bs => .bl (bs.all id)
  | _ => none
def dAny : D → Option D
  | .lst l => (blsOf l).map fun bs => .bl (bs.any id)
  | _ => none
def dMax : D → D → Option D
  | .int i, .int j => some (.int (if j > i then j else i))
  | _, _ => none
def dMin : D → D → Option D
  | .int i, .int j => some (.int (if j < i then j else i))
  | _, _ => none
def dInt : D → Option D
  | .int i => some (.int i)
  | .bl b => some (.int (if b then 1 else 0))
  | _ => none
def dSum : D → Option D
  | .lst l => (intsOf l).map fun ns => .int ns.sum
  | _ => none
/-- strip, on lists of signs -/
def stripL (g : Nat → Bool) (l : List Nat) : List Nat := ((l.drop (l.takeWhile g).length).take (l.length - ((l.drop (l.takeWhile g).length).reverse.takeWhile g).length - (l.takeWhile g).length))
def stripS (x y : Str) : Str := ⟨(stripL (fun c => y.cps.toList.contains c) x.cps.toList).toArray⟩
def dStrip : D → D → Option D
  | .str a, .str b => some (.str (stripS a b))
  | _, _ => none
def flatD : D → Bool
  | .non => true
  | .bl _ => true
  | .int _ => true
  | .str _ => true
  | _ => false
def dCnt : D → D → Option D
  | .lst l, a => if (flatD a && l.all flatD) = true then some (.int ((l.countP fun b => b.eqb a : Nat) : Int)) else none
  | _, _ => none
def dSget : D → Option D
  | .str x => some (.int (if x = "word" then 2 else if x = "one" then 3 else if x = "some" then 4 else 0))
  | _ => none
/-- dict(rows) -/
def pairOf : D → Option (D × D)
  | .tup [k, v] => some (k, v)
  | _ => none
def putAll : List (D × D) → List D → Option (List (D × D))
  | l, [] => some l
  | l, d :: ds => (pairOf d).bind fun p => if keyOkB l p.1 = true then putAll (putD l p.1 p.2) ds else none
def dDic : D → Option D
  | .lst l => if l.length ≤ 1000000 then (putAll [] l).map .dct else none
  | _ => none
def dPrim : Prim → List D → Option D
  | .len => un dLen | .tpl => un dTpl | .lst => un dLst | .all => un dAll | .any => un dAny
  | .max2 => bi dMax | .min2 => bi dMin | .toInt => un dInt | .sum => un dSum | .srt => un dSrt | .mn => un dMn | .dic => un dDic
/-- a method of one argument -/
inductive Mt where
  | strip | cnt | idx
  deriving DecidableEq
/-- list.index -/
def dLix : D → D → Option D
  | .lst l, a => if (flatD a && l.all flatD) = true then (match l.findIdx? fun b => b.eqb a with | some j => some (.int (j : Int)) | none => none) else none
  | _, _ => none
def dMt : Mt → D → D → Option D
  | .strip => dStrip | .cnt => dCnt | .idx => dLix
/-- isinstance of a caught error -/
def dIsx (c : Nat) : D → Option D
  | .exn e => some (.bl (e == c))
  | _ => none
def dIsv : D → Option D
  | .exn _ => some (.bl true)
  | _ => none
def mtOk : Mt → D → Bool
  | .strip, .str _ => true
  | .cnt, .lst _ => true
  | .idx, .lst _ => true
  | _, _ => false
def dIdx : D → D → Option D
  | .dct l, k => if keyOkB l k = true then lookD l k else none
  | .tup l, .int i => atI l i
  | .lst l, .int i => atI l i
  | .scr l, .int i => (atI l i).map .int
  | .str x, .int i => (atI x.cps.toList i).map fun c => .str ⟨#[c]⟩
  | _, _ => none
def cutL {α : Type} (xs : List α) (lo hi : Option Int) : List α := (xs.drop (HT.sIx xs.length 0 lo)).take (HT.sIx xs.length xs.length hi - HT.sIx xs.length 0 lo)
def dSl : D → Option Int → Option Int → Option D
  | .tup l, lo, hi => some (.tup (cutL l lo hi))
  | .lst l, lo, hi => some (.lst (cutL l lo hi))
  | _, _, _ => none
def dRev : D → Option D
  | .tup l => some (.tup l.reverse)
  | .lst l => some (.lst l.reverse)
  | _ => none
/-- a + b of lists -/
def dCat : D → D → Option D
  | .lst l, .lst n => if l.length + n.length ≤ sizeLine then some (.lst (l ++ n)) else none
  | _, _ => none
/-! ### the language -/
/-- a module's constant -/
inductive GV where
  | int (i : Int) | str (x : Str) | tup (l : List Int)
  deriving DecidableEq
def GV.toD : GV → D
  | .int i => .int i
  | .str x => .str x
  | .tup l => .tup (l.map .int)
inductive Tg where
  | nm (i : Nat)
  | tp (ts : List Tg)
mutual
def Tg.slots : Tg → List Nat
  | .nm i => [i]
  | .tp ts => Tg.slotsL ts
def Tg.slotsL : List Tg → List Nat
  | [] => []
  | t :: ts => t.slots ++ Tg.slotsL ts
end
mutual
inductive E where
  | var (i : Nat) | brw (i : Nat) | cst (d : D) | gl (x : Str) (d : GV) | fn (f : Nat)
  | tup (es : List E) | lst (es : List E)
  | bin (o : BOp) (a b : E) | cmp (o : COp) (a b : E) | chn (o1 o2 : COp) (a b c : E)
  | not (a : E) | and (a b : E) | or (a b : E) | ife (c a b : E)
  | call (f : Nat) (es : List E) | callv (e : E) (es : List E)
  | pr (p : Prim) (es : List E) | isi (t : Ty) (a : E) | mth (p : Mt) (o a : E) | sget (a : E) | sset (a : E) | lset (a : E)
  | idx (a b : E) | sl (a : E) (lo hi : Option E) | rev (a : E)
  | comp (elt : E) (t : Tg) (it : It) (c : Option E)
  | tlen (a : E) | nev | isx (c : Nat) (a : E) | isv (a : E)
  | dnew | dic1 (k v : E) | dget (d k x : E) | lrng (a b : E)
inductive It where
  | seq (e : E) | rng (a : E) | rng2 (a b : E) | enm (a : E) | zip2 (a b : E) | zip3 (a b c : E)
end
inductive S where
  | asg (t : Tg) (e : E) | own (i : Nat) (e : E)
  | app (i : Nat) (e : E) | ext (i : Nat) (e : E)
  | frz (i : Nat) | ret (e : E) | ite (c : E) (a b : List S)
  | for_ (t : Tg) (it : It) (b : List S) | raise (c : Nat) | exp (e : E) | cont
  | town (i : Nat) | tick (i : Nat) | nev | tryw (i w n : Nat) (b : List S)
  | whl (c : E) (b : List S) | pop (i : Nat) (j : Nat) | put (i : Nat) (a e : E) | par (i j : Nat) (a b : E) | ownc (i : Nat) (a b : E)
def setF (ρ : Fr) (i : Nat) (s : Option Slot) : Option Fr := if i < ρ.length then some (ρ.set i s) else none
mutual
def asgT : Tg → Fr → D → Option Fr
  | .nm i, ρ, d => setF ρ i (some (.sh d))
  | .tp ts, ρ, .tup ds => asgTs ts ρ ds
  | .tp _, _, _ => none
def asgTs : List Tg → Fr → List D → Option Fr
  | [], ρ, [] => some ρ
  | t :: ts, ρ, d :: ds => (asgT t ρ d).bind fun ρ' => asgTs ts ρ' ds
  | _, _, _ => none
end
def wipeF (ρ : Fr) : List Nat → Fr
  | [] => ρ
  | v :: vs => (wipeF ρ vs).set v none
def blD : D → M Bool
  | .bl b => ret b
  | _ => fail
/-- the turns of a list comprehension -/
def compL (step : D → M (Option D)) : List D → M (List D)
  | [] => ret []
  | d :: ds => bnd (step d) fun o => bnd (compL step ds) fun r => ret (match o with | some x => x :: r | none => r)
def lenOk {α : Type} (l : List α) : M (List α) := if l.length ≤ 1000000 then ret l else fail
def enum (k : Nat) : List D → List D
  | [] => []
  | d :: ds => .tup [.int k, d] :: enum (k + 1) ds
def zipD : List D → List D → List D
  | a :: as, b :: bs => .tup [a, b] :: zipD as bs
  | _, _ => []
def zipD3 : List D → List D → List D → List D
  | a :: as, b :: bs, c :: cs => .tup [a, b, c] :: zipD3 as bs cs
  | _, _, _ => []
def itemsOf : D → Option (List D)
  | .tup l => some l
  | .lst l => some l
  | .str x => some (x.cps.toList.map fun c => .str ⟨#[c]⟩)
  | .dct l => some (l.map (·.1))
  | _ => none
def rngD (lo hi : Int) : Option (List D) := if -(2 ^ 62) ≤ lo ∧ lo < 2 ^ 62 ∧ -(2 ^ 62) ≤ hi ∧ hi < 2 ^ 62 ∧ hi - lo ≤ 1000000 then some ((List.range (hi - lo).toNat).map fun (k : Nat) => D.int (lo + (k : Int))) else none
section
variable (Γ : Nat → List D → M D)
mutual
def ev : E → Fr → M D
  | .var i, ρ => match ρ[i]? with
    | some (some (.sh d)) => ret d
    | _ => fail
  | .brw i, ρ => match ρ[i]? with
    | some (some (.ow d)) => ret d
    | some (some (.sh d)) => ret d
    | _ => fail
  | .cst d, _ => ret d
  | .gl _ d, _ => ret d.toD
  | .fn f, _ => ret (.fn f)
  | .tup es, ρ => bnd (evs es ρ) fun ds => ret (.tup ds)
  | .lst es, ρ => bnd (evs es ρ) fun ds => ret (.lst ds)
  | .bin o a b, ρ => bnd (ev a ρ) fun x => bnd (ev b ρ) fun y => opt (dBin o x y)
  | .cmp o a b, ρ => bnd (ev a ρ) fun x => bnd (ev b ρ) fun y => opt (dCmp o x y)
  | .chn o1 o2 a b c, ρ => bnd (ev a ρ) fun x => bnd (ev b ρ) fun y => bnd (opt (dCmp o1 x y)) fun r => bnd (blD r) fun k =>
      if k = true then bnd (ev c ρ) fun z => opt (dCmp o2 y z) else ret (.bl false)
  | .not a, ρ => bnd (ev a ρ) fun x => bnd (blD x) fun k => ret (.bl (!k))
  | .and a b, ρ => bnd (ev a ρ) fun x => bnd (blD x) fun k => if k = true then ev b ρ else ret (.bl false)
  | .or a b, ρ => bnd (ev a ρ) fun x => bnd (blD x) fun k => if k = true then ret (.bl true) else ev b ρ
  | .ife c a b, ρ => bnd (ev c ρ) fun x => bnd (blD x) fun k => if k = true then ev a ρ else ev b ρ
  | .call f es, ρ => bnd (evs es ρ) fun ds => Γ f ds
  | .callv e es, ρ => bnd (ev e ρ) fun x => match x with
    | .fn f => bnd (evs es ρ) fun ds => Γ f ds
    | _ => fail
  | .pr p es, ρ => bnd (evs es ρ) fun ds => opt (dPrim p ds)
  | .isi t a, ρ => bnd (ev a ρ) fun d => opt (dIsi t d)
  | .mth p o a, ρ => bnd (ev o ρ) fun x => if mtOk p x = true then bnd (ev a ρ) fun y => opt (dMt p x y) else fail
  | .sget a, ρ => bnd (ev a ρ) fun d => opt (dSget d)
  | .sset a, ρ => bnd (ev a ρ) fun d => opt (dSset d)
  | .lset a, ρ => bnd (ev a ρ) fun d => opt (dLset d)
  | .idx a b, ρ => bnd (ev a ρ) fun x => bnd (ev b ρ) fun y => opt (dIdx x y)
  | .sl a lo hi, ρ => bnd (ev a ρ) fun x => bnd (evo lo ρ) fun l => bnd (evo hi ρ) fun h => opt (dSl x l h)
  | .rev a, ρ => bnd (ev a ρ) fun x => opt (dRev x)
  | .comp elt t it c, ρ => bnd (iter it ρ) fun ds => bnd (lenOk ds) fun ds => noexc (bnd (compL (fun d => bnd (opt (asgT t (wipeF ρ t.slots) d)) fun ρ' => match c with
      | none => bnd (ev elt ρ') fun x => ret (some x)
      | some c => bnd (ev c ρ') fun b => bnd (blD b) fun k => if k = true then bnd (ev elt ρ') fun x => ret (some x) else ret none) ds) fun l => ret (.lst l))
  | .nev, _ => fail
  | .isx c a, ρ => bnd (ev a ρ) fun d => opt (dIsx c d)
  | .isv a, ρ => bnd (ev a ρ) fun d => opt (dIsv d)
  | .dnew, _ => ret (.dct [])
  | .dic1 k v, ρ => bnd (ev k ρ) fun x => bnd (ev v ρ) fun y => if (x.topB && !x.strB) = true then ret (.dct [(x, y)]) else fail
  | .dget d k x, ρ => bnd (ev d ρ) fun a => match a with
    | .dct l => bnd (ev k ρ) fun b => bnd (ev x ρ) fun c => if keyOkB l b = true then ret ((lookD l b).getD c) else fail
    | _ => fail
  | .lrng a b, ρ => bnd (ev a ρ) fun x => bnd (ev b ρ) fun y => match x, y with
    | .int m, .int n => bnd (opt (rngD m n)) fun l => ret (.lst l)
    | _, _ => fail
  | .tlen a, ρ => bnd (ev a ρ) fun x => match x with
    | .town => fun s => .ok (.int (s.getD 0 : Nat)) s
    | _ => fail
def evs : List E → Fr → M (List D)
  | [], _ => ret []
  | e :: es, ρ => bnd (ev e ρ) fun d => bnd (evs es ρ) fun ds => ret (d :: ds)
def evo : Option E → Fr → M (Option Int)
  | none, _ => ret none
  | some e, ρ => bnd (ev e ρ) fun d => match d with
    | .int i => ret (some i)
    | _ => fail
def iter : It → Fr → M (List D)
  | .seq e, ρ => bnd (ev e ρ) fun d => opt (itemsOf d)
  | .rng a, ρ => bnd (ev a ρ) fun x => match x with
    | .int n => opt (rngD 0 n)
    | _ => fail
  | .rng2 a b, ρ => bnd (ev a ρ) fun x => bnd (ev b ρ) fun y => match x, y with
    | .int m, .int n => opt (rngD m n)
    | _, _ => fail
  | .enm a, ρ => bnd (ev a ρ) fun x => bnd (opt (seqOf x)) fun l => ret (enum 0 l)
  | .zip2 a b, ρ => bnd (ev a ρ) fun x => bnd (ev b ρ) fun y => bnd (opt (seqOf x)) fun l => bnd (opt (seqOf y)) fun m => ret (zipD l m)
  | .zip3 a b c, ρ => bnd (ev a ρ) fun x => bnd (ev b ρ) fun y => bnd (ev c ρ) fun z => bnd (opt (seqOf x)) fun l => bnd (opt (seqOf y)) fun m => bnd (opt (seqOf z)) fun n => ret (zipD3 l m n)
end
inductive Flw where
  | nx (ρ : Fr) | ct (ρ : Fr) | rt (d : D)
/-- the turns of a for -/
def forL (body : Fr → D → M Flw) : List D → Fr → M Flw
  | [], ρ => ret (.nx ρ)
  | d :: ds, ρ => bnd (body ρ d) fun f => match f with
    | .nx ρ' => forL body ds ρ'
    | .ct ρ' => forL body ds ρ'
    | .rt d => ret (.rt d)
/-- the turns of a while, at most so many -/
def whlL (cond : Fr → M Bool) (body : Fr → M Flw) : Nat → Fr → M Flw
  | 0, _ => fail
  | n + 1, ρ => bnd (cond ρ) fun k => if k = true then bnd (body ρ) fun f => match f with
      | .nx ρ' => whlL cond body n ρ'
      | .ct ρ' => whlL cond body n ρ'
      | .rt d => ret (.rt d)
    else ret (.nx ρ)
def fuelW : Nat := 1000000000000
mutual
def ex : S → Fr → M Flw
  | .asg t e, ρ => bnd (ev Γ e ρ) fun d => bnd (opt (asgT t ρ d)) fun ρ' => ret (.nx ρ')
  | .own i e, ρ => bnd (ev Γ e ρ) fun d => bnd (opt (setF ρ i (some (.ow d)))) fun ρ' => ret (.nx ρ')
  | .app i e, ρ => match ρ[i]? with
    | some (some (.ow (.lst l))) => bnd (ev Γ e ρ) fun d => if l.length < sizeLine then ret (.nx (ρ.set i (some (.ow (.lst (l ++ [d])))))) else fail
    | _ => fail
  | .ext i e, ρ => match ρ[i]? with
    | some (some (.ow (.lst l))) => bnd (ev Γ e ρ) fun d => match d with
      | .lst m => if l.length + m.length ≤ sizeLine then ret (.nx (ρ.set i (some (.ow (.lst (l ++ m)))))) else fail
      | _ => fail
    | _ => fail
  | .frz i, ρ => match ρ[i]? with
    | some (some (.ow d)) => ret (.nx (ρ.set i (some (.sh d))))
    | some (some (.sh _)) => ret (.nx ρ)
    | _ => fail
  | .ret e, ρ => bnd (ev Γ e ρ) fun d => ret (.rt d)
  | .ite c a b, ρ => bnd (ev Γ c ρ) fun x => bnd (blD x) fun k => if k = true then exs a ρ else exs b ρ
  | .for_ t it b, ρ => bnd (iter Γ it ρ) fun ds => forL (fun ρ d => bnd (opt (asgT t ρ d)) fun ρ' => exs b ρ') ds ρ
  | .raise c, _ => fun s => .exc c s
  | .exp e, ρ => bnd (ev Γ e ρ) fun _ => ret (.nx ρ)
  | .cont, ρ => ret (.ct ρ)
  | .nev, _ => fail
  | .tryw _ w n b, ρ => fun s => match exs b ρ s with
    | .ok f s' => .ok f s'
    | .exc c s' => if c < n then bnd (noexc (Γ w [.exn c])) (fun d => if d.plain = true then ret (.rt d) else fail) s' else .bad
    | .bad => .bad
  | .whl c b, ρ => whlL (fun ρ => bnd (ev Γ c ρ) blD) (fun ρ => exs b ρ) fuelW ρ
  | .pop i j, ρ => match ρ[i]? with
    | some (some (.ow (.lst l))) => bnd (opt l.getLast?) fun d => bnd (opt (setF (ρ.set i (some (.ow (.lst l.dropLast)))) j (some (.sh d)))) fun ρ' => ret (.nx ρ')
    | _ => fail
  | .put i a e, ρ => match ρ[i]? with
    | some (some (.ow (.lst l))) => bnd (ev Γ e ρ) fun v => bnd (ev Γ a ρ) fun k => match k with
      | .int j => if 0 ≤ j ∧ j < (l.length : Int) then ret (.nx (ρ.set i (some (.ow (.lst (l.set j.toNat v)))))) else fail
      | _ => fail
    | some (some (.ow (.dct l))) => bnd (ev Γ e ρ) fun v => bnd (ev Γ a ρ) fun k => if keyOkB l k = true ∧ l.length < sizeLine then ret (.nx (ρ.set i (some (.ow (.dct (putD l k v)))))) else fail
    | _ => fail
  | .par i j a b, ρ => bnd (ev Γ a ρ) fun x => bnd (ev Γ b ρ) fun y => bnd (opt (setF ρ i (some (.sh x)))) fun ρ1 => bnd (opt (setF ρ1 j (some (.sh y)))) fun ρ2 => ret (.nx ρ2)
  | .ownc i a b, ρ => bnd (bnd (ev Γ a ρ) fun x => bnd (ev Γ b ρ) fun y => opt (dCat x y)) fun d => bnd (opt (setF ρ i (some (.ow d)))) fun ρ' => ret (.nx ρ')
  | .town i, ρ => bnd (opt (setF ρ i (some (.sh .town)))) fun ρ' => fun s => match s with
    | none => .ok (.nx ρ') (some 0)
    | some _ => .bad
  | .tick i, ρ => match ρ[i]? with
    | some (some (.sh .town)) => fun s => if s.getD 0 < sizeLine then .ok (.nx ρ) (some (s.getD 0 + 1)) else .bad
    | _ => fail
def exs : List S → Fr → M Flw
  | [], ρ => ret (.nx ρ)
  | s :: ss, ρ => bnd (ex s ρ) fun f => match f with
    | .nx ρ' => exs ss ρ'
    | .ct ρ' => ret (.ct ρ')
    | .rt d => ret (.rt d)
end
end
/-- a def: how many parameters, its names by slot, its body -/
structure FDef where
  ar : Nat
  N : List Str
  body : List S
def startF (F : FDef) (ds : List D) : Fr := ds.map (fun d => some (.sh d)) ++ List.replicate (F.N.length - ds.length) none
def outF : Flw → M D
  | .nx _ => ret .non
  | .rt d => ret d
  | .ct _ => fail
def runF (Γ : Nat → List D → M D) (F : FDef) (ds : List D) : M D := bnd (exs Γ F.body (startF F ds)) outF
/-- what def f computes, by calls at most k deep -/
def sem (Δ : Nat → Option FDef) : Nat → Nat → List D → M D
  | 0, _, _ => fail
  | k + 1, f, ds => match Δ f with
    | some F => if ds.length = F.ar then runF (sem Δ k) F ds else fail
    | none => fail
end G
/-! G3: the judgements, and operators. -/
namespace G
open PySem L2
/-- where the defs and the exceptions' classes stand -/
structure Gi where
  fa : Nat → Option Addr
  cls : Nat → Addr
  ex : Option (Addr × Nat)
abbrev cn (X : Cx) (g : Gi) : Cn := ⟨X.K, g.fa, g.cls, g.ex, X.w⟩
def Pst {α : Type} (C : Cn) (E : XK) (W : Wd) (H : Hp) (r : Res α) (k : α → Sto → Wd → Hp → Prop) : Prop :=
  match r with
  | .ok a S => ∀ (H' : Hp) (W' : Wd), Ext W H W' H' → StoOk W' S H' → k a S W' H'
  | .exc c S => ∀ (H' : Hp) (W' : Wd), Ext W H W' H' → StoOk W' S H' → E (.ref (C.cls c)) none H'
  | .bad => False
section
variable {C : Cn} {E : XK} {α β : Type} {W W1 : Wd} {H H1 : Hp} {S : Sto}
theorem Pst.ext {r : Res α} {k : α → Sto → Wd → Hp → Prop} (h : Pst C E W H r k) (e : Ext W H W1 H1) : Pst C E W1 H1 r k := by
  cases r with
  | ok a S => exact fun H' W' e' s => h H' W' (e.trans e') s
  | exc c S => exact fun H' W' e' s => h H' W' (e.trans e') s
  | bad => exact h
theorem Pst.imp {r : Res α} {k k' : α → Sto → Wd → Hp → Prop} (h : Pst C E W H r k) (f : ∀ a S W' H', Ext W H W' H' → StoOk W' S H' → k a S W' H' → k' a S W' H') : Pst C E W H r k' := by
  cases r with
  | ok a S => exact fun H' W' e' s => f _ _ _ _ e' s (h H' W' e' s)
  | exc c S => exact h
  | bad => exact h
/-- the first of two in a row -/
theorem Pst.fst {m : M α} {f : α → M β} {k : β → Sto → Wd → Hp → Prop} (h : Pst C E W H (bnd m f S) k) : Pst C E W H (m S) (fun a S1 W1 H1 => Pst C E W1 H1 (f a S1) k) := by
  unfold bnd at h
  cases e : m S with
  | ok a S1 => rw [e] at h; exact fun H' W' e' s => Pst.ext h e'
  | exc c S1 => rw [e] at h; exact h
  | bad => rw [e] at h; exact h
theorem Pst.opt {o : Option α} {k : α → Sto → Wd → Hp → Prop} (h : Pst C E W H (G.opt o S) k) : ∃ a, o = some a ∧ Pst C E W H (.ok a S) k := by
  cases o with
  | none => exact h.elim
  | some a => exact ⟨a, rfl, h⟩
theorem Pst.okk {a : α} {k : α → Sto → Wd → Hp → Prop} (h : Pst C E W H (.ok a S) k) (s : StoOk W S H) : k a S W H := h H W (Ext.refl _ _) s
end
def RepB (C : Cn) (W : Wd) (H : Hp) (v : V) (d : D) : Prop := Rep C W v d ∨ ∃ a, v = .ref a ∧ OwnAt C W H a d ∧ W.Hs a = none ∧ W.L ≠ some a
inductive RepBs (C : Cn) (W : Wd) (H : Hp) : List V → List D → Prop
  | nil : RepBs C W H [] []
  | cons {v : V} {vs : List V} {d : D} {ds : List D} : RepB C W H v d → RepBs C W H vs ds → RepBs C W H (v :: vs) (d :: ds)
section
variable {C : Cn} {W W1 : Wd} {H H1 : Hp} {v : V} {d : D}
theorem RepB.ext (h : RepB C W H v d) (e : Ext W H W1 H1) : RepB C W1 H1 v d := by
  rcases h with h | ⟨a, h1, h2, h3, h4⟩
  · exact .inl (h.mono e.le)
  · obtain ⟨o, ho⟩ := h2.there
    refine .inr ⟨a, h1, h2.mono e.le fun o' h' => e.kp a o' h' h4, ?_, ?_⟩
    · cases q : W1.Hs a with
      | none => rfl
      | some u =>
        have := e.nw a h3 (by rw [q]; simp)
        rw [this] at ho; cases ho
    · intro q
      rcases e.le.lo with z | z
      · have := e.nl a q z
        rw [this] at ho; cases ho
      · exact h4 (z.symm.trans q)
/-- what may stand in an owned slot -/
def D.ownB : D → Bool
  | .lst _ => true
  | .dct _ => true
  | _ => false
theorem RepB.flat (h : RepB C W H v d) (n : d.ownB = false) : Rep C W v d := by
  rcases h with h | ⟨a, h1, h2, h3, h4⟩
  · exact h
  · cases d with
    | lst l => cases n
    | dct l => cases n
    | _ => exact h2.elim
theorem RepB.dct {l : List (D × D)} (h : RepB C W H v (.dct l)) (s : Same W.Hs H) : ∃ (a : Addr) (o : Obj) (xs : List (NestedKey × V × V)), v = .ref a ∧ H a = some (dicO C.w a o xs) ∧ xs.length ≤ sizeLine ∧ (a == sysModules) = false ∧ keysOk (l.map (·.1)) ∧ xs.map (·.1) = l.map (fun p => p.1.nk) ∧ Reps C W (xs.map (·.2.1)) (l.map (·.1)) ∧ Reps C W (xs.map (·.2.2)) (l.map (·.2)) := by
  rcases h with h | ⟨a, h1, h2, h3, h4⟩
  · cases h with
    | dct h1 h2 h3 h4 h5 h6 h7 => exact ⟨_, _, _, rfl, s _ _ h1, h2, h3, h4, h5, h6, h7⟩
  · obtain ⟨o, xs, e⟩ := h2
    exact ⟨a, o, xs, h1, e⟩
theorem RepB.lst {ds : List D} (h : RepB C W H v (.lst ds)) (s : Same W.Hs H) : ∃ a vs, v = .ref a ∧ H a = some (.lst vs) ∧ vs.length ≤ sizeLine ∧ Reps C W vs ds := by
  rcases h with h | ⟨a, h1, h2, h3, h4⟩
  · cases h with
    | lst h1 h2 h3 => exact ⟨_, _, rfl, s _ _ h1, h2, h3⟩
  · obtain ⟨vs, e1, e2, e3⟩ := h2
    exact ⟨a, vs, h1, e1, e2, e3⟩
theorem RepB.int {i : Int} (h : RepB C W H v (.int i)) : v = .int i := by
  cases h.flat rfl; rfl
theorem RepB.bl {i : Bool} (h : RepB C W H v (.bl i)) : v = .bl i := by
  cases h.flat rfl; rfl
theorem RepB.non (h : RepB C W H v .non) : v = .non := by
  cases h.flat rfl; rfl
theorem RepB.str {x : Str} (h : RepB C W H v (.str x)) : v = .str x ∧ x.length ≤ sizeLine ∧ PyData.strOk x = true := by
  cases h.flat rfl; exact ⟨rfl, by assumption, by assumption⟩
theorem RepB.tup {ds : List D} (h : RepB C W H v (.tup ds)) (s : Same W.Hs H) : ∃ a vs, v = .ref a ∧ SqT C.K H a vs ∧ vs.length ≤ sizeLine ∧ Reps C W vs ds := by
  cases h.flat rfl with
  | tup h1 h2 h3 => exact ⟨_, _, rfl, Same.sqT s h1, h2, h3⟩
theorem RepB.scr {ns : List Int} (h : RepB C W H v (.scr ns)) (s : Same W.Hs H) : ∃ a, v = .ref a ∧ SqL C.K H a (ns.map V.int) ∧ ns.length ≤ sizeLine := by
  cases h.flat rfl with
  | scr h1 h2 => exact ⟨_, rfl, s.seq h1, h2⟩
theorem RepBs.ext {vs : List V} {ds : List D} (h : RepBs C W H vs ds) (e : Ext W H W1 H1) : RepBs C W1 H1 vs ds := by
  induction h with
  | nil => exact .nil
  | cons h _ ih => exact .cons (h.ext e) ih
theorem RepBs.of {vs : List V} {ds : List D} (h : Reps C W vs ds) : RepBs C W H vs ds := by
  induction ds generalizing vs with
  | nil => cases h; exact .nil
  | cons d ds ih => cases h with | cons h t => exact .cons (.inl h) (ih t)
theorem RepBs.length {vs : List V} {ds : List D} (h : RepBs C W H vs ds) : vs.length = ds.length := by
  induction h with
  | nil => rfl
  | cons _ _ ih => simp [ih]
theorem RepBs.inv1 {vs : List V} {d : D} (h : RepBs C W H vs [d]) : ∃ v, vs = [v] ∧ RepB C W H v d := by
  cases h with | cons h t => cases t; exact ⟨_, rfl, h⟩
theorem RepBs.inv2 {vs : List V} {d e : D} (h : RepBs C W H vs [d, e]) : ∃ v u, vs = [v, u] ∧ RepB C W H v d ∧ RepB C W H u e := by
  cases h with | cons h t => cases t with | cons h2 t2 => cases t2; exact ⟨_, _, rfl, h, h2⟩
/-- a new tuple, a new list: shared -/
theorem Rep.newT {p : Addr} {vs : List V} {ds : List D} (hn : H p = none) (sh : Same W.Hs H) (hz : vs.length ≤ sizeLine) (r : Reps C W vs ds) : Rep C ⟨upd W.Hs p (.tup vs), W.L⟩ (.ref p) (.tup ds) :=
  .tup (.inl (.inl upd_same)) hz (r.mono (Ext.laid sh hn).le)
theorem Rep.newL {p : Addr} {vs : List V} {ds : List D} (hn : H p = none) (sh : Same W.Hs H) (hz : vs.length ≤ sizeLine) (r : Reps C W vs ds) : Rep C ⟨upd W.Hs p (.lst vs), W.L⟩ (.ref p) (.lst ds) :=
  .lst upd_same hz (r.mono (Ext.laid sh hn).le)
end
/-! ### judgements -/
def tE (C : Cn) (E : XK) (m : Fr → M D) : TE := fun σ H Q => ∃ (H0 : Hp) (ρ : Fr) (S : Sto) (W : Wd), Frm C H0 W ρ σ H ∧ StoOk W S H ∧ Pst C E W H (m ρ S) fun d _ W' H' => ∀ v, Rep C W' v d → Q v H'
def tB (C : Cn) (E : XK) (m : Fr → M D) : TE := fun σ H Q => ∃ (H0 : Hp) (ρ : Fr) (S : Sto) (W : Wd), Frm C H0 W ρ σ H ∧ StoOk W S H ∧ Pst C E W H (m ρ S) fun d _ W' H' => ∀ v, RepB C W' H' v d → Q v H'
def tT (C : Cn) (E : XK) (m : Fr → M D) : TT := fun σ H Q => ∃ (H0 : Hp) (ρ : Fr) (S : Sto) (W : Wd), Frm C H0 W ρ σ H ∧ StoOk W S H ∧ Pst C E W H (m ρ S) fun d _ W' H' => ∃ b, d = .bl b ∧ Q b H'
def tA (C : Cn) (E : XK) (m : Fr → M (List D)) : TA := fun σ H Q => ∃ (H0 : Hp) (ρ : Fr) (S : Sto) (W : Wd), Frm C H0 W ρ σ H ∧ StoOk W S H ∧ Pst C E W H (m ρ S) fun ds _ W' H' => ∀ vs, Reps C W' vs ds → Q vs H'
def tAB (C : Cn) (E : XK) (m : Fr → M (List D)) : TA := fun σ H Q => ∃ (H0 : Hp) (ρ : Fr) (S : Sto) (W : Wd), Frm C H0 W ρ σ H ∧ StoOk W S H ∧ Pst C E W H (m ρ S) fun ds _ W' H' => ∀ vs, RepBs C W' H' vs ds → Q vs H'
theorem PE.imp {X : Cx} {e : Expr} {t t' : TE} (h : PE X e t) (f : ∀ σ H Q, t' σ H Q → t σ H Q) : PE X e t' := ⟨fun pins s σ H Q I q => h.run pins s σ H Q I (f σ H Q q)⟩
theorem PT.imp {X : Cx} {e : Expr} {t t' : TT} (h : PT X e t) (f : ∀ σ H Q, t' σ H Q → t σ H Q) : PT X e t' := ⟨fun pins s σ H Q I q => h.run pins s σ H Q I (f σ H Q q)⟩
theorem PA.imp {X : Cx} {e : List Expr} {t t' : TA} (h : PA X e t) (f : ∀ σ H Q, t' σ H Q → t σ H Q) : PA X e t' := ⟨fun pos pins s σ H Q I q => h.run pos pins s σ H Q I (f σ H Q q)⟩
theorem PS.imp {X : Cx} {e : Stmt} {t t' : TS} (h : PS X e t) (f : ∀ D σ H, t' D σ H → t D σ H) : PS X e t' := ⟨fun pins s σ H D I q => h.run pins s σ H D I (f D σ H q)⟩
section
variable {X : Cx} {C : Cn} {E : XK} {e : Expr} {m : Fr → M D}
theorem PE.toB (h : PE X e (tE C E m)) : PE X e (tB C E m) := PE.imp h fun σ H Q q => by
  obtain ⟨H0, ρ, S, W, fr, st, p⟩ := q
  exact ⟨H0, ρ, S, W, fr, st, p.imp fun d S' W' H' _ _ k v r => k v (.inl r)⟩
end
/-- an operator by values -/
abbrev rG2 (C : Cn) (f : D → D → Option D) : R2 := fun x y H Q => ∃ (W : Wd) (S : Sto) (a b d : D), StoOk W S H ∧ RepB C W H x a ∧ RepB C W H y b ∧ f a b = some d ∧ ∀ v H' W', Ext W H W' H' → StoOk W' S H' → Rep C W' v d → Q v H'
section
variable {X : Cx} {g : Gi} {E : XK} {a b c : Expr} {ma mb mc : Fr → M D} {pos : Pos}
/-- two in a row -/
theorem two {f : D → D → Option D} {σ : St} {H : Hp} {Q : VK} (h : tE (cn X g) E (fun ρ => bnd (ma ρ) fun x => bnd (mb ρ) fun y => opt (f x y)) σ H Q) :
    tOp (rG2 (cn X g) f) (tB (cn X g) E ma) (tB (cn X g) E mb) σ H Q := by
  obtain ⟨H0, ρ, S, W, fr, st, p⟩ := h
  refine ⟨H0, ρ, S, W, fr, st, (Pst.fst p).imp fun x S1 W1 H1 e1 s1 p1 v r => ?_⟩
  refine ⟨H0, ρ, S1, W1, fr.ext e1, s1, (Pst.fst p1).imp fun y S2 W2 H2 e2 s2 p2 u q => ?_⟩
  obtain ⟨d, hd, p3⟩ := p2.opt
  exact ⟨W2, S2, x, y, d, s2, r.ext e2, q, hd, fun v H' W' e3 s3 r3 => p3 H' W' e3 s3 v r3⟩
theorem q_bin {op : Operator} {f : D → D → Option D} (ho : OpR X (binaryOp op) (rG2 (cn X g) f)) (ha : PE X a (tB (cn X g) E ma)) (hb : PE X b (tB (cn X g) E mb)) :
    PE X (.BinOp a op b pos) (tE (cn X g) E fun ρ => bnd (ma ρ) fun x => bnd (mb ρ) fun y => opt (f x y)) :=
  PE.imp (pe_op ho ha hb) fun _ _ _ h => two h
theorem q_cmp {op : CmpOp} {f : D → D → Option D} (ho : OpR X (compareOp op) (rG2 (cn X g) f)) (ha : PE X a (tB (cn X g) E ma)) (hb : PE X b (tB (cn X g) E mb)) (hm : behindInMarks op b = false) :
    PE X (.Compare a [op] [b] pos) (tE (cn X g) E fun ρ => bnd (ma ρ) fun x => bnd (mb ρ) fun y => opt (f x y)) :=
  PE.imp (pe_cmpR ho ha hb hm) fun _ _ _ h => two h
end
end G
/-! GT: a tuple times a small or a negative number. -/
namespace G
open PySem PySem.Spec PyProof.Rows L2
theorem tuple_mul1 (l : Addr) (items : Array Value) (n : Nat) (dd : Option Addr) (sl : Array (Option Value)) (x : Int) (u : Tok) (c0 : (decide (x < -(2 ^ 63)) || decide (x ≥ 2 ^ 63)) = false) (c1 : (items.isEmpty || x == 1) = true) :
    Meets (Builtin.«tuple.__mul__» ⟨[.ref l, .int x u], []⟩) (fun _ R s => s.heap.get? l = some { cls := .type "tuple", dict := dd, data := .seq items n, slots := sl } ∧ R (.ok (.ret (Value.ref l))) s) :=
  .of_wp fun prog w A R s h => by
    obtain ⟨hp, g, d, tk, os⟩ := s
    obtain ⟨hl, h⟩ := h
    have f1 := AutoSeq1.idx_int
    wp_walk using wpAny_loadPart' hl
    repeat (first
      | (refine wpAny_ite_false (decide_eq_false (by rw [c0]; exact Bool.false_ne_true)) ?_; wp_walk using wpAny_loadPart' hl)
      | (refine wpAny_ite_true (decide_eq_true c1) ?_; wp_walk using wpAny_loadPart' hl))
    exact ⟨_, rfl, h⟩
theorem tuple_mul0 (l : Addr) (items : Array Value) (n : Nat) (dd : Option Addr) (sl : Array (Option Value)) (x : Int) (u : Tok) (c0 : (decide (x < -(2 ^ 63)) || decide (x ≥ 2 ^ 63)) = false) (c1 : (items.isEmpty || x == 1) = false) (c2 : (decide (x ≤ 0) || items.isEmpty) = true) :
    Meets (Builtin.«tuple.__mul__» ⟨[.ref l, .int x u], []⟩) (fun _ R s => s.heap.get? l = some { cls := .type "tuple", dict := dd, data := .seq items n, slots := sl } ∧
      R (.ok (.ret (Value.ref s.heap.objs.size))) { s with heap := s.heap.push { cls := Value.type "tuple", data := Data.seq #[] }, toks := s.toks }) :=
  .of_wp fun prog w A R s h => by
    obtain ⟨hp, g, d, tk, os⟩ := s
    obtain ⟨hl, h⟩ := h
    have f1 := AutoSeq1.idx_int
    have hsz : ¬ (#[] : Array Value).size > sizeLine := by rw [sizeLine_eq]; decide
    wp_walk using wpAny_loadPart' hl
    repeat (first
      | (refine wpAny_ite_false (decide_eq_false (by rw [c0]; exact Bool.false_ne_true)) ?_; wp_walk using wpAny_loadPart' hl)
      | (refine wpAny_ite_false (decide_eq_false (by rw [c1]; exact Bool.false_ne_true)) ?_; wp_walk using wpAny_loadPart' hl)
      | (refine wpAny_ite_true (decide_eq_true c2) ?_; wp_walk using wpAny_loadPart' hl)
      | (refine wpAny_ite_false (decide_eq_false hsz) ?_; wp_walk using wpAny_loadPart' hl))
    exact ⟨_, rfl, h⟩
section
variable {X : Cx}
/-- nothing comes out -/
def rRep0 (K : PySem.W.Frag) : R2 := fun x y H Q => ∃ l k xs, x = .ref l ∧ y = .int k ∧ SqT K H l xs ∧ xs ≠ [] ∧ k ≤ 0 ∧ -1000 ≤ k ∧ ∀ p, H p = none → Q (.ref p) (upd H p (.tup []))
/-- the tuple itself comes out -/
def rRep1 (K : PySem.W.Frag) : R2 := fun x y H Q => ∃ l k xs, x = .ref l ∧ y = .int k ∧ SqT K H l xs ∧ (xs = [] ∨ k = 1) ∧ k ≤ 1000 ∧ -1000 ≤ k ∧ Q (.ref l) H
theorem op_rep1 : OpR X (binaryOp .Mult) (rRep1 X.K) := by
  intro pins s σ H x y v u Q I rx ry h
  obtain ⟨l, k, xs, rfl, rfl, hT, hne, h1, h2, q⟩ := h
  cases rx
  obtain ⟨t, rfl⟩ := ry
  obtain ⟨its, r, ⟨⟨cls, dd, data, sl⟩, ho, hc, n, hd⟩, hs⟩ := I.tuple hT
  simp only at hc hd
  subst hc hd
  have hle : its.length = xs.length := r.length.symm
  have c0 : (decide (k < -(2 ^ 63)) || decide (k ≥ 2 ^ 63)) = false := by
    rw [decide_eq_false (by omega), decide_eq_false (by omega)] <;> rfl
  have c1 : (its.toArray.isEmpty || k == 1) = true := by
    rcases hne with rfl | rfl
    · cases its with
      | nil => rfl
      | cons _ _ => cases hle
    · simp
  refine wpAny_binaryOp_repeat_ref (T := "tuple") (U := "int") (by decide) ⟨_, ho, rfl⟩ (fun s' => typeIs_int s' k t) noFill_tuple_mul F.fills_int_mul F.slot_int_rmul repeat_tuple F.slot_int_index.lookup
    (call_meets F.slot_int_rmul (typeIs_int s k t) F.entry_int_rmul (F.args_int_rmul_2 _ _) (int_rmul_tuple k t l its.toArray n dd sl)
      ⟨ho, rfl, ⟨_, ho, rfl⟩, call_meets F.slot_tuple_mul ⟨_, ho, rfl⟩ F.entry_tuple_mul (F.args_tuple_mul_2 _ _) (tuple_mul1 l its.toArray n dd sl k t c0 c1) ⟨ho, ?_⟩⟩)
  exact ⟨.ref l, H, I, rfl, q⟩
theorem op_rep0 : OpR X (binaryOp .Mult) (rRep0 X.K) := by
  intro pins s σ H x y v u Q I rx ry h
  obtain ⟨l, k, xs, rfl, rfl, hT, hne, h1, h2, q⟩ := h
  cases rx
  obtain ⟨t, rfl⟩ := ry
  obtain ⟨its, r, ⟨⟨cls, dd, data, sl⟩, ho, hc, n, hd⟩, hs⟩ := I.tuple hT
  simp only at hc hd
  subst hc hd
  have hle : its.length = xs.length := r.length.symm
  have c0 : (decide (k < -(2 ^ 63)) || decide (k ≥ 2 ^ 63)) = false := by
    rw [decide_eq_false (by omega), decide_eq_false (by omega)] <;> rfl
  have hi : its.toArray.isEmpty = false := by
    cases its with
    | nil => exact absurd (List.eq_nil_of_length_eq_zero hle.symm) hne
    | cons a b => rfl
  have c1 : (its.toArray.isEmpty || k == 1) = false := by
    rw [hi, Bool.false_or]
    exact beq_eq_false_iff_ne.mpr (by omega)
  have c2 : (decide (k ≤ 0) || its.toArray.isEmpty) = true := by rw [decide_eq_true h1]; rfl
  refine wpAny_binaryOp_repeat_ref (T := "tuple") (U := "int") (by decide) ⟨_, ho, rfl⟩ (fun s' => typeIs_int s' k t) noFill_tuple_mul F.fills_int_mul F.slot_int_rmul repeat_tuple F.slot_int_index.lookup
    (call_meets F.slot_int_rmul (typeIs_int s k t) F.entry_int_rmul (F.args_int_rmul_2 _ _) (int_rmul_tuple k t l its.toArray n dd sl)
      ⟨ho, rfl, ⟨_, ho, rfl⟩, call_meets F.slot_tuple_mul ⟨_, ho, rfl⟩ F.entry_tuple_mul (F.args_tuple_mul_2 _ _) (tuple_mul0 l its.toArray n dd sl k t c0 c1 c2) ⟨ho, ?_⟩⟩)
  exact ⟨.ref s.heap.objs.size, _, I.laid (t' := s.toks) (o := .tup []) (fun b ob q => Heap.get?_push_of_some _ q) (Nat.le_refl _) ⟨Nat.zero_le _, [], .nil, IsTup.new _ _⟩, rfl, q _ (I.hok.fresh (Nat.le_refl _))⟩
end
end G
/-! G4: operators on data. -/
namespace G
open PySem L2
theorem strOk_append {x y : Str} (h1 : PyData.strOk x = true) (h2 : PyData.strOk y = true) : PyData.strOk (x ++ y) = true := by
  unfold PyData.strOk at *
  show (x.cps ++ y.cps).all _ = true
  rw [Array.all_append, h1, h2]; rfl
theorem len_append (x y : Str) : (x ++ y).length = x.length + y.length := Array.size_append
theorem CMulB.ok {i j : Int} (h : CMulB i j = true) : CMul i j := by
  unfold CMulB at h
  simp only [Bool.or_eq_true, Bool.and_eq_true, decide_eq_true_eq] at h
  exact h
theorem Reps.rep {C : Cn} {W : Wd} {vs : List V} {ds : List D} (h : Reps C W vs ds) : ∀ k : Nat, Reps C W (List.replicate k vs).flatten (List.replicate k ds).flatten
  | 0 => .nil
  | k + 1 => by
    rw [List.replicate_succ, List.replicate_succ, List.flatten_cons, List.flatten_cons]
    exact h.append (Reps.rep h k)
theorem rep_length {α : Type} (xs : List α) : ∀ k : Nat, (List.replicate k xs).flatten.length = xs.length * k
  | 0 => by simp
  | k + 1 => by rw [List.replicate_succ, List.flatten_cons, List.length_append, rep_length xs k, Nat.mul_succ, Nat.add_comm]
section
variable {X : Cx} {g : Gi}
theorem opg_add : OpR X (binaryOp .Add) (rG2 (cn X g) (dBin .add)) := by
  intro pins s σ H x y v u Q I rx ry ⟨W, S, a, b, d, st, ra, rb, hf, k⟩
  cases a <;> cases b <;> first | (cases hf; done) | skip
  · obtain rfl := ra.int
    obtain rfl := rb.int
    cases hf
    exact op_add pins s σ H _ _ v u Q I rx ry ⟨_, _, rfl, rfl, k _ H W (Ext.refl _ _) st (.int _)⟩
  · obtain ⟨rfl, l1, o1⟩ := ra.str
    obtain ⟨rfl, l2, o2⟩ := rb.str
    simp only [dBin] at hf
    split at hf
    · rename_i hz
      cases hf
      exact op_add_str pins s σ H _ _ v u Q I rx ry ⟨_, _, rfl, rfl, hz, k _ H W (Ext.refl _ _) st (.str _ (by rw [len_append]; exact hz) (strOk_append o1 o2))⟩
    · cases hf
  · obtain ⟨a1, vs, rfl, hq, hz1, r1⟩ := ra.tup st.sh
    obtain ⟨a2, us, rfl, hq2, hz2, r2⟩ := rb.tup st.sh
    simp only [dBin] at hf
    split at hf
    · rename_i hz
      cases hf
      rw [← r1.length, ← r2.length] at hz
      refine op_catA pins s σ H _ _ v u Q I rx ry ⟨a1, a2, vs, us, rfl, rfl, hq, hq2, hz, fun e => ?_, fun _ e => ?_, fun _ _ p hp => ?_⟩
      · subst e
        cases r1
        exact k _ H W (Ext.refl _ _) st (rb.flat rfl)
      · subst e
        cases r2
        rw [List.append_nil] at k
        exact k _ H W (Ext.refl _ _) st (ra.flat rfl)
      · exact k _ _ _ (Ext.laid st.sh hp) (st.laid hp) (Rep.newT hp st.sh (by rw [List.length_append]; exact hz) (r1.append r2))
    · cases hf
  · obtain ⟨a1, vs, rfl, hq, hz1, r1⟩ := ra.lst st.sh
    obtain ⟨a2, us, rfl, hq2, hz2, r2⟩ := rb.lst st.sh
    simp only [dBin] at hf
    split at hf
    · rename_i hz
      cases hf
      rw [← r1.length, ← r2.length] at hz
      exact op_cat pins s σ H _ _ v u Q I rx ry ⟨a1, a2, vs, us, rfl, rfl, hq, hq2, hz, fun p hp =>
        k _ _ _ (Ext.laid st.sh hp) (st.laid hp) (Rep.newL hp st.sh (by rw [List.length_append]; exact hz) (r1.append r2))⟩
    · cases hf
theorem opg_sub : OpR X (binaryOp .Sub) (rG2 (cn X g) (dBin .sub)) := by
  intro pins s σ H x y v u Q I rx ry ⟨W, S, a, b, d, st, ra, rb, hf, k⟩
  cases a <;> cases b <;> first | (cases hf; done) | skip
  obtain rfl := ra.int
  obtain rfl := rb.int
  cases hf
  exact op_sub pins s σ H _ _ v u Q I rx ry ⟨_, _, rfl, rfl, k _ H W (Ext.refl _ _) st (.int _)⟩
theorem opg_mod : OpR X (binaryOp .Mod) (rG2 (cn X g) (dBin .mod)) := by
  intro pins s σ H x y v u Q I rx ry ⟨W, S, a, b, d, st, ra, rb, hf, k⟩
  cases a <;> cases b <;> first | (cases hf; done) | skip
  obtain rfl := ra.int
  obtain rfl := rb.int
  simp only [dBin] at hf
  split at hf
  · cases hf
    exact op_mod pins s σ H _ _ v u Q I rx ry ⟨_, _, rfl, rfl, by assumption, k _ H W (Ext.refl _ _) st (.int _)⟩
  · cases hf
theorem opg_pow : OpR X (binaryOp .Pow) (rG2 (cn X g) (dBin .pow)) := by
  intro pins s σ H x y v u Q I rx ry ⟨W, S, a, b, d, st, ra, rb, hf, k⟩
  cases a <;> cases b <;> first | (cases hf; done) | skip
  obtain rfl := ra.int
  obtain rfl := rb.int
  simp only [dBin] at hf
  split at hf
  · cases hf
    exact op_pow pins s σ H _ _ v u Q I rx ry ⟨_, _, rfl, rfl, by assumption, k _ H W (Ext.refl _ _) st (.int _)⟩
  · cases hf
end
end G
/-! G5: equality, order, membership on data. -/
namespace G
open PySem L2
mutual
theorem eqb_toP : ∀ a b : D, a.plain = true → b.plain = true → a.eqb b = PyData.eqv a.toP b.toP
  | a, b, ha, hb => by
    cases a <;> cases b <;> simp only [D.plain, Bool.false_eq_true] at ha hb <;> simp only [D.eqb, D.toP, PyData.eqv]
    · exact eqbs_toPs _ _ ha hb
    · exact eqbs_toPs _ _ ha hb
theorem eqbs_toPs : ∀ a b : List D, D.plains a = true → D.plains b = true → D.eqbs a b = PyData.eqvAll (D.toPs a) (D.toPs b)
  | [], [], _, _ => rfl
  | [], _ :: _, _, _ => rfl
  | _ :: _, [], _, _ => rfl
  | x :: xs, y :: ys, ha, hb => by
    simp only [D.plains, Bool.and_eq_true] at ha hb
    simp only [D.eqbs, D.toPs, PyData.eqvAll]
    rw [eqb_toP x y ha.1 hb.1, eqbs_toPs xs ys ha.2 hb.2]
end
mutual
theorem dep_toP : ∀ a : D, a.plain = true → a.toP.depth = a.dep
  | a, ha => by
    cases a <;> simp only [D.plain, Bool.false_eq_true] at ha <;> simp only [D.toP, D.dep, PyData.depth]
    · rw [deps_toPs _ ha]
    · rw [deps_toPs _ ha]
theorem deps_toPs : ∀ a : List D, D.plains a = true → PyData.depthAll (D.toPs a) = D.deps a
  | [], _ => rfl
  | x :: xs, ha => by
    simp only [D.plains, Bool.and_eq_true] at ha
    simp only [D.toPs, D.deps, PyData.depthAll]
    rw [dep_toP x ha.1, deps_toPs xs ha.2]
end
mutual
theorem Rep.dp {C : Cn} {W : Wd} {H : Hp} (sh : Same W.Hs H) : ∀ (d : D) {v : V}, Rep C W v d → d.plain = true → Dp C.K H v d.toP ∧ d.toP.canLay0 = true
  | d, v, h, hp => by
    cases h with
    | non => exact ⟨.non, rfl⟩
    | bl b => exact ⟨.bl b, rfl⟩
    | int i => exact ⟨.int i, rfl⟩
    | str x h h2 => exact ⟨.str x, h2⟩
    | tup h1 h2 h3 =>
      have := Reps.dp sh _ h3 hp
      exact ⟨.tup (Same.sqT sh h1) this.1, this.2⟩
    | lst h1 h2 h3 =>
      have := Reps.dp sh _ h3 hp
      exact ⟨.lst (SqL.of (sh _ _ h1)) this.1, this.2⟩
    | fn h => cases hp
    | town h => cases hp
    | scr _ _ => cases hp
    | exn _ => cases hp
    | dct _ _ _ _ _ _ _ => cases hp
theorem Reps.dp {C : Cn} {W : Wd} {H : Hp} (sh : Same W.Hs H) : ∀ (d : List D) {v : List V}, Reps C W v d → D.plains d = true → DpAll C.K H v (D.toPs d) ∧ PyData.canLayAll0 (D.toPs d) = true
  | [], _, h, _ => by cases h; exact ⟨.nil, rfl⟩
  | d :: ds, _, h, hp => by
    simp only [D.plains, Bool.and_eq_true] at hp
    cases h with
    | cons h t =>
      have h1 := Rep.dp sh d h hp.1
      have h2 := Reps.dp sh ds t hp.2
      exact ⟨.cons h1.1 h2.1, by simp only [D.toPs, PyData.canLayAll0, h1.2, h2.2, Bool.and_true]⟩
end
theorem RepB.dp {C : Cn} {W : Wd} {H : Hp} (sh : Same W.Hs H) {d : D} {v : V} (h : RepB C W H v d) (hp : d.plain = true) : Dp C.K H v d.toP ∧ d.toP.canLay0 = true := by
  rcases h with h | ⟨a, h1, h2, h3, h4⟩
  · exact Rep.dp sh d h hp
  · cases d with
    | lst ds =>
      obtain ⟨vs, e1, e2, e3⟩ := h2
      have := Reps.dp sh ds e3 hp
      rw [h1]
      exact ⟨.lst (SqL.of e1) this.1, this.2⟩
    | dct _ => cases hp
    | _ => exact h2.elim
theorem D.eqOk_iff {a b : D} (h : a.eqOk b = true) : a.plain = true ∧ b.plain = true ∧ min a.dep b.dep ≤ 60 := by
  unfold D.eqOk at h
  simp only [Bool.and_eq_true, decide_eq_true_eq] at h
  exact ⟨h.1.1, h.1.2, h.2⟩
section
variable {X : Cx} {g : Gi}
theorem eq_rule {C : Cn} (hC : C.K = X.K) {pins : List (Addr × Obj)} {s : Shared} {σ : L2.St} {H : Hp} {x y : V} {v u : Value} {W : Wd} {S : Sto} {a b : D} {E : Value → Shared → Prop} {Q : Value → Shared → Prop} (hu : X.A.units + 64 < cLine) (I : Inv X pins σ H s) (rx : RelV x v) (ry : RelV y u)
    (st : StoOk W S H) (ra : RepB C W H x a) (rb : RepB C W H y b) (ok : a.eqOk b = true) (q : Q (.bool (a.eqb b)) s) : wpAny (model X.prog X.w) X.A (compareOp .Eq v u) Q E s := by
  obtain ⟨p1, p2, p3⟩ := D.eqOk_iff ok
  have h1 := ra.dp st.sh p1
  have h2 := rb.dp st.sh p2
  rw [hC] at h1 h2
  obtain ⟨as, r1⟩ := Dp.reads I _ x v h1.1 rx
  obtain ⟨bs, r2⟩ := Dp.reads I _ y u h2.1 ry
  refine SeqAt.compareEq_reads r1 r2 h1.2 h2.2 ?_ (by rw [← eqb_toP a b p1 p2]; exact q)
  rw [dep_toP a p1, dep_toP b p2]; omega
theorem ne_rule {C : Cn} (hC : C.K = X.K) {pins : List (Addr × Obj)} {s : Shared} {σ : L2.St} {H : Hp} {x y : V} {v u : Value} {W : Wd} {S : Sto} {a b : D} {E : Value → Shared → Prop} {Q : Value → Shared → Prop} (hu : X.A.units + 64 < cLine) (I : Inv X pins σ H s) (rx : RelV x v) (ry : RelV y u)
    (st : StoOk W S H) (ra : RepB C W H x a) (rb : RepB C W H y b) (ok : a.eqOk b = true) (q : Q (.bool (!a.eqb b)) s) : wpAny (model X.prog X.w) X.A (compareOp .NotEq v u) Q E s := by
  obtain ⟨p1, p2, p3⟩ := D.eqOk_iff ok
  have h1 := ra.dp st.sh p1
  have h2 := rb.dp st.sh p2
  rw [hC] at h1 h2
  obtain ⟨as, r1⟩ := Dp.reads I _ x v h1.1 rx
  obtain ⟨bs, r2⟩ := Dp.reads I _ y u h2.1 ry
  refine SeqAt.compareNe_reads r1 r2 h1.2 h2.2 ?_ (by rw [← eqb_toP a b p1 p2]; exact q)
  rw [dep_toP a p1, dep_toP b p2]; omega
theorem scr_dp {K : PySem.W.Frag} {H : Hp} : ∀ ns : List Int, DpAll K H (ns.map V.int) (ns.map PyData.int) ∧ PyData.canLayAll0 (ns.map PyData.int) = true
  | [] => ⟨.nil, rfl⟩
  | n :: ns => ⟨.cons (.int n) (scr_dp ns).1, by simp only [List.map_cons, PyData.canLayAll0, PyData.canLay0, (scr_dp (K := K) (H := H) ns).2, Bool.and_true]⟩
theorem opg_eq (hu : X.A.units + 64 < cLine) : OpR X (compareOp .Eq) (rG2 (cn X g) dEq) := by
  intro pins s σ H x y v u Q I rx ry ⟨W, S, a, b, d, st, ra, rb, hf, k⟩
  unfold dEq at hf
  split at hf
  · rename_i ok
    cases hf
    exact eq_rule (C := cn X g) rfl hu I rx ry st ra rb ok ⟨.bl _, H, I, rfl, k _ H W (Ext.refl _ _) st (.bl _)⟩
  · unfold scrEq at hf
    split at hf
    · rename_i ns _
      cases hf
      obtain ⟨p, rfl, hq, hz⟩ := ra.scr st.sh
      obtain ⟨q, vs, rfl, h1, h2, h3⟩ := rb.lst st.sh
      cases h3
      obtain ⟨as, r1⟩ := Dp.reads I (.list (ns.map PyData.int)) _ v (.lst hq (scr_dp ns).1) rx
      obtain ⟨bs, r2⟩ := Dp.reads I (.list []) _ u (.lst (SqL.of h1) .nil) ry
      refine SeqAt.compareEq_reads r1 r2 (scr_dp (K := X.K) (H := H) ns).2 rfl ?_ ?_
      · have : PyData.depth (.list []) = 1 := rfl
        rw [this]; omega
      · have e : PyData.eqv (.list (ns.map PyData.int)) (.list []) = ns.isEmpty := by cases ns <;> rfl
        rw [e]
        exact ⟨.bl _, H, I, rfl, k _ H W (Ext.refl _ _) st (.bl _)⟩
    · cases hf
theorem opg_ne (hu : X.A.units + 64 < cLine) : OpR X (compareOp .NotEq) (rG2 (cn X g) dNe) := by
  intro pins s σ H x y v u Q I rx ry ⟨W, S, a, b, d, st, ra, rb, hf, k⟩
  unfold dNe at hf
  split at hf
  · rename_i ok
    cases hf
    exact ne_rule (C := cn X g) rfl hu I rx ry st ra rb ok ⟨.bl _, H, I, rfl, k _ H W (Ext.refl _ _) st (.bl _)⟩
  · cases hf
theorem opg_lt : OpR X (compareOp .Lt) (rG2 (cn X g) dLt) := by
  intro pins s σ H x y v u Q I rx ry ⟨W, S, a, b, d, st, ra, rb, hf, k⟩
  cases a <;> cases b <;> first | (cases hf; done) | skip
  · obtain rfl := ra.int
    obtain rfl := rb.int
    cases hf
    exact op_lt pins s σ H _ _ v u Q I rx ry ⟨_, _, rfl, rfl, k _ H W (Ext.refl _ _) st (.bl _)⟩
  · obtain ⟨rfl, l1, o1⟩ := ra.str
    obtain ⟨rfl, l2, o2⟩ := rb.str
    cases hf
    exact op_lt_str pins s σ H _ _ v u Q I rx ry ⟨_, _, rfl, rfl, k _ H W (Ext.refl _ _) st (.bl _)⟩
theorem opg_le : OpR X (compareOp .LtE) (rG2 (cn X g) dLe) := by
  intro pins s σ H x y v u Q I rx ry ⟨W, S, a, b, d, st, ra, rb, hf, k⟩
  cases a <;> cases b <;> first | (cases hf; done) | skip
  · obtain rfl := ra.int
    obtain rfl := rb.int
    cases hf
    exact op_le pins s σ H _ _ v u Q I rx ry ⟨_, _, rfl, rfl, k _ H W (Ext.refl _ _) st (.bl _)⟩
  · obtain ⟨rfl, l1, o1⟩ := ra.str
    obtain ⟨rfl, l2, o2⟩ := rb.str
    cases hf
    exact op_le_str pins s σ H _ _ v u Q I rx ry ⟨_, _, rfl, rfl, k _ H W (Ext.refl _ _) st (.bl _)⟩
theorem opg_gt : OpR X (compareOp .Gt) (rG2 (cn X g) dGt) := by
  intro pins s σ H x y v u Q I rx ry ⟨W, S, a, b, d, st, ra, rb, hf, k⟩
  cases a <;> cases b <;> first | (cases hf; done) | skip
  obtain rfl := ra.int
  obtain rfl := rb.int
  cases hf
  exact op_gt pins s σ H _ _ v u Q I rx ry ⟨_, _, rfl, rfl, k _ H W (Ext.refl _ _) st (.bl _)⟩
theorem opg_ge : OpR X (compareOp .GtE) (rG2 (cn X g) dGe) := by
  intro pins s σ H x y v u Q I rx ry ⟨W, S, a, b, d, st, ra, rb, hf, k⟩
  cases a <;> cases b <;> first | (cases hf; done) | skip
  obtain rfl := ra.int
  obtain rfl := rb.int
  cases hf
  exact op_ge pins s σ H _ _ v u Q I rx ry ⟨_, _, rfl, rfl, k _ H W (Ext.refl _ _) st (.bl _)⟩
theorem any_toPs (a : D) (ha : a.plain = true) : ∀ l : List D, D.plains l = true → (l.any fun b => b.eqb a) = ((D.toPs l).any fun y => PyData.eqv y a.toP)
  | [], _ => rfl
  | b :: l, h => by
    simp only [D.plains, Bool.and_eq_true] at h
    simp only [D.toPs, List.any_cons, any_toPs a ha l h.2, eqb_toP b a h.1 ha]
theorem inOk_iff {a : D} {l : List D} (h : inOk a l = true) : a.plain = true ∧ D.plains l = true ∧ min (D.deps l) a.dep ≤ 60 := by
  unfold inOk at h
  simp only [Bool.and_eq_true, decide_eq_true_eq] at h
  exact ⟨h.1.1, h.1.2, h.2⟩
theorem opg_in0 (hu : X.A.units + 64 < cLine) : OpR X (compareOp .In) (rG2 (cn X g) dIn0) := by
  intro pins s σ H x y v u Q I rx ry ⟨W, S, a, b, d, st, ra, rb, hf, k⟩
  cases b <;> first | (cases hf; done) | skip
  all_goals
    rename_i l
    simp only [dIn0] at hf
    split at hf
    · rename_i ok
      cases hf
      obtain ⟨p1, p2, p3⟩ := inOk_iff ok
      have h1 := ra.dp st.sh p1
      have h2 := rb.dp st.sh p2
      obtain ⟨as, r1⟩ := Dp.reads I _ x v h1.1 rx
      obtain ⟨bs, r2⟩ := Dp.reads I _ y u h2.1 ry
      have hd : X.A.units + 1 + min (PyData.depthAll (D.toPs l)) a.toP.depth < cLine := by rw [dep_toP a p1, deps_toPs l p2]; omega
      first
        | exact SeqAt.in_list_reads r2 r1 h2.2 h1.2 hd ⟨.bl _, H, I, rfl, by rw [← any_toPs a p1 l p2]; exact k _ H W (Ext.refl _ _) st (.bl _)⟩
        | exact SeqAt.in_tuple_reads r2 r1 h2.2 h1.2 hd ⟨.bl _, H, I, rfl, by rw [← any_toPs a p1 l p2]; exact k _ H W (Ext.refl _ _) st (.bl _)⟩
    · cases hf
theorem opg_notin0 (hu : X.A.units + 64 < cLine) : OpR X (compareOp .NotIn) (rG2 (cn X g) dNotIn0) := by
  intro pins s σ H x y v u Q I rx ry ⟨W, S, a, b, d, st, ra, rb, hf, k⟩
  cases b <;> first | (cases hf; done) | skip
  all_goals
    rename_i l
    simp only [dNotIn0] at hf
    split at hf
    · rename_i ok
      cases hf
      obtain ⟨p1, p2, p3⟩ := inOk_iff ok
      have h1 := ra.dp st.sh p1
      have h2 := rb.dp st.sh p2
      obtain ⟨as, r1⟩ := Dp.reads I _ x v h1.1 rx
      obtain ⟨bs, r2⟩ := Dp.reads I _ y u h2.1 ry
      have hd : X.A.units + 1 + min (PyData.depthAll (D.toPs l)) a.toP.depth < cLine := by rw [dep_toP a p1, deps_toPs l p2]; omega
      first
        | exact SeqAt.notIn_list_reads r2 r1 h2.2 h1.2 hd ⟨.bl _, H, I, rfl, by rw [← any_toPs a p1 l p2]; exact k _ H W (Ext.refl _ _) st (.bl _)⟩
        | exact SeqAt.notIn_tuple_reads r2 r1 h2.2 h1.2 hd ⟨.bl _, H, I, rfl, by rw [← any_toPs a p1 l p2]; exact k _ H W (Ext.refl _ _) st (.bl _)⟩
    · cases hf
theorem RepB.isNon {C : Cn} {W : Wd} {H : Hp} {v : V} {d : D} (h : RepB C W H v d) : decide (v = .non) = isNon d := by
  rcases h with h | ⟨a, rfl, h2, _⟩
  · cases h <;> rfl
  · cases d with
    | lst l => rfl
    | dct l => rfl
    | _ => exact h2.elim
theorem opg_is : OpR X (compareOp .Is) (rG2 (cn X g) dIs) := by
  intro pins s σ H x y v u Q I rx ry ⟨W, S, a, b, d, st, ra, rb, hf, k⟩
  cases b <;> first | (cases hf; done) | skip
  obtain rfl := rb.non
  cases hf
  exact op_isN pins s σ H _ _ v u Q I rx ry ⟨rfl, by rw [ra.isNon]; exact k _ H W (Ext.refl _ _) st (.bl _)⟩
theorem opg_isnot : OpR X (compareOp .IsNot) (rG2 (cn X g) dIsNot) := by
  intro pins s σ H x y v u Q I rx ry ⟨W, S, a, b, d, st, ra, rb, hf, k⟩
  cases b <;> first | (cases hf; done) | skip
  obtain rfl := rb.non
  cases hf
  exact op_notN pins s σ H _ _ v u Q I rx ry ⟨rfl, by rw [ra.isNon]; exact k _ H W (Ext.refl _ _) st (.bl _)⟩
theorem opg_mul : OpR X (binaryOp .Mult) (rG2 (cn X g) (dBin .mul)) := by
  intro pins s σ H x y v u Q I rx ry ⟨W, S, a, b, d, st, ra, rb, hf, k⟩
  cases a <;> cases b <;> first | (cases hf; done) | skip
  · obtain rfl := ra.int
    obtain rfl := rb.int
    simp only [dBin] at hf
    split at hf
    · rename_i hz
      cases hf
      exact op_mul pins s σ H _ _ v u Q I rx ry ⟨_, _, rfl, rfl, CMulB.ok hz, k _ H W (Ext.refl _ _) st (.int _)⟩
    · cases hf
  · rename_i l i
    obtain ⟨a1, vs, rfl, hq, hz1, r1⟩ := ra.tup st.sh
    obtain rfl := rb.int
    simp only [dBin] at hf
    split at hf
    · rename_i hz
      cases hf
      obtain ⟨z1, z2, z3⟩ := hz
      by_cases hs : l = [] ∨ i = 1
      · have er : rep l i = l := by
          rcases hs with rfl | rfl
          · unfold rep
            induction i.toNat with
            | zero => rfl
            | succ n ih => rw [List.replicate_succ, List.flatten_cons, List.nil_append]; exact ih
          · show (List.replicate 1 l).flatten = l
            simp
        rw [er] at k
        have hvs : vs = [] ∨ i = 1 := by
          rcases hs with rfl | h
          · cases r1; exact .inl rfl
          · exact .inr h
        exact op_rep1 pins s σ H _ _ v u Q I rx ry ⟨a1, _, vs, rfl, rfl, hq, hvs, z2, z1, k _ H W (Ext.refl _ _) st (ra.flat rfl)⟩
      · have hne : vs ≠ [] := fun e => by
          subst e
          cases r1
          exact hs (.inl rfl)
        rw [← r1.length] at z3
        by_cases h2 : 2 ≤ i
        · refine op_repT pins s σ H _ _ v u Q I rx ry ⟨a1, _, vs, rfl, rfl, hq, hne, h2, z2, z3, fun p hp => ?_⟩
          refine k _ _ _ (Ext.laid st.sh hp) (st.laid hp) (Rep.newT hp st.sh ?_ (r1.rep _))
          rw [rep_length, sizeLine_eq]
          have a1 : vs.length * i.toNat ≤ 1000 * 1000 := Nat.mul_le_mul z3 (by omega)
          omega
        · have h0 : i ≤ 0 := by
            have : i ≠ 1 := fun z => hs (.inr z)
            omega
          have er : rep l i = [] := by
            unfold rep
            rw [Int.toNat_of_nonpos h0]
            rfl
          rw [er] at k
          exact op_rep0 pins s σ H _ _ v u Q I rx ry ⟨a1, _, vs, rfl, rfl, hq, hne, h0, z1, fun p hp => k _ _ _ (Ext.laid st.sh hp) (st.laid hp) (Rep.newT hp st.sh (Nat.zero_le _) .nil)⟩
    · cases hf
  · rename_i l i
    obtain ⟨a1, vs, rfl, hq, hz1, r1⟩ := ra.lst st.sh
    obtain rfl := rb.int
    simp only [dBin] at hf
    split at hf
    · rename_i hz
      cases hf
      rw [← r1.length] at hz
      have hz2 : vs.length * i.toNat ≤ sizeLine := by rw [sizeLine_eq]; omega
      refine op_rep pins s σ H _ _ v u Q I rx ry ⟨a1, _, vs, rfl, rfl, hq, by omega, by omega, hz2, fun p hp => ?_⟩
      exact k _ _ _ (Ext.laid st.sh hp) (st.laid hp) (Rep.newL hp st.sh (by rw [rep_length]; exact hz2) (r1.rep _))
    · cases hf
end
end G
/-! G6: built-in calls on data. -/
namespace G
open PySem L2
abbrev rGc (C : Cn) (f : List D → Option D) : List V → Hp → VK → Prop := fun vs H Q => ∃ (W : Wd) (S : Sto) (ds : List D) (d : D), StoOk W S H ∧ RepBs C W H vs ds ∧ f ds = some d ∧ ∀ v H' W', Ext W H W' H' → StoOk W' S H' → Rep C W' v d → Q v H'
theorem Reps.bls {C : Cn} {W : Wd} : ∀ {l : List D} {vs : List V} {bs : List Bool}, Reps C W vs l → blsOf l = some bs → vs = bs.map V.bl
  | [], _, _, h, e => by cases h; cases e; rfl
  | d :: l, _, _, h, e => by
    cases h with
    | cons h t =>
      cases d <;> first | (cases e; done) | skip
      simp only [blsOf, Option.map_eq_some_iff] at e
      obtain ⟨r, e1, rfl⟩ := e
      cases h
      rw [Reps.bls t e1]; rfl
theorem Reps.ints {C : Cn} {W : Wd} : ∀ {l : List D} {vs : List V} {bs : List Int}, Reps C W vs l → intsOf l = some bs → vs = bs.map V.int
  | [], _, _, h, e => by cases h; cases e; rfl
  | d :: l, _, _, h, e => by
    cases h with
    | cons h t =>
      cases d <;> first | (cases e; done) | skip
      simp only [intsOf, Option.map_eq_some_iff] at e
      obtain ⟨r, e1, rfl⟩ := e
      cases h
      rw [Reps.ints t e1]; rfl
theorem Reps.strs {C : Cn} {W : Wd} : ∀ {l : List D} {vs : List V} {bs : List Str}, Reps C W vs l → strsOf l = some bs → vs = bs.map V.str ∧ ∀ x ∈ bs, x.length ≤ sizeLine ∧ PyData.strOk x = true
  | [], _, _, h, e => by cases h; cases e; exact ⟨rfl, fun _ z => nomatch z⟩
  | d :: l, _, _, h, e => by
    cases h with
    | cons h t =>
      cases d <;> first | (cases e; done) | skip
      simp only [strsOf, Option.map_eq_some_iff] at e
      obtain ⟨r, e1, rfl⟩ := e
      cases h with
      | str x h1 h2 =>
        obtain ⟨q1, q2⟩ := Reps.strs t e1
        refine ⟨by rw [q1]; rfl, fun y hy => ?_⟩
        rcases List.mem_cons.mp hy with rfl | hy
        · exact ⟨h1, h2⟩
        · exact q2 y hy
theorem Reps.ofStrs {C : Cn} {W : Wd} : ∀ {bs : List Str}, (∀ x ∈ bs, x.length ≤ sizeLine ∧ PyData.strOk x = true) → Reps C W (bs.map V.str) (bs.map D.str)
  | [], _ => .nil
  | x :: bs, h => .cons (.str x (h x (by simp)).1 (h x (by simp)).2) (Reps.ofStrs fun y hy => h y (by simp [hy]))
theorem un_inv {f : D → Option D} {ds : List D} {d : D} (h : un f ds = some d) : ∃ a, ds = [a] ∧ f a = some d := by
  match ds, h with
  | [a], h => exact ⟨a, rfl, h⟩
theorem bi_inv {f : D → D → Option D} {ds : List D} {d : D} (h : bi f ds = some d) : ∃ a b, ds = [a, b] ∧ f a b = some d := by
  match ds, h with
  | [a, b], h => exact ⟨a, b, rfl, h⟩
section
variable {X : Cx} {g : Gi}
theorem cg_len : CallR X (.builtin "len") (rGc (cn X g) (un dLen)) := by
  intro pins s σ H vs us Q I r ⟨W, S, ds, d, st, rs, hf, k⟩
  obtain ⟨a, rfl, hf⟩ := un_inv hf
  obtain ⟨v, rfl, ra⟩ := rs.inv1
  · · cases a <;> first | (cases hf; done) | skip
      all_goals cases hf
      · obtain ⟨rfl, l1, o1⟩ := ra.str
        exact call_len pins s σ H _ us Q I r ⟨_, _, rfl, ⟨l1, rfl⟩, k _ H W (Ext.refl _ _) st (.int _)⟩
      · obtain ⟨p, vs, rfl, hq, hz, r1⟩ := ra.tup st.sh
        exact call_len pins s σ H _ us Q I r ⟨_, _, rfl, .inr ⟨vs, hq, rfl⟩, by rw [r1.length]; exact k _ H W (Ext.refl _ _) st (.int _)⟩
      · obtain ⟨p, vs, rfl, hq, hz, r1⟩ := ra.lst st.sh
        exact call_len pins s σ H _ us Q I r ⟨_, _, rfl, .inl ⟨vs, SqL.of hq, rfl⟩, by rw [r1.length]; exact k _ H W (Ext.refl _ _) st (.int _)⟩
      · obtain ⟨p, rfl, hq, hz⟩ := ra.scr st.sh
        exact call_len pins s σ H _ us Q I r ⟨_, _, rfl, .inl ⟨_, hq, rfl⟩, by rw [List.length_map]; exact k _ H W (Ext.refl _ _) st (.int _)⟩
theorem cg_tpl : CallR X (.type "tuple") (rGc (cn X g) (un dTpl)) := by
  intro pins s σ H vs us Q I r ⟨W, S, ds, d, st, rs, hf, k⟩
  obtain ⟨a, rfl, hf⟩ := un_inv hf
  obtain ⟨v, rfl, ra⟩ := rs.inv1
  · · cases a <;> first | (cases hf; done) | skip
      all_goals cases hf
      · obtain ⟨p, vs, rfl, hq, hz, r1⟩ := ra.tup st.sh
        exact call_tuple_of pins s σ H _ us Q I r ⟨p, vs, rfl, .inr ⟨hq, k _ H W (Ext.refl _ _) st (ra.flat rfl)⟩⟩
      · obtain ⟨p, vs, rfl, hq, hz, r1⟩ := ra.lst st.sh
        exact call_tuple_of pins s σ H _ us Q I r ⟨p, vs, rfl, .inl ⟨SqL.of hq, fun l hl => k _ _ _ (Ext.laid st.sh hl) (st.laid hl) (Rep.newT hl st.sh hz r1)⟩⟩
theorem cg_lst0 : CallR X (.type "list") (rGc (cn X g) (un dLst0)) := by
  intro pins s σ H vs us Q I r ⟨W, S, ds, d, st, rs, hf, k⟩
  obtain ⟨a, rfl, hf⟩ := un_inv hf
  obtain ⟨v, rfl, ra⟩ := rs.inv1
  · · cases a <;> first | (cases hf; done) | skip
      all_goals cases hf
      · obtain ⟨p, vs, rfl, hq, hz, r1⟩ := ra.tup st.sh
        exact call_list_of pins s σ H _ us Q I r ⟨p, vs, rfl, .inr hq, fun l hl => k _ _ _ (Ext.laid st.sh hl) (st.laid hl) (Rep.newL hl st.sh hz r1)⟩
      · obtain ⟨p, vs, rfl, hq, hz, r1⟩ := ra.lst st.sh
        exact call_list_of pins s σ H _ us Q I r ⟨p, vs, rfl, .inl (SqL.of hq), fun l hl => k _ _ _ (Ext.laid st.sh hl) (st.laid hl) (Rep.newL hl st.sh hz r1)⟩
theorem cg_all (hc : X.calm = true) : CallR X (.builtin "all") (rGc (cn X g) (un dAll)) := by
  intro pins s σ H vs us Q I r ⟨W, S, ds, d, st, rs, hf, k⟩
  obtain ⟨a, rfl, hf⟩ := un_inv hf
  obtain ⟨v, rfl, ra⟩ := rs.inv1
  · · cases a <;> first | (cases hf; done) | skip
      obtain ⟨p, vs, rfl, hq, hz, r1⟩ := ra.lst st.sh
      obtain ⟨bs, e1, rfl⟩ := Option.map_eq_some_iff.mp hf
      rw [r1.bls e1] at hq
      exact cr_all hc pins s σ H _ us Q I r ⟨p, bs, rfl, SqL.of hq, k _ H W (Ext.refl _ _) st (.bl _)⟩
theorem cg_any (hc : X.calm = true) : CallR X (.builtin "any") (rGc (cn X g) (un dAny)) := by
  intro pins s σ H vs us Q I r ⟨W, S, ds, d, st, rs, hf, k⟩
  obtain ⟨a, rfl, hf⟩ := un_inv hf
  obtain ⟨v, rfl, ra⟩ := rs.inv1
  · · cases a <;> first | (cases hf; done) | skip
      obtain ⟨p, vs, rfl, hq, hz, r1⟩ := ra.lst st.sh
      obtain ⟨bs, e1, rfl⟩ := Option.map_eq_some_iff.mp hf
      rw [r1.bls e1] at hq
      exact cr_any hc pins s σ H _ us Q I r ⟨p, bs, rfl, SqL.of hq, k _ H W (Ext.refl _ _) st (.bl _)⟩
theorem cg_sum (hc : X.calm = true) : CallR X (.builtin "sum") (rGc (cn X g) (un dSum)) := by
  intro pins s σ H vs us Q I r ⟨W, S, ds, d, st, rs, hf, k⟩
  obtain ⟨a, rfl, hf⟩ := un_inv hf
  obtain ⟨v, rfl, ra⟩ := rs.inv1
  · · cases a <;> first | (cases hf; done) | skip
      obtain ⟨p, vs, rfl, hq, hz, r1⟩ := ra.lst st.sh
      obtain ⟨bs, e1, rfl⟩ := Option.map_eq_some_iff.mp hf
      rw [r1.ints e1] at hq
      exact cr_sum hc pins s σ H _ us Q I r ⟨p, bs, rfl, SqL.of hq, k _ H W (Ext.refl _ _) st (.int _)⟩
theorem cg_int : CallR X (.type "int") (rGc (cn X g) (un dInt)) := by
  intro pins s σ H vs us Q I r ⟨W, S, ds, d, st, rs, hf, k⟩
  obtain ⟨a, rfl, hf⟩ := un_inv hf
  obtain ⟨v, rfl, ra⟩ := rs.inv1
  · · cases a <;> first | (cases hf; done) | skip
      · obtain rfl := ra.bl
        cases hf
        exact call_int1 pins s σ H _ us Q I r (.inr ⟨_, rfl, k _ H W (Ext.refl _ _) st (.int _)⟩)
      · obtain rfl := ra.int
        cases hf
        exact call_int1 pins s σ H _ us Q I r (.inl ⟨_, rfl, k _ H W (Ext.refl _ _) st (.int _)⟩)
theorem cg_max (hc : X.calm = true) : CallR X (.builtin "max") (rGc (cn X g) (bi dMax)) := by
  intro pins s σ H vs us Q I r ⟨W, S, ds, d, st, rs, hf, k⟩
  obtain ⟨a, b, rfl, hf⟩ := bi_inv hf
  obtain ⟨v, u, rfl, r1, r2⟩ := rs.inv2
  cases a <;> cases b <;> first | (cases hf; done) | skip
  cases hf
  obtain rfl := r1.int
  obtain rfl := r2.int
  exact call_max2 hc pins s σ H _ us Q I r ⟨_, _, rfl, k _ H W (Ext.refl _ _) st (.int _)⟩
theorem cg_min (hc : X.calm = true) : CallR X (.builtin "min") (rGc (cn X g) (bi dMin)) := by
  intro pins s σ H vs us Q I r ⟨W, S, ds, d, st, rs, hf, k⟩
  obtain ⟨a, b, rfl, hf⟩ := bi_inv hf
  obtain ⟨v, u, rfl, r1, r2⟩ := rs.inv2
  cases a <;> cases b <;> first | (cases hf; done) | skip
  cases hf
  obtain rfl := r1.int
  obtain rfl := r2.int
  exact call_min2 hc pins s σ H _ us Q I r ⟨_, _, rfl, k _ H W (Ext.refl _ _) st (.int _)⟩
end
/-- isinstance by data -/
def Ty.name : Ty → String
  | .int => "int" | .bool => "bool" | .str => "str" | .tuple => "tuple" | .list => "list"
theorem RepB.tyX {C : Cn} {W : Wd} {H : Hp} {v : V} {d : D} (sh : Same W.Hs H) (h : RepB C W H v d) {t : Ty} {b : Bool} (e : isTy t d = some b) : ∃ u, TyX C.K H v u ∧ PySem.W.kitOne C.K u (.type t.name) = some b := by
  have key : ∀ n : String, (∃ b', kitB n t.name = some b' ∧ some b' = some b) → PySem.W.kitOne C.K (.type n) (.type t.name) = some b := fun n ⟨b', h1, h2⟩ => by
    cases h2
    exact kit_ty h1
  cases d with
  | non =>
    obtain rfl := h.non
    refine ⟨_, .base .non, key _ ?_⟩
    cases t <;> cases e <;> exact ⟨_, by decide +kernel, rfl⟩
  | bl x =>
    obtain rfl := h.bl
    refine ⟨_, .base (.bl _), key _ ?_⟩
    cases t <;> cases e <;> exact ⟨_, by decide +kernel, rfl⟩
  | int x =>
    obtain rfl := h.int
    refine ⟨_, .base (.int _), key _ ?_⟩
    cases t <;> cases e <;> exact ⟨_, by decide +kernel, rfl⟩
  | str x =>
    obtain ⟨rfl, _, _⟩ := h.str
    refine ⟨_, .base (.str _), key _ ?_⟩
    cases t <;> cases e <;> exact ⟨_, by decide +kernel, rfl⟩
  | tup l =>
    obtain ⟨p, vs, rfl, hq, _, _⟩ := h.tup sh
    refine ⟨.type "tuple", ?_, key _ ?_⟩
    · rcases hq with (h1 | ⟨o, h1⟩) | ⟨o, its, n, h1, h2, _⟩
      · exact .base (.tup h1)
      · exact .fTuple h1
      · exact .kTuple h1 h2
    · cases t <;> cases e <;> exact ⟨_, by decide +kernel, rfl⟩
  | lst l =>
    obtain ⟨p, vs, rfl, hq, _, _⟩ := h.lst sh
    refine ⟨.type "list", .base (.lst hq), key _ ?_⟩
    cases t <;> cases e <;> exact ⟨_, by decide +kernel, rfl⟩
  | dct l => cases t <;> cases e
  | fn f => cases t <;> cases e
  | town => cases t <;> cases e
  | scr _ => cases t <;> cases e
  | exn _ => cases t <;> cases e
end G
/-! GM: sorted(xs) of data that can be compared where they first differ. -/
namespace G
open PySem PySem.W PySem.Calls PyProof.Rows
mutual
/-- what a value reads as is told by it -/
theorem reads_uniq {h : Heap} : ∀ (d d' : PyData) (v : Value) (as as' : List Addr), alike d d = true → Reads h v d as → Reads h v d' as' → d = d'
  | .none, d', v, as, as', _, r, r' => by
    cases r
    cases r'
    rfl
  | .bool _, d', v, as, as', _, r, r' => by
    cases r
    cases r'
    rfl
  | .int _, d', v, as, as', _, r, r' => by
    cases r
    cases r'
    rfl
  | .str _, d', v, as, as', _, r, r' => by
    cases r
    cases r'
    rfl
  | .list xs, d', v, as, as', ha, r, r' => by
    cases r with
    | list h1 h2 h3 h4 =>
      cases r' with
      | list k1 k2 k3 k4 =>
        rw [h1] at k1
        cases k1
        rw [h3] at k3
        cases k3
        rw [readsAll_uniq xs _ _ _ _ (by simpa [alike] using ha) h4 k4]
      | tuple k1 k2 k3 k4 =>
        rw [h1] at k1
        cases k1
        rw [h2] at k2
        exact absurd k2 (by decide)
      | dict k1 k2 _ _ _ =>
        rw [h1] at k1
        cases k1
        rw [h2] at k2
        exact absurd k2 (by decide)
  | .tuple xs, d', v, as, as', ha, r, r' => by
    cases r with
    | tuple h1 h2 h3 h4 =>
      cases r' with
      | tuple k1 k2 k3 k4 =>
        rw [h1] at k1
        cases k1
        rw [h3] at k3
        cases k3
        rw [readsAll_uniq xs _ _ _ _ (by simpa [alike] using ha) h4 k4]
      | list k1 k2 k3 k4 =>
        rw [h1] at k1
        cases k1
        rw [h2] at k2
        exact absurd k2 (by decide)
      | dict k1 k2 _ _ _ =>
        rw [h1] at k1
        cases k1
        rw [h2] at k2
        exact absurd k2 (by decide)
  | .dict _, d', v, as, as', ha, r, r' => absurd ha (by simp [alike])
theorem readsAll_uniq {h : Heap} : ∀ (ds ds' : List PyData) (vs : List Value) (as as' : List Addr), alikeAll ds ds = true → ReadsAll h vs ds as → ReadsAll h vs ds' as' → ds = ds'
  | [], _, _, _, _, _, r, r' => by
    cases r
    cases r'
    rfl
  | d :: ds, _, _, _, _, ha, r, r' => by
    obtain ⟨a1, a2⟩ := alike_all_cons ha
    cases r with
    | cons r1 r2 =>
      cases r' with
      | cons k1 k2 => rw [reads_uniq d _ _ _ _ a1 r1 k1, readsAll_uniq ds _ _ _ _ a2 r2 k2]
end
theorem ok_cons {x y : PyData} {xs ys : List PyData} (h : okAll (x :: xs) (y :: ys) = true) : alike x y = true ∧ (PyData.eqv x y = true → okAll xs ys = true) := by
  obtain ⟨h1, h2⟩ := Bool.and_eq_true_iff.mp (show (alike x y && (!PyData.eqv x y || okAll xs ys)) = true from h)
  refine ⟨h1, fun e => ?_⟩
  rw [e] at h2
  exact h2
theorem roomH {n : Nat} {x y : PyData} {xs ys : List PyData} (h : n + min (PyData.depthAll (x :: xs)) (PyData.depthAll (y :: ys)) < cLine) : n + min x.depth y.depth < cLine ∧ n + min (PyData.depthAll xs) (PyData.depthAll ys) < cLine := by
  have dx : PyData.depthAll xs ≤ PyData.depthAll (x :: xs) ∧ x.depth ≤ PyData.depthAll (x :: xs) := by simp only [PyData.depthAll]; omega
  have dy : PyData.depthAll ys ≤ PyData.depthAll (y :: ys) ∧ y.depth ≤ PyData.depthAll (y :: ys) := by simp only [PyData.depthAll]; omega
  omega
section
variable {prog : Program} {w : World} {A : Around} {s : Shared}
theorem kat_ok {b fin : Bool} {Q : Bool → Shared → Prop} : ∀ (xs ys : List PyData) (i : Nat) (vs ws : List Value) (as bs : List Addr), ReadsAll s.heap vs xs as → ReadsAll s.heap ws ys bs → okAll xs ys = true →
    A.units + min (PyData.depthAll xs) (PyData.depthAll ys) < cLine → (b = true → i = 0 → ∀ x r t, xs = x :: r → x ≠ .tuple t) → fin = decide (xs.length < ys.length) → Q (PyProof.Rows.lexLt itemOrd (keyToksAll xs) (keyToksAll ys)) s → KatLex prog w A b fin Q (vs.zip ws) i s
  | [], ys, i, _, _, _, _, ra, rb, _, hu, hb, hf, hq => katLex_alike [] ys i _ _ _ _ ra rb (by simp [alikeAll]) hu hb hf hq
  | x :: xs, [], i, _, _, _, _, ra, rb, _, hu, hb, hf, hq => katLex_alike (x :: xs) [] i _ _ _ _ ra rb (by simp [alikeAll]) hu hb hf hq
  | x :: xs, y :: ys, i, _, _, _, _, ra, rb, h, hu, hb, hf, hq => by
    obtain ⟨h1, h2⟩ := ok_cons h
    obtain ⟨u1, u2⟩ := roomH hu
    cases ra with
    | cons r rs =>
      cases rb with
      | cons r' rs' =>
        refine kat_cons (eqAt_alike x y A s _ _ _ _ r r' h1 u1 prog w _ _ ?_)
        by_cases hx : PyData.eqv x y = true
        · rw [dataLt_all_yes h1 hx] at hq
          rw [hx]
          refine kat_yes (kat_ok xs ys (i + 1) _ _ _ _ rs rs' (h2 hx) u2 (fun _ hi => (by omega)) ?_ hq)
          rw [hf, List.length_cons, List.length_cons]
          exact decide_eq_decide.mpr (by omega)
        · have hx : PyData.eqv x y = false := by simpa using hx
          rw [dataLt_all_no h1 hx] at hq
          rw [hx]
          refine kat_no (oneLt_alike (fun hbi t => ?_) r r' h1 (ne_none_of h1 hx) u1 hq)
          obtain ⟨b1, b2⟩ := Bool.and_eq_true_iff.mp hbi
          exact hb b1 (by simpa using b2) x xs t rfl
structure SrtT (ds : List PyData) : Prop where
  self : ∀ d, d ∈ ds → alike d d = true
  tup : ∀ d, d ∈ ds → ∃ r, d = .tuple r
  ok : ∀ r r', .tuple r ∈ ds → .tuple r' ∈ ds → okAll r r' = true
  ne : 2 ≤ ds.length → ∀ d, d ∈ ds → ∃ x r, d = .tuple (x :: r)
theorem key_of {h : Heap} {ds : List PyData} (S : ∀ d, d ∈ ds → alike d d = true) {v : Value} {d : PyData} {as : List Addr} (hd : d ∈ ds) (r : Reads h v d as) : (dataKind h ds).keyOf v = some (keyToks d) := by
  have q : ∃ d, d ∈ ds ∧ ∃ as, Reads h v d as := ⟨d, hd, as, r⟩
  have e : (dataKind h ds).keyOf v = some (keyToks q.choose) := by
    show (open Classical in if q : ∃ d, d ∈ ds ∧ ∃ as, Reads h v d as then some (keyToks q.choose) else none) = _
    rw [dif_pos q]
  obtain ⟨h1, as', h2⟩ := q.choose_spec
  rw [e, reads_uniq _ _ _ _ _ (S d hd) r h2]
theorem sorts_tup {vs : List Value} {ds : List PyData} (e : EachIs (fun v d => ∃ as, Reads s.heap v d as) vs ds) (D : SrtT ds) (hu : ∀ d, d ∈ ds → A.units + d.depth < cLine) : SortsAt prog w A s (dataKind s.heap ds) vs := by
  have room : ∀ {d d' : PyData}, d ∈ ds → A.units + min d.depth d'.depth < cLine := fun {d d'} hd => by
    have := hu d hd
    omega
  have el := e.length
  have lt : ∀ b : Bool, (b = true → ∀ x r, PyData.tuple (x :: r) ∈ ds → ∀ t, x ≠ .tuple t) → H.LtAt prog w A s (dataKind s.heap ds) (tuples' b) := by
    intro b hb E x y a1 a2 Q ha hb' hq
    obtain ⟨d, as, hd, ra, rfl⟩ := dataKind_inv ha
    obtain ⟨d', as', hd', rb, rfl⟩ := dataKind_inv hb'
    have hroom := room (d' := d') hd
    obtain ⟨r1, rfl⟩ := D.tup d hd
    obtain ⟨r2, rfl⟩ := D.tup d' hd'
    have hq' : Q (dataLt (.tuple r1) (.tuple r2)) s := hq
    rw [dataLt_tuple] at hq'
    cases ra with
    | @tuple l o xs n _ _ h1 h2 h3 h4 =>
      cases rb with
      | @tuple l' o' xs' n' _ _ k1 k2 k3 k4 =>
        have n1 : xs.size = r1.length := by simpa using SeqAt.ReadsAll.length _ _ _ h4
        have n2 : xs'.size = r2.length := by simpa using SeqAt.ReadsAll.length _ _ _ k4
        refine kat_lt h1 h3 k1 k3 (kat_ok r1 r2 0 _ _ _ _ h4 k4 (D.ok r1 r2 hd hd') (by have q := SeqAt.room_in hroom; omega) (fun hbt _ x r t ex => ?_) (by rw [n1, n2]) hq')
        subst ex
        exact hb hbt x r hd t
  refine ⟨fun v hv => ?_, ?_⟩
  · obtain ⟨d, hd, as, r⟩ := e.left v hv
    exact ⟨_, key_of D.self hd r⟩
  · by_cases h2 : 2 ≤ ds.length
    · have ht := D.ne h2
      match ds, D, ht, e, lt with
      | [], _, _, _, _ => simp at h2
      | d0 :: ds0, D, ht, e, lt =>
        obtain ⟨x0, r0, e0⟩ := ht d0 List.mem_cons_self
        have first : ∀ x r, PyData.tuple (x :: r) ∈ d0 :: ds0 → alike x x0 = true := by
          intro x r hm
          have q := D.ok (x :: r) (x0 :: r0) hm (by rw [← e0]; exact List.mem_cons_self)
          exact (ok_cons q).1
        refine ⟨tuples' (dataType x0 != Value.type "tuple"), lt _ fun hbt x r hm t => ?_, fun h2 E Q hq => ?_⟩
        · rw [← dataType_alike (first x r hm)] at hbt
          exact dataType_tuple hbt t
        · obtain ⟨fs, t1, t2, t3⟩ := each_katTups e ht
          refine kat_kind (T := dataType x0) t1 (by omega) (fun f hf => ?_) (beq_self_eq_true _) hq
          obtain ⟨x, r, as, m1, m2⟩ := t3 f hf
          rw [← dataType_alike (first x r m1)]
          exact looks_reads m2
    · exact ⟨tuples' false, lt false (fun z => nomatch z), fun z => absurd z (by omega)⟩
/-- sorted(x), x a list or a tuple -/
theorem sorted_seq (κ : Heap → PyProof.Rows.KeyKind) {E : Value → Shared → Prop} {l : Addr} {T : String} {o : Obj} {items : Array Value} {n : Nat} {Q : Value → Shared → Prop} (hT : T = "list" ∨ T = "tuple") (ho : s.heap.get? l = some o) (hc : o.cls = .type T) (hd : o.data = .seq items n) (hL : items.size ≤ sizeLine)
    (S : ∀ h' : Heap, (∀ b ob, s.heap.get? b = some ob → h'.get? b = some ob) → SortsAt prog w A.in1.in1 { s with heap := h' } (κ h') items.toList)
    (h : ∀ (h1 h' hs : Heap) (ep : Nat), (∀ b ob, s.heap.get? b = some ob → hs.get? b = some ob) → (∀ b ob, s.heap.get? b = some ob → h1.get? b = some ob) → (∀ b ob, h1.get? b = some ob → h'.get? b = some ob) → h'.get? h1.objs.size = some (seqObj "list" (sortVals (κ hs) false items.toList items.toList).toArray ep) → Q (.ref h1.objs.size) { s with heap := h' }) :
    wpAny (model prog w) A (call (.builtin "sorted") [.ref l]) Q E s := by
  refine call_function_entry_kw kind_sorted plain_sorted entry_sorted (args_sorted1 _) ?_
  unfold Builtin.«sorted»
  refine wpAny_bind (m := checkCount "sorted" 1 1 _) (wpAny_pure ?_)
  refine wpAny_bind (wpAny_collect_seq l hT ho hc hd (fun h1 k1 => ?_) hL)
  have hl' : items.toList.length ≤ sizeLine := by rw [Array.length_toList]; exact hL
  refine wpAny_bind (wpAny_newList ?_ hl')
  have hat : (h1.push (seqObj "list" items.toList.toArray 0)).get? h1.objs.size = some (seqObj "list" items.toList.toArray 0) := Heap.get?_push_size _ rfl
  refine wpAny_bind (wpAny_holding (wpAny_call_entry_kw slot_list_sort ⟨_, hat, rfl⟩ entry_list_sort ?body (args_list_sort _)))
  case body =>
    refine wpAny_mono (list_sort_vals (P := fun f s' => f = .done (.ret .none) ∧ Q (.ref h1.objs.size) s') (κ := κ (sortingHeap (h1.push (seqObj "list" items.toList.toArray 0)) h1.objs.size items.toList)) (s := { s with heap := h1.push (seqObj "list" items.toList.toArray 0) }) hat (S _ ?kp) hl' ⟨rfl, ?_⟩) (fun f s' hf => ?_) fun _ _ e => e
    case kp =>
      intro b ob e
      have e1 := Heap.get?_push_of_some (seqObj "list" items.toList.toArray 0) (k1 _ _ e)
      exact sortingHeap_old (Nat.ne_of_lt (Heap.lt_size (k1 _ _ e))) e1
    · obtain ⟨ep, hep⟩ := sortedHeap_at (out := (sortVals (κ (sortingHeap (h1.push (seqObj "list" items.toList.toArray 0)) h1.objs.size items.toList)) false items.toList items.toList).toArray) hat
      refine h h1 _ _ ep (fun b ob e => sortingHeap_old (Nat.ne_of_lt (Heap.lt_size (k1 _ _ e))) (Heap.get?_push_of_some _ (k1 _ _ e))) k1 (fun b ob e => ?_) hep
      have hlt := Heap.lt_size e
      rw [sortedHeap_old (Nat.ne_of_lt hlt) (by rw [size_push']; exact Nat.lt_succ_of_lt hlt)]
      exact Heap.get?_push_of_some _ e
    · obtain ⟨rfl, hq⟩ := hf
      exact ⟨_, rfl, wpAny_pure ⟨_, rfl, hq⟩⟩
end
end G
/-! GM2: sorted(xs), min(xs) on data. -/
namespace G
open PySem L2
mutual
theorem alike_toP : ∀ d : D, d.plain = true → PySem.W.alike d.toP d.toP = true
  | .non, _ => by simp [D.toP, PySem.W.alike]
  | .bl _, _ => by simp [D.toP, PySem.W.alike]
  | .int _, _ => by simp [D.toP, PySem.W.alike]
  | .str _, _ => by simp [D.toP, PySem.W.alike]
  | .tup l, h => by
    show PySem.W.alike (.tuple (D.toPs l)) (.tuple (D.toPs l)) = true
    simpa [PySem.W.alike] using alike_toPs l h
  | .lst l, h => by
    show PySem.W.alike (.list (D.toPs l)) (.list (D.toPs l)) = true
    simpa [PySem.W.alike] using alike_toPs l h
theorem alike_toPs : ∀ l : List D, D.plains l = true → PySem.W.alikeAll (D.toPs l) (D.toPs l) = true
  | [], _ => by simp [D.toPs, PySem.W.alikeAll]
  | d :: l, h => by
    obtain ⟨h1, h2⟩ := Bool.and_eq_true_iff.mp (show (d.plain && D.plains l) = true from h)
    show PySem.W.alikeAll (d.toP :: D.toPs l) (d.toP :: D.toPs l) = true
    simp [PySem.W.alikeAll, alike_toP d h1, alike_toPs l h2]
end
theorem EachIs.of_reps {C : Cn} {W : Wd} : ∀ {vs : List V} {l : List D} {us : List Value}, Reps C W vs l → Vals vs us → PySem.W.EachIs (fun u d => ∃ x, RelV x u ∧ Rep C W x d) us l
  | _, _, _, .nil, .nil => .nil
  | _, _, _, .cons h t, .cons r rs => .cons ⟨_, r, h⟩ (EachIs.of_reps t rs)
theorem EachIs.to_reps {C : Cn} {W : Wd} : ∀ {us : List Value} {l : List D}, PySem.W.EachIs (fun u d => ∃ x, RelV x u ∧ Rep C W x d) us l → ∃ vs, Vals vs us ∧ Reps C W vs l
  | _, _, .nil => ⟨[], .nil, .nil⟩
  | _, _, .cons ⟨x, r, h⟩ t => by
    obtain ⟨vs, h1, h2⟩ := EachIs.to_reps t
    exact ⟨x :: vs, .cons r h1, .cons h h2⟩
theorem plains_mem : ∀ {l : List D}, D.plains l = true → ∀ d ∈ l, d.plain = true
  | [], _, _, m => nomatch m
  | a :: l, h, d, m => by
    obtain ⟨h1, h2⟩ := Bool.and_eq_true_iff.mp (show (a.plain && D.plains l) = true from h)
    rcases List.mem_cons.mp m with rfl | m
    · exact h1
    · exact plains_mem h2 d m
theorem deps_mem : ∀ {l : List D} {d : D}, d ∈ l → d.dep ≤ D.deps l
  | [], _, m => nomatch m
  | a :: l, d, m => by
    show d.dep ≤ max a.dep (D.deps l)
    rcases List.mem_cons.mp m with rfl | m
    · exact Nat.le_max_left _ _
    · exact Nat.le_trans (deps_mem m) (Nat.le_max_right _ _)
mutual
theorem toP_inj : ∀ a b : D, a.plain = true → b.plain = true → a.toP = b.toP → a = b
  | a, b, ha, hb, e => by
    cases a <;> cases b <;> simp only [D.plain, Bool.false_eq_true] at ha hb <;> simp only [D.toP, reduceCtorEq] at e <;> first | rfl | skip
    all_goals injection e with e
    · rw [e]
    · rw [e]
    · rw [e]
    · rw [toPs_inj _ _ ha hb e]
    · rw [toPs_inj _ _ ha hb e]
theorem toPs_inj : ∀ a b : List D, D.plains a = true → D.plains b = true → D.toPs a = D.toPs b → a = b
  | [], [], _, _, _ => rfl
  | [], _ :: _, _, _, e => by simp only [D.toPs, reduceCtorEq] at e
  | _ :: _, [], _, _, e => by simp only [D.toPs, reduceCtorEq] at e
  | x :: xs, y :: ys, ha, hb, e => by
    simp only [D.plains, Bool.and_eq_true] at ha hb
    simp only [D.toPs] at e
    injection e with e1 e2
    rw [toP_inj x y ha.1 hb.1 e1, toPs_inj xs ys ha.2 hb.2 e2]
end
theorem toPs_map : ∀ l : List D, D.toPs l = l.map D.toP
  | [] => rfl
  | d :: l => by rw [List.map_cons, D.toPs, toPs_map l]
theorem allP_iff {f : D → D → Bool} {l : List D} (h : allP f l = true) : ∀ a ∈ l, ∀ b ∈ l, f a b = true := fun a ma b mb => List.all_eq_true.mp (List.all_eq_true.mp h a ma) b mb
theorem okD_inv {a b : D} (h : okD a b = true) : ∃ xs ys, a = .tup xs ∧ b = .tup ys ∧ okAll (D.toPs xs) (D.toPs ys) = true := by
  unfold okD at h
  split at h
  · exact ⟨_, _, rfl, rfl, h⟩
  · cases h
theorem srtT_of {l : List D} (hp : D.plains l = true) (ht : l.all isT = true) (hk : allP okD l = true) (hn : 2 ≤ l.length → l.all neT = true) : SrtT (l.map D.toP) := by
  refine ⟨fun d hd => ?_, fun d hd => ?_, fun r r' h1 h2 => ?_, fun h2 d hd => ?_⟩
  · obtain ⟨a, ma, rfl⟩ := List.mem_map.mp hd
    exact alike_toP a (plains_mem hp a ma)
  · obtain ⟨a, ma, rfl⟩ := List.mem_map.mp hd
    have := List.all_eq_true.mp ht a ma
    cases a <;> first | exact Bool.noConfusion (show false = true from this) | exact ⟨_, rfl⟩
  · obtain ⟨a, ma, ea⟩ := List.mem_map.mp h1
    obtain ⟨b, mb, eb⟩ := List.mem_map.mp h2
    obtain ⟨xs, ys, rfl, rfl, ok⟩ := okD_inv (allP_iff hk a ma b mb)
    have ea : PyData.tuple (D.toPs xs) = .tuple r := ea
    have eb : PyData.tuple (D.toPs ys) = .tuple r' := eb
    injection ea with ea
    injection eb with eb
    rw [← ea, ← eb]
    exact ok
  · obtain ⟨a, ma, rfl⟩ := List.mem_map.mp hd
    have := List.all_eq_true.mp (hn (by simpa using h2)) a ma
    match a, this with
    | .tup (x :: xs), _ => exact ⟨_, _, rfl⟩
theorem neT_isT {d : D} (h : neT d = true) : isT d = true := by
  match d, h with
  | .tup (x :: xs), _ => rfl
theorem seqOf_rep {C : Cn} {W : Wd} {H : Hp} {v : V} {d : D} {l : List D} (r : RepB C W H v d) (sh : Same W.Hs H) (e : seqOf d = some l) : ∃ p vs, v = .ref p ∧ (SqL C.K H p vs ∨ SqT C.K H p vs) ∧ vs.length ≤ sizeLine ∧ Reps C W vs l := by
  cases d <;> first | (cases e; done) | skip
  · cases e
    obtain ⟨p, vs, rfl, h1, h2, h3⟩ := r.tup sh
    exact ⟨p, vs, rfl, .inr h1, h2, h3⟩
  · cases e
    obtain ⟨p, vs, rfl, h1, h2, h3⟩ := r.lst sh
    exact ⟨p, vs, rfl, .inl (SqL.of h1), h2, h3⟩
theorem seq_obj {X : Cx} {pins : List (Addr × Obj)} {s : Shared} {σ : L2.St} {H : Hp} {p : Addr} {vs : List V} (I : Inv X pins σ H s) (h : SqL X.K H p vs ∨ SqT X.K H p vs) :
    ∃ (T : String) (o : Obj) (its : Array Value) (n : Nat), (T = "list" ∨ T = "tuple") ∧ s.heap.get? p = some o ∧ o.cls = .type T ∧ o.data = .seq its n ∧ Vals vs its.toList := by
  rcases h with h | h
  · obtain ⟨its, rv, hl, _⟩ := I.list h
    obtain ⟨o, ho, hc, n, hd⟩ := hl.isList
    exact ⟨"list", o, its.toArray, n, .inl rfl, ho, hc, hd, by simpa using rv⟩
  · obtain ⟨its, rv, hl, _⟩ := I.tuple h
    obtain ⟨o, ho, hc, n, hd⟩ := hl
    exact ⟨"tuple", o, its.toArray, n, .inr rfl, ho, hc, hd, by simpa using rv⟩
section
variable {X : Cx} {g : Gi}
theorem cg_srt (hu : X.A.units + 64 < cLine) : CallR X (.builtin "sorted") (rGc (cn X g) (un dSrt)) := by
  intro pins s σ H vs us Q I r ⟨W, S, ds, d, st, rs, hf, k⟩
  obtain ⟨a, e0, hf2⟩ := un_inv hf
  subst e0
  clear hf
  obtain ⟨v, rfl, ra⟩ := rs.inv1
  obtain ⟨l, hl, hf3⟩ := Option.bind_eq_some_iff.mp hf2
  by_cases ok : srtB l = true
  case neg => rw [if_neg ok] at hf3; cases hf3
  rw [if_pos ok] at hf3
  cases hf3
  obtain ⟨p, vs, rfl, hq, hz, r1⟩ := seqOf_rep ra st.sh hl
  obtain ⟨T, o, its, n, hT, ho, hc, hd, rv⟩ := seq_obj I hq
  rw [Vals.ref1 r]
  unfold srtB at ok
  simp only [Bool.and_eq_true, decide_eq_true_eq] at ok
  obtain ⟨⟨hp, hdp, hln⟩, ok⟩ := ok
  have e := EachIs.of_reps r1 rv
  have er : ∀ h' : Heap, (∀ b ob, s.heap.get? b = some ob → h'.get? b = some ob) → PySem.W.EachIs (fun u d => ∃ as, PySem.Reads h' u (D.toP d) as) its.toList l := by
    intro h' kp
    refine (PySem.W.each_mem e).mono fun u d h => ?_
    obtain ⟨⟨x, rx, rd⟩, md⟩ := h
    have hdp := Rep.dp st.sh d rd (plains_mem hp d md)
    obtain ⟨as, hr⟩ := Dp.reads I _ x u hdp.1 rx
    exact ⟨as, PyProof.Rows.Reads.keeps kp hr⟩
  have hu2 : ∀ d, d ∈ l.map D.toP → X.A.in1.in1.units + d.depth < cLine := by
    intro d md
    obtain ⟨a, ma, rfl⟩ := List.mem_map.mp md
    rw [dep_toP a (plains_mem hp a ma)]
    have := deps_mem ma
    show X.A.units + 1 + 1 + _ < _
    omega
  have hself : ∀ d, d ∈ l.map D.toP → PySem.W.alike d d = true := by
    intro d md
    obtain ⟨a, ma, rfl⟩ := List.mem_map.mp md
    exact alike_toP a (plains_mem hp a ma)
  have hlen : its.size = l.length := by
    have h1 : vs.length = its.toList.length := rv.length
    have h2 : vs.length = l.length := r1.length
    rw [← h2, h1, Array.length_toList]
  refine sorted_seq (κ := fun h' => PySem.W.dataKind h' (l.map D.toP)) hT ho hc hd (by rw [hlen]; exact hln) (fun h' kp => ?_) fun h1 h' hs ep k0 k1 k2 hat => ?_
  · have em := PySem.W.each_map (R := fun u d => ∃ as, PySem.Reads h' u d as) D.toP (er h' kp)
    rcases Bool.or_eq_true_iff.mp ok with ok | ok
    · obtain ⟨o1, o2⟩ := Bool.and_eq_true_iff.mp ok
      exact sorts_tup (s := { s with heap := h' }) em (srtT_of hp (List.all_eq_true.mpr fun a ma => neT_isT (List.all_eq_true.mp o1 a ma)) o2 fun _ => o1) hu2
    · rcases Bool.or_eq_true_iff.mp ok with ok | ok
      · obtain ⟨o1, o2⟩ := Bool.and_eq_true_iff.mp ok
        refine PySem.W.SortsAt.data (s := { s with heap := h' }) em (fun d hd d' hd' => ?_) (.inr fun d hd => ?_) hu2
        · obtain ⟨a, ma, rfl⟩ := List.mem_map.mp hd
          obtain ⟨b, mb, rfl⟩ := List.mem_map.mp hd'
          exact allP_iff o2 a ma b mb
        · obtain ⟨a, ma, rfl⟩ := List.mem_map.mp hd
          have q1 := List.all_eq_true.mp o1 a ma
          have q2 := plains_mem hp a ma
          cases a <;> first | exact Bool.noConfusion (show false = true from q1) | exact Bool.noConfusion (show false = true from q2) | exact ⟨(fun z => nomatch z), fun xs z => nomatch z⟩
      · obtain ⟨o1, o2⟩ := Bool.and_eq_true_iff.mp ok
        obtain ⟨o2, o3⟩ := Bool.and_eq_true_iff.mp o2
        exact sorts_tup (s := { s with heap := h' }) em (srtT_of hp o2 o3 fun z => absurd (of_decide_eq_true o1) (by omega)) hu2
  · have em := PySem.W.each_map (R := fun u d => ∃ as, PySem.Reads hs u d as) D.toP (er hs k0)
    have ho := PySem.W.sortVals_each (κ := PySem.W.dataKind hs (l.map D.toP)) (rev := false) (fun b => PySem.W.keyToks (D.toP b)) e (PySem.W.each_of_map D.toP ((PySem.W.each_mem em).mono fun _ _ ⟨⟨_, r⟩, hd⟩ => key_of hself hd r))
    obtain ⟨vs', v1, v2⟩ := EachIs.to_reps ho
    have hlen2 : vs'.length ≤ sizeLine := by
      rw [v2.length, (List.mergeSort_perm _ _).length_eq]
      exact hln
    have I1 : Inv X pins σ H { s with heap := h1 } := I.kept (t' := s.toks) k1
    have hn : H h1.objs.size = none := I1.hok.fresh (Nat.le_refl _)
    exact ⟨.ref _, upd H h1.objs.size (.lst vs'), I1.laid (t' := s.toks) k2 (Nat.le_refl _) ⟨hlen2, _, ep, v1, hat⟩, rfl, k _ _ _ (Ext.laid st.sh hn) (st.laid hn) (Rep.newL hn st.sh hlen2 v2)⟩
theorem valsV : ∀ {vs : List V} {us : List Value} {i : Nat} {u : Value}, Vals vs us → us[i]? = some u → ∃ v, vs[i]? = some v ∧ RelV v u
  | _, _, _, _, .nil, e => by simp at e
  | _, _, 0, _, .cons r _, e => by simp at e; subst e; exact ⟨_, rfl, r⟩
  | _, _, i + 1, u, .cons _ t, e => by
    obtain ⟨v, h1, h2⟩ := valsV (i := i) (u := u) t (by simpa using e)
    exact ⟨v, by simpa using h1, h2⟩
theorem minG_toP : ∀ (xs : List D) (x : D), (minG x xs).toP = PySem.W.minD x.toP (xs.map D.toP)
  | [], x => rfl
  | y :: xs, x => by
    show (minG (if PySem.W.dataLt y.toP x.toP = true then y else x) xs).toP = PySem.W.minD (if PySem.W.dataLt y.toP x.toP = true then y.toP else x.toP) (xs.map D.toP)
    rw [minG_toP xs]
    split <;> rfl
theorem minG_mem : ∀ (xs : List D) (x : D), minG x xs ∈ x :: xs
  | [], x => List.mem_cons_self
  | y :: xs, x => by
    have : minG x (y :: xs) = minG (if PySem.W.dataLt y.toP x.toP = true then y else x) xs := rfl
    rw [this]
    have := minG_mem xs (if PySem.W.dataLt y.toP x.toP = true then y else x)
    rcases List.mem_cons.mp this with e | m
    · rw [e]
      split
      · exact List.mem_cons_of_mem _ List.mem_cons_self
      · exact List.mem_cons_self
    · exact List.mem_cons_of_mem _ (List.mem_cons_of_mem _ m)
theorem cg_mn (hc : X.calm = true) (hu : X.A.units + 64 < cLine) : CallR X (.builtin "min") (rGc (cn X g) (un dMn)) := by
  intro pins s σ H vs us Q I r ⟨W, S, ds, d, st, rs, hf, k⟩
  obtain ⟨a, e0, hf2⟩ := un_inv hf
  subst e0
  clear hf
  obtain ⟨v, rfl, ra⟩ := rs.inv1
  match a, hf2, ra with
  | .lst (x :: xs), hf2, ra =>
    have hf3 : (if minB (x :: xs) = true then some (minG x xs) else none) = some d := hf2
    by_cases ok : minB (x :: xs) = true
    case neg => rw [if_neg ok] at hf3; cases hf3
    rw [if_pos ok] at hf3
    cases hf3
    unfold minB at ok
    simp only [Bool.and_eq_true, decide_eq_true_eq] at ok
    obtain ⟨hp, hdp, hnn, hal⟩ := ok
    obtain ⟨p, vs, rfl, hq, hz, r1⟩ := ra.lst st.sh
    obtain ⟨its, rv, hl, _⟩ := I.list (SqL.of (K := X.K) hq)
    rw [Vals.ref1 r]
    have hh := I.ok.hd hc
    have e := EachIs.of_reps r1 rv
    have er : PySem.W.EachIs (fun u d => ∃ as, PySem.Reads s.heap u (D.toP d) as) its (x :: xs) := by
      refine (PySem.W.each_mem e).mono fun u d h => ?_
      obtain ⟨⟨x, rx, rd⟩, md⟩ := h
      have hdp := Rep.dp st.sh d rd (plains_mem hp d md)
      exact Dp.reads I _ x u hdp.1 rx
    obtain ⟨as, hr⟩ := PySem.W.each_readsAll D.toP er
    refine PySem.W.min_list_data (vs := its.toArray) (x := x.toP) (xs := xs.map D.toP) hh hl.isList (by simpa using hr) ⟨?_, ?_⟩ ?_ fun i v h' tk bs hv hrd kp => ?_
    · intro a ma b mb
      obtain ⟨a, ma2, rfl⟩ := List.mem_map.mp (show a ∈ (x :: xs).map D.toP from ma)
      obtain ⟨b, mb2, rfl⟩ := List.mem_map.mp (show b ∈ (x :: xs).map D.toP from mb)
      exact allP_iff hal a ma2 b mb2
    · intro a ma
      obtain ⟨a, ma2, rfl⟩ := List.mem_map.mp (show a ∈ (x :: xs).map D.toP from ma)
      have q1 := List.all_eq_true.mp hnn a ma2
      have q2 := plains_mem hp a ma2
      cases a <;> first | exact Bool.noConfusion (show false = true from q1) | exact Bool.noConfusion (show false = true from q2) | exact fun z => nomatch z
    · rw [← List.map_cons, ← toPs_map, deps_toPs _ hp]
      omega
    · obtain ⟨y, hy1, hy2⟩ := valsV (i := i) rv (by simpa using hv)
      obtain ⟨dd, hd1, hd2⟩ := r1.getV hy1
      have md := List.mem_of_getElem? hd1
      have hdp := Rep.dp st.sh dd hd2 (plains_mem hp dd md)
      obtain ⟨as', hr'⟩ := Dp.reads I _ y v hdp.1 hy2
      have eq := reads_uniq _ _ _ _ _ (alike_toP dd (plains_mem hp dd md)) (PyProof.Rows.Reads.keeps kp hr') hrd
      rw [← minG_toP] at eq
      have := toP_inj _ _ (plains_mem hp dd md) (plains_mem hp _ (minG_mem xs x)) eq
      subst this
      exact ⟨y, H, I.kept (t' := tk) kp, hy2, k _ H W (Ext.refl _ _) st hd2⟩
end
end G
/-! GDc: dicts. -/
namespace G
open PySem L2
/-! ### keys -/
mutual
theorem keyB_plain : ∀ d : D, d.keyB = true → d.plain = true
  | d, h => by
    cases d <;> simp only [D.keyB, Bool.false_eq_true] at h <;> first | rfl | exact keysB_plain _ h
theorem keysB_plain : ∀ l : List D, D.keysB l = true → D.plains l = true
  | [], _ => rfl
  | d :: l, h => by
    simp only [D.keysB, Bool.and_eq_true] at h
    simp only [D.plains, Bool.and_eq_true]
    exact ⟨keyB_plain d h.1, keysB_plain l h.2⟩
end
mutual
theorem nest_of {h : Heap} : ∀ (d : D) (u : Value) (as : List Addr), d.keyB = true → PySem.Reads h u d.toP as → NestedIs h d.nk u
  | d, u, as, hk, r => by
    cases d <;> simp only [D.keyB, Bool.false_eq_true] at hk
    · cases r; exact .none
    · cases r; exact .bool rfl
    · cases r; exact .int _ _
    · cases r; exact .text _ _
    · cases r with
      | tuple h1 h2 h3 h4 => exact .tup h1 h2 h3 (nests_of _ _ _ hk h4)
theorem nests_of {h : Heap} : ∀ (l : List D) (us : List Value) (as : List Addr), D.keysB l = true → PySem.ReadsAll h us (D.toPs l) as → NestedAll h (D.nks l) us
  | [], _, _, _, r => by cases r; exact .nil
  | d :: l, _, _, hk, r => by
    simp only [D.keysB, Bool.and_eq_true] at hk
    cases r with
    | cons r1 r2 => exact .cons (nest_of d _ _ hk.1 r1) (nests_of l _ _ hk.2 r2)
end
mutual
theorem nk_eqb : ∀ a b : D, a.keyB = true → b.keyB = true → a.eqb b = NestedKey.beq a.nk b.nk
  | a, b, ha, hb => by
    cases a <;> simp only [D.keyB, Bool.false_eq_true] at ha <;> cases b <;> simp only [D.keyB, Bool.false_eq_true] at hb <;> simp only [D.eqb, D.nk, NestedKey.beq]
    · rename_i x y
      cases x <;> cases y <;> rfl
    · rename_i x y
      cases x <;> first | rfl | (by_cases e : (0 : Int) = y <;> simp [e]) | (by_cases e : (1 : Int) = y <;> simp [e])
    · rename_i x y
      by_cases e : x = (if y = true then 1 else 0) <;> simp [e]
    · rename_i x y
      by_cases e : x = y <;> simp [e]
    · rename_i x y
      by_cases e : x = y <;> simp [e]
    · exact nks_eqb _ _ ha hb
theorem nks_eqb : ∀ a b : List D, D.keysB a = true → D.keysB b = true → D.eqbs a b = NestedKey.beqAll (D.nks a) (D.nks b)
  | [], [], _, _ => rfl
  | [], _ :: _, _, _ => rfl
  | _ :: _, [], _, _ => rfl
  | a :: as, b :: bs, ha, hb => by
    simp only [D.keysB, Bool.and_eq_true] at ha hb
    simp only [D.eqbs, D.nks, NestedKey.beqAll]
    rw [nk_eqb a b ha.1 hb.1, nks_eqb as bs ha.2 hb.2]
end
theorem topB_keyB {d : D} (h : d.topB = true) : d.keyB = true := by
  cases d <;> first | rfl | exact Bool.noConfusion (show false = true from h) | skip
  exact (Bool.and_eq_true_iff.mp h).1
theorem topB_dep {d : D} (h : d.topB = true) : d.nk.depth ≤ 8 := by
  cases d <;> first | exact Bool.noConfusion (show false = true from h) | skip
  · exact Nat.zero_le _
  · exact of_decide_eq_true (Bool.and_eq_true_iff.mp h).2
theorem top_eqb {a b : D} (ha : a.topB = true) (hb : b.topB = true) : a.eqb b = decide (a.nk = b.nk) := by
  rw [nk_eqb a b (topB_keyB ha) (topB_keyB hb), NestedKey.decide_eq]
theorem top_str {d : D} (h : d.strB = true) : ∃ x, d = .str x := by
  cases d <;> first | exact Bool.noConfusion (show false = true from h) | exact ⟨_, rfl⟩
theorem top_tup {d : D} (h : d.topB = true) (h2 : d.strB = false) : ∃ l, d = .tup l := by
  cases d <;> first | exact Bool.noConfusion (show false = true from h) | exact Bool.noConfusion (show true = false from h2) | exact ⟨_, rfl⟩
/-! ### rows -/
def RowR (C : Cn) (W : Wd) (p : D × D) (x : NestedKey × V × V) : Prop := x.1 = p.1.nk ∧ Rep C W x.2.1 p.1 ∧ Rep C W x.2.2 p.2
def EntR (w : World) (x : NestedKey × V × V) (e : DictEntry) : Prop := e.hash = x.1.hash w ∧ RelV x.2.1 e.key ∧ RelV x.2.2 e.val
/-- a row of a dict of tuples -/
def TupR (C : Cn) (W : Wd) (p : D × D) (q : NestedKey × Addr × Value) : Prop := q.1 = p.1.nk ∧ Rep C W (.ref q.2.1) p.1 ∧ ∃ v, Rep C W v p.2 ∧ RelV v q.2.2
/-- a row of a dict of texts -/
def StrR (C : Cn) (W : Wd) (p : D × D) (q : Str × Value) : Prop := p.1 = .str q.1 ∧ (q.1.length ≤ sizeLine ∧ PyData.strOk q.1 = true) ∧ ∃ v, Rep C W v p.2 ∧ RelV v q.2
section
variable {C : Cn} {W W' : Wd}
theorem rows_of : ∀ {l : List (D × D)} {xs : List (NestedKey × V × V)}, xs.map (·.1) = l.map (fun p => p.1.nk) → Reps C W (xs.map (·.2.1)) (l.map (·.1)) → Reps C W (xs.map (·.2.2)) (l.map (·.2)) → Paired (RowR C W) l xs
  | [], [], _, _, _ => .nil
  | [], _ :: _, e, _, _ => by simp at e
  | _ :: _, [], e, _, _ => by simp at e
  | p :: l, x :: xs, e, r1, r2 => by
    simp only [List.map_cons, List.cons.injEq] at e r1 r2
    cases r1 with
    | cons a1 b1 => cases r2 with
      | cons a2 b2 => exact .cons ⟨e.1, a1, a2⟩ (rows_of e.2 b1 b2)
theorem rows_to : ∀ {l : List (D × D)} {xs : List (NestedKey × V × V)}, Paired (RowR C W) l xs → xs.map (·.1) = l.map (fun p => p.1.nk) ∧ Reps C W (xs.map (·.2.1)) (l.map (·.1)) ∧ Reps C W (xs.map (·.2.2)) (l.map (·.2))
  | _, _, .nil => ⟨rfl, .nil, .nil⟩
  | _, _, .cons ⟨h1, h2, h3⟩ t => by
    obtain ⟨e, r1, r2⟩ := rows_to t
    exact ⟨by simp only [List.map_cons, h1, e], .cons h2 r1, .cons h3 r2⟩
end
section
variable {X : Cx} {pins : List (Addr × Obj)} {σ : L2.St} {H : Hp} {s : Shared} {g : Gi} {W : Wd}
theorem key_is (I : Inv X pins σ H s) (sh : Same W.Hs H) {d : D} {b : Addr} (hd : d.topB = true) (r : Rep (cn X g) W (.ref b) d) : (nestedKind X.prog X.w).is s.heap d.nk b := by
  have hp := keyB_plain d (topB_keyB hd)
  obtain ⟨as, hr⟩ := Dp.reads I _ _ (Value.ref b) (Rep.dp sh d r hp).1 rfl
  exact ⟨nest_of d _ _ (topB_keyB hd) hr, topB_dep hd⟩
theorem rep_tup {C : Cn} {d : D} {v : V} (r : Rep C W v d) (h : d.topB = true) (h2 : d.strB = false) : ∃ b, v = .ref b := by
  obtain ⟨l, rfl⟩ := top_tup h h2
  cases r
  exact ⟨_, rfl⟩
theorem tup_rows (I : Inv X pins σ H s) (sh : Same W.Hs H) : ∀ {l : List (D × D)} {xs : List (NestedKey × V × V)} {es : List DictEntry}, Paired (RowR (cn X g) W) l xs → Paired (EntR X.w) xs es → (∀ k ∈ l.map (·.1), k.topB = true) → (∀ k ∈ l.map (·.1), k.strB = false) →
    ∃ ys : List (NestedKey × Addr × Value), es = ys.map (entryOfKey (nestedKind X.prog X.w)) ∧ (∀ x ∈ ys, (nestedKind X.prog X.w).is s.heap x.1 x.2.1) ∧ Paired (TupR (cn X g) W) l ys
  | _, _, _, .nil, .nil, _, _ => ⟨[], rfl, (fun _ h => nomatch h), .nil⟩
  | p :: l, x :: xs, e :: es, .cons ⟨h1, h2, h3⟩ t, .cons ⟨k1, k2, k3⟩ u, ht, hs => by
    obtain ⟨ys, q1, q2, q3⟩ := tup_rows I sh t u (fun k m => ht k (List.mem_cons_of_mem _ m)) fun k m => hs k (List.mem_cons_of_mem _ m)
    have t1 := ht p.1 List.mem_cons_self
    obtain ⟨b, hb⟩ := rep_tup h2 t1 (hs p.1 List.mem_cons_self)
    rw [hb] at h2 k2
    obtain ⟨eh, ek, ev⟩ := e
    have k2 : ek = Value.ref b := k2
    have k1' : eh = x.1.hash X.w := k1
    subst k2
    refine ⟨(p.1.nk, b, ev) :: ys, ?_, ?_, .cons ⟨rfl, h2, _, h3, k3⟩ q3⟩
    · rw [List.map_cons, q1]
      show _ = (⟨NestedKey.hash X.w p.1.nk, .ref b, ev⟩ : DictEntry) :: _
      rw [← h1, ← k1']
    · intro x m
      rcases List.mem_cons.mp m with rfl | m
      · exact key_is I sh t1 h2
      · exact q2 x m
theorem tup_back : ∀ {l : List (D × D)} {ys : List (NestedKey × Addr × Value)}, Paired (TupR (cn X g) W) l ys → ∃ xs : List (NestedKey × V × V), Paired (RowR (cn X g) W) l xs ∧ Paired (EntR X.w) xs (ys.map (entryOfKey (nestedKind X.prog X.w)))
  | _, _, .nil => ⟨[], .nil, .nil⟩
  | _, _, .cons (a := p) (b := q) ⟨h1, h2, v, h3, h4⟩ t => by
    obtain ⟨xs, r1, r2⟩ := tup_back t
    refine ⟨(p.1.nk, .ref q.2.1, v) :: xs, .cons ⟨rfl, h2, h3⟩ r1, ?_⟩
    rw [List.map_cons]
    refine .cons ⟨?_, rfl, h4⟩ r2
    show NestedKey.hash X.w q.1 = _
    rw [h1]
theorem str_rows : ∀ {l : List (D × D)} {xs : List (NestedKey × V × V)} {es : List DictEntry}, Paired (RowR (cn X g) W) l xs → Paired (EntR X.w) xs es → (∀ k ∈ l.map (·.1), k.strB = true) →
    ∃ ys : List (Str × Value), (∀ e ∈ es, ∃ k, (strKind X.prog X.w).is k e.key = true ∧ e.hash = (strKind X.prog X.w).hash k) ∧ Pairs (strKind X.prog X.w) es ys ∧ Paired (StrR (cn X g) W) l ys
  | _, _, _, .nil, .nil, _ => ⟨[], (fun _ h => nomatch h), .nil, .nil⟩
  | p :: l, x :: xs, e :: es, .cons ⟨h1, h2, h3⟩ t, .cons ⟨k1, k2, k3⟩ u, hs => by
    obtain ⟨ys, q1, q2, q3⟩ := str_rows t u fun k m => hs k (List.mem_cons_of_mem _ m)
    obtain ⟨z, hz⟩ := top_str (hs p.1 List.mem_cons_self)
    rw [hz] at h2
    obtain ⟨kx, vx⟩ := x
    obtain ⟨kv, vv⟩ := vx
    have h2 : Rep (cn X g) W kv (.str z) := h2
    cases h2 with
    | str _ l1 l2 =>
      obtain ⟨tk, hk⟩ := (show RelV (.str z) e.key from k2)
      have is1 : (strKind X.prog X.w).is z e.key = true := by
        rw [hk]
        show Value.isStrOf z (.str z tk) = true
        simp [Value.isStrOf]
      refine ⟨(z, e.val) :: ys, ?_, .cons is1 rfl q2, .cons ⟨hz, ⟨l1, l2⟩, _, h3, k3⟩ q3⟩
      intro e' m
      rcases List.mem_cons.mp m with rfl | m
      · refine ⟨z, is1, ?_⟩
        rw [k1]
        show kx.hash X.w = hashStr X.w z
        rw [show kx = p.1.nk from h1, hz]
        rfl
      · exact q1 e' m
theorem str_back : ∀ {l : List (D × D)} {ys : List (Str × Value)} {es : List DictEntry}, Paired (StrR (cn X g) W) l ys → (∀ e ∈ es, ∃ k, (strKind X.prog X.w).is k e.key = true ∧ e.hash = (strKind X.prog X.w).hash k) → Pairs (strKind X.prog X.w) es ys →
    ∃ xs : List (NestedKey × V × V), Paired (RowR (cn X g) W) l xs ∧ Paired (EntR X.w) xs es
  | _, _, _, .nil, _, .nil => ⟨[], .nil, .nil⟩
  | p :: l, q :: ys, e :: es, .cons ⟨h1, h2, v, h3, h4⟩ t, hk, .cons i1 i2 i3 => by
    obtain ⟨xs, r1, r2⟩ := str_back t (fun e m => hk e (List.mem_cons_of_mem _ m)) i3
    obtain ⟨k, c1, c2⟩ := hk e List.mem_cons_self
    have ek : k = q.1 := (strKind X.prog X.w).inj _ _ _ c1 i1
    subst ek
    obtain ⟨tk, htk⟩ := Value.isStrOf_shape c1
    refine ⟨(p.1.nk, .str q.1, v) :: xs, .cons ⟨rfl, ?_, h3⟩ r1, .cons ⟨?_, ⟨tk, htk⟩, ?_⟩ r2⟩
    · rw [h1]; exact .str _ h2.1 h2.2
    · rw [c2, h1]; rfl
    · rw [i2]; exact h4
end
/-! ### looking up, putting in -/
section
variable {C : Cn} {W : Wd}
theorem look_tup : ∀ {l : List (D × D)} {ys : List (NestedKey × Addr × Value)} {k : D}, Paired (TupR C W) l ys → (∀ d ∈ l.map (·.1), d.topB = true) → k.topB = true →
    (lookD l k = none ∧ atKey ys k.nk = none) ∨ ∃ d p v, lookD l k = some d ∧ atKey ys k.nk = some p ∧ Rep C W v d ∧ RelV v p.2
  | _, _, _, .nil, _, _ => .inl ⟨rfl, rfl⟩
  | p :: l, q :: ys, k, .cons ⟨h1, h2, v, h3, h4⟩ t, ht, hk => by
    have e := top_eqb (ht p.1 List.mem_cons_self) hk
    unfold lookD atKey
    rw [List.find?_cons, List.find?_cons, e, h1]
    by_cases z : p.1.nk = k.nk
    · rw [decide_eq_true z]
      exact .inr ⟨_, _, v, rfl, rfl, h3, h4⟩
    · rw [decide_eq_false z]
      exact look_tup t (fun d m => ht d (List.mem_cons_of_mem _ m)) hk
theorem look_str : ∀ {l : List (D × D)} {ys : List (Str × Value)} {x : Str}, Paired (StrR C W) l ys → (lookD l (.str x) = none ∧ valueAt ys x = none) ∨ ∃ d u v, lookD l (.str x) = some d ∧ valueAt ys x = some u ∧ Rep C W v d ∧ RelV v u
  | _, _, _, .nil => .inl ⟨rfl, rfl⟩
  | p :: l, q :: ys, x, .cons ⟨h1, h2, v, h3, h4⟩ t => by
    have e : p.1.eqb (.str x) = decide (q.1 = x) := by
      rw [h1]
      show (q.1 == x) = _
      by_cases z : q.1 = x <;> simp [z]
    unfold lookD valueAt
    rw [List.find?_cons, List.find?_cons, e]
    by_cases z : q.1 = x
    · rw [decide_eq_true z]
      exact .inr ⟨_, _, v, rfl, rfl, h3, h4⟩
    · rw [decide_eq_false z]
      exact look_str t
theorem pairedMap {α β γ δ : Type} {R : α → β → Prop} {S : γ → δ → Prop} {f : α → γ} {h : β → δ} : ∀ {l : List α} {m : List β}, Paired R l m → (∀ a b, a ∈ l → R a b → S (f a) (h b)) → Paired S (l.map f) (m.map h)
  | _, _, .nil, _ => .nil
  | _, _, .cons r t, k => .cons (k _ _ List.mem_cons_self r) (pairedMap t fun a b m => k a b (List.mem_cons_of_mem _ m))
theorem paired_app {α β : Type} {R : α → β → Prop} : ∀ {l : List α} {m : List β} {l' : List α} {m' : List β}, Paired R l m → Paired R l' m' → Paired R (l ++ l') (m ++ m')
  | _, _, _, _, .nil, h => h
  | _, _, _, _, .cons r t, h => .cons r (paired_app t h)
theorem put_tup {l : List (D × D)} {ys : List (NestedKey × Addr × Value)} {k d : D} {b : Addr} {v : V} {u : Value} (h : Paired (TupR C W) l ys) (ht : ∀ d ∈ l.map (·.1), d.topB = true) (hk : k.topB = true) (rk : Rep C W (.ref b) k) (rd : Rep C W v d) (rv : RelV v u) :
    Paired (TupR C W) (putD l k d) (storedH ys k.nk b u) := by
  unfold putD storedH
  rcases look_tup h ht hk with ⟨h1, h2⟩ | ⟨d', p, v', h1, h2, _⟩
  · rw [h1, h2]
    exact paired_app h (.cons ⟨rfl, rk, v, rd, rv⟩ .nil)
  · rw [h1, h2]
    refine pairedMap h fun a c m r => ?_
    obtain ⟨r1, r2, w, r3, r4⟩ := r
    have e := top_eqb (ht a.1 (List.mem_map.mpr ⟨a, m, rfl⟩)) hk
    unfold putAt
    rw [e, r1]
    by_cases z : a.1.nk = k.nk
    · rw [decide_eq_true z, if_pos rfl, if_pos z]
      exact ⟨rfl, r2, v, rd, rv⟩
    · rw [decide_eq_false z, if_neg (by decide), if_neg z]
      exact ⟨r1, r2, w, r3, r4⟩
theorem put_str {l : List (D × D)} {ys : List (Str × Value)} {x : Str} {d : D} {v : V} {u : Value} (h : Paired (StrR C W) l ys) (hx : x.length ≤ sizeLine ∧ PyData.strOk x = true) (rd : Rep C W v d) (rv : RelV v u) :
    Paired (StrR C W) (putD l (.str x) d) (stored ys x u) := by
  have any : (ys.any fun kv => decide (kv.1 = x)) = (valueAt ys x).isSome := by
    unfold valueAt
    rw [Option.isSome_map]
    rw [Bool.eq_iff_iff, List.find?_isSome, List.any_eq_true]
  unfold putD stored
  rw [any]
  rcases look_str (x := x) h with ⟨h1, h2⟩ | ⟨d', p, v', h1, h2, _⟩
  · rw [h1, h2]
    exact paired_app h (.cons ⟨rfl, hx, v, rd, rv⟩ .nil)
  · rw [h1, h2]
    refine pairedMap h fun a c m r => ?_
    obtain ⟨r1, r2, w, r3, r4⟩ := r
    have e : a.1.eqb (.str x) = decide (c.1 = x) := by
      rw [r1]
      show (c.1 == x) = _
      by_cases z : c.1 = x <;> simp [z]
    rw [e]
    by_cases z : c.1 = x
    · rw [decide_eq_true z, if_pos rfl, if_pos z]
      exact ⟨r1, r2, v, rd, rv⟩
    · rw [decide_eq_false z, if_neg (by decide), if_neg z]
      exact ⟨r1, r2, w, r3, r4⟩
end
theorem keyOk_iff {l : List (D × D)} {k : D} (h : keyOkB l k = true) : k.topB = true ∧ ∀ d ∈ l.map (·.1), d.strB = k.strB := by
  obtain ⟨h1, h2⟩ := Bool.and_eq_true_iff.mp (show (k.topB && l.all fun p => p.1.strB == k.strB) = true from h)
  refine ⟨h1, fun d m => ?_⟩
  obtain ⟨p, mp, rfl⟩ := List.mem_map.mp m
  exact eq_of_beq (List.all_eq_true.mp h2 p mp)
theorem put_keys {l : List (D × D)} {k v : D} (h : keysOk (l.map (·.1))) (hk : keyOkB l k = true) : keysOk ((putD l k v).map (·.1)) := by
  obtain ⟨k1, k2⟩ := keyOk_iff hk
  obtain ⟨h1, h2, h3⟩ := h
  unfold putD
  split
  · have : (l.map fun p => if p.1.eqb k = true then (p.1, v) else p).map (·.1) = l.map (·.1) := by
      rw [List.map_map]
      refine List.map_congr_left fun p _ => ?_
      show (if p.1.eqb k = true then (p.1, v) else p).1 = p.1
      split <;> rfl
    rw [this]
    exact ⟨h1, h2, h3⟩
  · rename_i hn
    have no : k.nk ∉ (l.map (·.1)).map D.nk := by
      intro m
      obtain ⟨d, md, e⟩ := List.mem_map.mp m
      obtain ⟨p, mp, rfl⟩ := List.mem_map.mp md
      refine hn ?_
      unfold lookD
      rw [Option.isSome_map, List.find?_isSome]
      exact ⟨p, mp, by rw [top_eqb (h1 _ md) k1]; exact decide_eq_true e⟩
    rw [List.map_append]
    refine ⟨fun d m => ?_, ?_, ?_⟩
    · rcases List.mem_append.mp m with m | m
      · exact h1 d m
      · cases List.mem_singleton.mp m; exact k1
    · cases hs : k.strB with
      | true =>
        refine .inl fun d m => ?_
        rcases List.mem_append.mp m with m | m
        · rw [k2 d m, hs]
        · cases List.mem_singleton.mp m; exact hs
      | false =>
        refine .inr fun d m => ?_
        rcases List.mem_append.mp m with m | m
        · rw [k2 d m, hs]
        · cases List.mem_singleton.mp m; exact hs
    · rw [List.map_append, List.nodup_append]
      refine ⟨h3, by simp, fun a ma b mb e => ?_⟩
      have : b = k.nk := by simpa using mb
      subst this
      subst e
      exact no ma
theorem put_len (l : List (D × D)) (k v : D) : (putD l k v).length ≤ l.length + 1 := by
  unfold putD
  split
  · rw [List.length_map]; omega
  · rw [List.length_append]; exact Nat.le_refl _
end G
/-! GDd: dicts, asked. -/
namespace G
open PySem L2
theorem nodup_inj' {α β : Type} {f : α → β} {l : List α} (h : (l.map f).Nodup) : l.Nodup := by
  induction l with
  | nil => exact List.nodup_nil
  | cons a l ih =>
    rw [List.map_cons, List.nodup_cons] at h
    exact List.nodup_cons.mpr ⟨fun m => h.1 (List.mem_map.mpr ⟨a, m, rfl⟩), ih h.2⟩
theorem tup_keys {C : Cn} {W : Wd} : ∀ {l : List (D × D)} {ys : List (NestedKey × Addr × Value)}, Paired (TupR C W) l ys → ys.map (·.1) = (l.map (·.1)).map D.nk
  | _, _, .nil => rfl
  | _, _, .cons h t => by rw [List.map_cons, List.map_cons, List.map_cons, tup_keys t, h.1]
theorem str_keys {C : Cn} {W : Wd} : ∀ {l : List (D × D)} {ys : List (Str × Value)}, Paired (StrR C W) l ys → (ys.map (·.1)).map NestedKey.text = (l.map (·.1)).map D.nk
  | _, _, .nil => rfl
  | _, _, .cons h t => by rw [List.map_cons, List.map_cons, List.map_cons, List.map_cons, str_keys t, h.1]; rfl
theorem paired_len {α β : Type} {R : α → β → Prop} : ∀ {l : List α} {m : List β}, Paired R l m → m.length = l.length
  | _, _, .nil => rfl
  | _, _, .cons _ t => by rw [List.length_cons, List.length_cons, paired_len t]
section
variable {X : Cx} {pins : List (Addr × Obj)} {σ : L2.St} {H : Hp} {s : Shared} {g : Gi} {W : Wd}
theorem dic_raw (I : Inv X pins σ H s) {a : Addr} {o : Obj} {xs : List (NestedKey × V × V)} (h : H a = some (dicO X.w a o xs)) : ∃ es ep, s.heap.get? a = some o ∧ o.ExactDict ∧ o.data = .dict es ep ∧ Paired (EntR X.w) xs es.toList := by
  obtain ⟨h1, h2, es, ep, h3, h4⟩ := (I.hok a _ h).1
  exact ⟨es, ep, h1, h2, h3, h4⟩
/-- a dict, as the library sees it, by a key's kind -/
theorem dic_form (I : Inv X pins σ H s) (sh : Same W.Hs H) {v : V} {l : List (D × D)} (r : RepB (cn X g) W H v (.dct l)) : ∃ a, v = .ref a ∧ (a == sysModules) = false ∧ l.length ≤ sizeLine ∧ keysOk (l.map (·.1)) ∧ ∀ k : D, keyOkB l k = true →
    (k.strB = true ∧ ∃ ys, s.heap.DictOf (strKind X.prog X.w) a ys ∧ Paired (StrR (cn X g) W) l ys) ∨ (k.strB = false ∧ ∃ ys, s.heap.DictOfH (nestedKind X.prog X.w) a ys ∧ Paired (TupR (cn X g) W) l ys) := by
  obtain ⟨a, o, xs, rfl, h1, h2, h3, h4, h5, h6, h7⟩ := r.dct sh
  have rows := rows_of h5 h6 h7
  obtain ⟨es, ep, ho, hx, hd, ent⟩ := dic_raw I h1
  have hlen : xs.length = l.length := paired_len rows
  refine ⟨a, rfl, h3, by rw [← hlen]; exact h2, h4, fun k hk => ?_⟩
  obtain ⟨k1, k2⟩ := keyOk_iff hk
  cases hs : k.strB with
  | true =>
    obtain ⟨ys, q1, q2, q3⟩ := str_rows rows ent fun d m => by rw [k2 d m, hs]
    refine .inl ⟨rfl, ys, ⟨o, es, ep, ho, hx, hd, fun e m => q1 e (Array.mem_toList_iff.mpr m), q2, ?_⟩, q3⟩
    refine nodup_inj' (f := NestedKey.text) ?_
    rw [str_keys q3]
    exact h4.2.2
  | false =>
    obtain ⟨ys, q1, q2, q3⟩ := tup_rows I sh rows ent h4.1 fun d m => by rw [k2 d m, hs]
    refine .inr ⟨rfl, ys, ⟨o, es, ep, ho, hx, hd, q1, q2, ?_⟩, q3⟩
    rw [tup_keys q3]
    exact h4.2.2
theorem key_val {y : V} {k : D} {u : Value} (r : RepB (cn X g) W H y k) (ry : RelV y u) (hk : k.topB = true) : (k.strB = true ∧ ∃ x t, k = .str x ∧ u = .str x t ∧ x.length ≤ sizeLine ∧ PyData.strOk x = true) ∨ (k.strB = false ∧ ∃ b, u = .ref b ∧ Rep (cn X g) W (.ref b) k) := by
  cases k <;> first | exact Bool.noConfusion (show false = true from hk) | skip
  · obtain ⟨rfl, h1, h2⟩ := r.str
    obtain ⟨t, rfl⟩ := ry
    exact .inl ⟨rfl, _, t, rfl, rfl, h1, h2⟩
  · have r := r.flat rfl
    cases r with
    | tup h1 h2 h3 =>
      cases (show u = Value.ref _ from ry)
      exact .inr ⟨rfl, _, rfl, .tup h1 h2 h3⟩
theorem roomN {A : Around} (hu : A.units + 64 < cLine) : (nestedKind X.prog X.w).room A.in1 := by
  show A.units + 1 + 8 < cLine
  omega
theorem opg_in (hu : X.A.units + 64 < cLine) : OpR X (compareOp .In) (rG2 (cn X g) dIn) := by
  intro pins s σ H x y v u Q I rx ry ⟨W, S, a, b, d, st, ra, rb, hf, k⟩
  by_cases hb : ∃ l, b = .dct l
  · obtain ⟨l, rfl⟩ := hb
    have hf2 : (if keyOkB l a = true then some (D.bl (lookD l a).isSome) else none) = some d := hf
    by_cases ok : keyOkB l a = true
    case neg => rw [if_neg ok] at hf2; cases hf2
    rw [if_pos ok] at hf2
    cases hf2
    obtain ⟨c, rfl, hsys, hlen, hks, hform⟩ := dic_form I st.sh rb
    cases (show u = Value.ref c from ry)
    have ht := (keyOk_iff ok).1
    rcases hform a ok with ⟨hs, ys, dd, pr⟩ | ⟨hs, ys, dd, pr⟩
    · rcases key_val ra rx ht with ⟨_, z, t, rfl, rfl, _⟩ | ⟨h2, _⟩
      · refine wpAny_in_of (knd := strKind X.prog X.w) (k := z) (by show Value.isStrOf z (.str z t) = true; simp [Value.isStrOf]) hsys dd.mapOf ?_
        rcases look_str (x := z) pr with ⟨e1, e2⟩ | ⟨d, u, v, e1, e2, _⟩
        · rw [e2]; rw [e1] at k; exact ⟨.bl false, H, I.tok _, rfl, k _ H W (Ext.refl _ _) st (.bl _)⟩
        · rw [e2]; rw [e1] at k; exact ⟨.bl true, H, I.tok _, rfl, k _ H W (Ext.refl _ _) st (.bl _)⟩
      · rw [hs] at h2; cases h2
    · rcases key_val ra rx ht with ⟨h2, _⟩ | ⟨_, b, rfl, rb2⟩
      · rw [hs] at h2; cases h2
      · refine wpAny_in_heap (roomN hu) (key_is I st.sh ht rb2) hsys dd ?_
        rcases look_tup pr hks.1 ht with ⟨e1, e2⟩ | ⟨d, p, v, e1, e2, _⟩
        · rw [e2]; rw [e1] at k; exact ⟨.bl false, H, I.tok _, rfl, k _ H W (Ext.refl _ _) st (.bl _)⟩
        · rw [e2]; rw [e1] at k; exact ⟨.bl true, H, I.tok _, rfl, k _ H W (Ext.refl _ _) st (.bl _)⟩
  · have e : dIn a b = dIn0 a b := by
      cases b <;> first | rfl | exact absurd ⟨_, rfl⟩ hb
    exact opg_in0 hu pins s σ H x y v u Q I rx ry ⟨W, S, a, b, d, st, ra, rb, by rw [← e]; exact hf, k⟩
theorem opg_notin (hu : X.A.units + 64 < cLine) : OpR X (compareOp .NotIn) (rG2 (cn X g) dNotIn) := by
  intro pins s σ H x y v u Q I rx ry ⟨W, S, a, b, d, st, ra, rb, hf, k⟩
  by_cases hb : ∃ l, b = .dct l
  · obtain ⟨l, rfl⟩ := hb
    have hf2 : (if keyOkB l a = true then some (D.bl (!(lookD l a).isSome)) else none) = some d := hf
    by_cases ok : keyOkB l a = true
    case neg => rw [if_neg ok] at hf2; cases hf2
    rw [if_pos ok] at hf2
    cases hf2
    obtain ⟨c, rfl, hsys, hlen, hks, hform⟩ := dic_form I st.sh rb
    cases (show u = Value.ref c from ry)
    have ht := (keyOk_iff ok).1
    rcases hform a ok with ⟨hs, ys, dd, pr⟩ | ⟨hs, ys, dd, pr⟩
    · rcases key_val ra rx ht with ⟨_, z, t, rfl, rfl, _⟩ | ⟨h2, _⟩
      · refine wpAny_notIn_of (knd := strKind X.prog X.w) (k := z) (by show Value.isStrOf z (.str z t) = true; simp [Value.isStrOf]) hsys dd.mapOf ?_
        rcases look_str (x := z) pr with ⟨e1, e2⟩ | ⟨d, u, v, e1, e2, _⟩
        · rw [e2]; rw [e1] at k; exact ⟨.bl true, H, I.tok _, rfl, k _ H W (Ext.refl _ _) st (.bl _)⟩
        · rw [e2]; rw [e1] at k; exact ⟨.bl false, H, I.tok _, rfl, k _ H W (Ext.refl _ _) st (.bl _)⟩
      · rw [hs] at h2; cases h2
    · rcases key_val ra rx ht with ⟨h2, _⟩ | ⟨_, b, rfl, rb2⟩
      · rw [hs] at h2; cases h2
      · refine PyProof.Rows.wpAny_notIn_heap (roomN hu) (key_is I st.sh ht rb2) hsys dd ?_
        rcases look_tup pr hks.1 ht with ⟨e1, e2⟩ | ⟨d, p, v, e1, e2, _⟩
        · rw [e2]; rw [e1] at k; exact ⟨.bl true, H, I.tok _, rfl, k _ H W (Ext.refl _ _) st (.bl _)⟩
        · rw [e2]; rw [e1] at k; exact ⟨.bl false, H, I.tok _, rfl, k _ H W (Ext.refl _ _) st (.bl _)⟩
  · have e : dNotIn a b = dNotIn0 a b := by
      cases b <;> first | rfl | exact absurd ⟨_, rfl⟩ hb
    exact opg_notin0 hu pins s σ H x y v u Q I rx ry ⟨W, S, a, b, d, st, ra, rb, by rw [← e]; exact hf, k⟩
/-- d[k], k there -/
theorem dic_get (hu : X.A.units + 64 < cLine) {l : List (D × D)} {a d : D} {x y : V} {v u : Value} {S : Sto} {Q : VK} (I : Inv X pins σ H s) (st : StoOk W S H) (ra : RepB (cn X g) W H x (.dct l)) (rb : RepB (cn X g) W H y a) (rx : RelV x v) (ry : RelV y u) (ok : keyOkB l a = true) (hf : lookD l a = some d)
    (k : ∀ v, Rep (cn X g) W v d → Q v H) : s.TypeIs v "dict" ∧ wpAny (model X.prog X.w) X.A (getItem v u) (EP X pins σ Q) X.xe s := by
  obtain ⟨c, rfl, hsys, hlen, hks, hform⟩ := dic_form I st.sh ra
  cases (show v = Value.ref c from rx)
  have ht := (keyOk_iff ok).1
  rcases hform a ok with ⟨hs, ys, dd, pr⟩ | ⟨hs, ys, dd, pr⟩
  · rcases key_val rb ry ht with ⟨_, z, t, rfl, rfl, _⟩ | ⟨h2, _⟩
    · rcases look_str (x := z) pr with ⟨e1, e2⟩ | ⟨d', u, v, e1, e2, e3, e4⟩
      · rw [e1] at hf; cases hf
      · rw [e1] at hf
        cases hf
        exact ⟨dd.typeIs, wpAny_getItem_of (knd := strKind X.prog X.w) (k := z) (by show Value.isStrOf z (.str z t) = true; simp [Value.isStrOf]) dd.mapOf e2 ⟨v, H, I.tok _, e4, k v e3⟩⟩
    · rw [hs] at h2; cases h2
  · rcases key_val rb ry ht with ⟨h2, _⟩ | ⟨_, b, rfl, rb2⟩
    · rw [hs] at h2; cases h2
    · rcases look_tup pr hks.1 ht with ⟨e1, e2⟩ | ⟨d', p, v, e1, e2, e3, e4⟩
      · rw [e1] at hf; cases hf
      · rw [e1] at hf
        cases hf
        exact ⟨dd.typeIs, wpAny_getItem_heap (roomN hu) (key_is I st.sh ht rb2) dd e2 ⟨v, H, I.tok _, e4, k v e3⟩⟩
/-- d.get(k, x) -/
theorem dic_get2 (hu : X.A.units + 64 < cLine) {l : List (D × D)} {a z : D} {x y yz : V} {v u uz : Value} {S : Sto} {Q : VK} (I : Inv X pins σ H s) (st : StoOk W S H) (ra : RepB (cn X g) W H x (.dct l)) (rb : RepB (cn X g) W H y a) (rz : Rep (cn X g) W yz z) (rx : RelV x v) (ry : RelV y u) (ryz : RelV yz uz) (ok : keyOkB l a = true)
    (k : ∀ v, Rep (cn X g) W v ((lookD l a).getD z) → Q v H) : wpAny (model X.prog X.w) X.A (call (.builtin "dict.get") [v, u, uz]) (EP X pins σ Q) X.xe s := by
  obtain ⟨c, rfl, hsys, hlen, hks, hform⟩ := dic_form I st.sh ra
  cases (show v = Value.ref c from rx)
  have ht := (keyOk_iff ok).1
  rcases hform a ok with ⟨hs, ys, dd, pr⟩ | ⟨hs, ys, dd, pr⟩
  · rcases key_val rb ry ht with ⟨_, z, t, rfl, rfl, _⟩ | ⟨h2, _⟩
    · refine call_meetsIn PySem.F.slot_dict_get dd.typeIs PySem.F.entry_dict_get (PySem.F.args_dict_get_3 _ _ _) (meets_dict_get_default (strKind X.prog X.w) c (k := z) (by show Value.isStrOf z (.str z t) = true; simp [Value.isStrOf]) hsys uz) ⟨_, dd.mapOf, ?_⟩
      rcases look_str (x := z) pr with ⟨e1, e2⟩ | ⟨d', u, v, e1, e2, e3, e4⟩
      · rw [e1] at k; rw [e2]; exact ⟨yz, H, I.tok _, ryz, k yz rz⟩
      · rw [e1] at k; rw [e2]; exact ⟨v, H, I.tok _, e4, k v e3⟩
    · rw [hs] at h2; cases h2
  · rcases key_val rb ry ht with ⟨h2, _⟩ | ⟨_, b, rfl, rb2⟩
    · rw [hs] at h2; cases h2
    · refine call_meetsIn PySem.F.slot_dict_get dd.typeIs PySem.F.entry_dict_get (PySem.F.args_dict_get_3 _ _ _) (meetsH_dict_get_default (nestedKind X.prog X.w) c b hsys uz) ⟨roomN hu, _, ys, key_is I st.sh ht rb2, dd, ?_⟩
      rcases look_tup pr hks.1 ht with ⟨e1, e2⟩ | ⟨d', p, v, e1, e2, e3, e4⟩
      · rw [e1] at k; rw [e2]; exact ⟨yz, H, I.tok _, ryz, k yz rz⟩
      · rw [e1] at k; rw [e2]; exact ⟨v, H, I.tok _, e4, k v e3⟩
/-- the dict's object, new -/
theorem dicO_new {H : Hp} {h : Heap} {a : Addr} {xs : List (NestedKey × V × V)} {o : Obj} {es : Array DictEntry} {ep : Nat} (h1 : h.get? a = some o) (h2 : o.ExactDict) (h3 : o.data = .dict es ep) (h4 : Paired (EntR X.w) xs es.toList) : ObjOk X.prog X.w H h a (dicO X.w a o xs) :=
  ⟨⟨h1, h2, es, ep, h3, h4⟩, ⟨o, h1⟩, fun _ _ ⟨q1, q2⟩ kp => ⟨kp _ q1, q2⟩⟩
/-- d[k] = x, the dict owned -/
theorem dic_put (hu : X.A.units + 64 < cLine) {l : List (D × D)} {a z : D} {c : Addr} {y yz : V} {u uz : Value} {S : Sto} {Q : Unit → Shared → Prop} (I : Inv X pins σ H s) (st : StoOk W S H) (ro : OwnAt (cn X g) W H c (.dct l)) (hn1 : W.Hs c = none) (hn2 : W.L ≠ some c) (rb : RepB (cn X g) W H y a) (rz : Rep (cn X g) W yz z) (ry : RelV y u) (ryz : RelV yz uz) (ok : keyOkB l a = true) (hl : l.length < sizeLine)
    (k : ∀ (s' : Shared) (o : Obj) (xs : List (NestedKey × V × V)), Inv X pins σ (upd H c (dicO X.w c o xs)) s' → OwnAt (cn X g) W (upd H c (dicO X.w c o xs)) c (.dct (putD l a z)) → Q () s') : wpAny (model X.prog X.w) X.A (setItem (.ref c) u uz) Q X.xe s := by
  have hH : ∃ o xs, H c = some (dicO X.w c o xs) := let ⟨o, xs, h, _⟩ := ro; ⟨o, xs, h⟩
  obtain ⟨o0, xs0, hH⟩ := hH
  obtain ⟨c', hc', hsys, hlen, hks, hform⟩ := dic_form I st.sh (.inr ⟨c, rfl, ro, hn1, hn2⟩)
  cases hc'
  have ht := (keyOk_iff ok).1
  have mu : Mut (H c) := by rw [hH]; exact True.intro
  have fin : ∀ (h' : Heap) (tk : Nat) (xs : List (NestedKey × V × V)) (o : Obj) (es : Array DictEntry) (ep : Nat), h'.get? c = some o → o.ExactDict → o.data = .dict es ep → Heap.SameBut c s.heap h' → Paired (RowR (cn X g) W) (putD l a z) xs → Paired (EntR X.w) xs es.toList → Q () { s with heap := h', toks := tk } := by
    intro h' tk xs o es ep q1 q2 q3 q4 q5 q6
    refine k _ o xs (d_write I mu q4 ⟨o, q1⟩ (dicO_new q1 q2 q3 q6)) ?_
    obtain ⟨e1, e2, e3⟩ := rows_to q5
    refine ⟨o, xs, upd_same, ?_, hsys, put_keys hks ok, e1, e2, e3⟩
    rw [paired_len q5]
    have := put_len l a z
    omega
  rcases hform a ok with ⟨hs, ys, dd, pr⟩ | ⟨hs, ys, dd, pr⟩
  · rcases key_val rb ry ht with ⟨_, x, t, rfl, rfl, hx⟩ | ⟨h2, _⟩
    · refine wpAny_setItem_pairs (knd := strKind X.prog X.w) (k := x) (hsz := by rw [paired_len pr]; omega) (by show Value.isStrOf x (.str x t) = true; simp [Value.isStrOf]) dd fun h' dd' hsb => ?_
      obtain ⟨o, es, ep, q1, q2, q3, q4, q5, _⟩ := dd'
      obtain ⟨xs, r1, r2⟩ := str_back (put_str pr hx rz ryz) (fun e m => q4 e (Array.mem_toList_iff.mp m)) q5
      exact fin h' _ xs o es ep q1 q2 q3 hsb r1 r2
    · rw [hs] at h2; cases h2
  · rcases key_val rb ry ht with ⟨h2, _⟩ | ⟨_, b, rfl, rb2⟩
    · rw [hs] at h2; cases h2
    · refine wpAny_setItem_heap (hsz := by rw [paired_len pr]; omega) (roomN hu) (key_is I st.sh ht rb2) dd fun h' dd' hsb => ?_
      obtain ⟨o, es, ep, q1, q2, q3, q4, _, _⟩ := dd'
      obtain ⟨xs, r1, r2⟩ := tup_back (X := X) (put_tup pr hks.1 ht rb2 rz ryz)
      rw [← q4] at r2
      exact fin h' _ xs o es ep q1 q2 q3 hsb r1 r2
/-- the keys, as they stand -/
theorem dic_keys (I : Inv X pins σ H s) (sh : Same W.Hs H) {v : V} {l : List (D × D)} (r : RepB (cn X g) W H v (.dct l)) : ∃ a es ep, v = .ref a ∧ (a == sysModules) = false ∧ es.size = l.length ∧ es.size ≤ sizeLine ∧ s.heap.DictRaw a es ep ∧ ∃ vs, Vals vs (es.toList.map (·.key)) ∧ Reps (cn X g) W vs (l.map (·.1)) := by
  obtain ⟨a, o, xs, rfl, h1, h2, h3, h4, h5, h6, h7⟩ := r.dct sh
  obtain ⟨es, ep, ho, hx, hd, ent⟩ := dic_raw I h1
  have hlen : xs.length = l.length := paired_len (rows_of h5 h6 h7)
  have hl2 : es.size = xs.length := by rw [← Array.length_toList]; exact paired_len ent
  refine ⟨a, es, ep, rfl, h3, by omega, by omega, ⟨o, ho, hx, hd⟩, xs.map (·.2.1), ?_, h6⟩
  have go : ∀ {xs : List (NestedKey × V × V)} {es : List DictEntry}, Paired (EntR X.w) xs es → Vals (xs.map (·.2.1)) (es.map (·.key)) := by
    intro xs es p
    induction p with
    | nil => exact .nil
    | cons h _ ih => exact .cons h.2.1 ih
  exact go ent
end
end G
/-! G7: expressions. -/
namespace G
open PySem L2
/-- a fresh list, of its own -/
def RepF (C : Cn) (W : Wd) (H : Hp) (W' : Wd) (H' : Hp) (v : V) (d : D) : Prop := ∃ a, v = .ref a ∧ OwnAt C W' H' a d ∧ W'.Hs a = none ∧ W'.L ≠ some a ∧ H a = none
def tF (C : Cn) (E : XK) (m : Fr → M D) : TE := fun σ H Q => ∃ (H0 : Hp) (ρ : Fr) (S : Sto) (W : Wd), Frm C H0 W ρ σ H ∧ StoOk W S H ∧ Pst C E W H (m ρ S) fun d _ W' H' => ∀ v, RepF C W H W' H' v d → Q v H'
section
variable {C : Cn} {E : XK} {α β : Type} {W W1 : Wd} {H H1 : Hp} {S : Sto}
theorem Pst.imp' {r : Res α} {k k' : α → Sto → Wd → Hp → Prop} (h : Pst C E W H r k) (f : ∀ a S W' H', r = .ok a S → Ext W H W' H' → StoOk W' S H' → k a S W' H' → k' a S W' H') : Pst C E W H r k' := by
  cases r with
  | ok a S => exact fun H' W' e' s => f _ _ _ _ rfl e' s (h H' W' e' s)
  | exc c S => exact h
  | bad => exact h
/-- an owned object becomes shared -/
theorem Ext.freeze {W' : Wd} {H' : Hp} {a : Addr} {o : HO} (e : Ext W H W' H') (ha : H a = none) (hs : W'.Hs a = none) : Ext W H ⟨upd W'.Hs a o, W'.L⟩ H' := by
  refine ⟨⟨fun b u q => ?_, e.le.lo⟩, fun b h1 h2 => ?_, e.nl, e.kp, e.al⟩
  · have q' := e.le.sh b u q
    show upd W'.Hs a o b = some u
    rw [upd_ne (ne_of_none q' hs)]; exact q'
  · by_cases hb : b = a
    · rw [hb]; exact ha
    · rw [show (⟨upd W'.Hs a o, W'.L⟩ : Wd).Hs b = W'.Hs b from upd_ne hb] at h2
      exact e.nw b h1 h2
theorem StoOk.freeze {W' : Wd} {H' : Hp} {a : Addr} {o : HO} (s : StoOk W' S H') (ha : H' a = some o) (hl : W'.L ≠ some a) : StoOk ⟨upd W'.Hs a o, W'.L⟩ S H' := by
  refine ⟨fun b u q => ?_, fun b h => ?_, s.sn⟩
  · by_cases hb : b = a
    · rw [hb, show (⟨upd W'.Hs a o, W'.L⟩ : Wd).Hs a = some o from upd_same] at q
      rw [hb, ha]; exact q
    · rw [show (⟨upd W'.Hs a o, W'.L⟩ : Wd).Hs b = W'.Hs b from upd_ne hb] at q
      exact s.sh b u q
  · obtain ⟨h1, h2⟩ := s.tw b h
    refine ⟨h1, ?_⟩
    have : b ≠ a := fun z => hl (by rw [← z]; exact h)
    show upd W'.Hs a o b = none
    rw [upd_ne this]; exact h2
theorem OwnAt.freeze {W' : Wd} {H' : Hp} {a : Addr} {d : D} (h : OwnAt C W' H' a d) (hs : W'.Hs a = none) : ∃ o, H' a = some o ∧ Rep C ⟨upd W'.Hs a o, W'.L⟩ (.ref a) d := by
  cases d with
  | lst ds =>
    obtain ⟨vs, h1, h2, h3⟩ := h
    have le : WLe W' ⟨upd W'.Hs a (.lst vs), W'.L⟩ := ⟨fun b u q => by
      show upd W'.Hs a _ b = some u
      rw [upd_ne (ne_of_none q hs)]; exact q, .inr rfl⟩
    exact ⟨_, h1, .lst upd_same h2 (h3.mono le)⟩
  | dct l =>
    obtain ⟨ob, xs, h1, h2, h3, h4, h5, h6, h7⟩ := h
    have le : WLe W' ⟨upd W'.Hs a (dicO C.w a ob xs), W'.L⟩ := ⟨fun b u q => by
      show upd W'.Hs a _ b = some u
      rw [upd_ne (ne_of_none q hs)]; exact q, .inr rfl⟩
    exact ⟨_, h1, .dct upd_same h2 h3 h4 h5 (h6.mono le) (h7.mono le)⟩
  | _ => exact h.elim
end
section
variable {X : Cx} {C : Cn} {E : XK} {e : Expr} {m : Fr → M D}
theorem PE.ofF (h : PE X e (tF C E m)) : PE X e (tE C E m) := PE.imp h fun σ H Q q => by
  obtain ⟨H0, ρ, S, W, fr, st, p⟩ := q
  refine ⟨H0, ρ, S, W, fr, st, ?_⟩
  cases r : m ρ S with
  | bad => rw [r] at p; exact p
  | exc c S1 => rw [r] at p; exact p
  | ok d S1 =>
    rw [r] at p
    intro H' W' e1 s1 v ⟨a, h1, h2, h3, h4, h5⟩
    obtain ⟨o, ho, hr⟩ := h2.freeze h3
    rw [h1]
    exact p H' _ (e1.freeze h5 h3) (s1.freeze ho h4) _ hr
end
/-! ### names, constants -/
section
variable {X : Cx} {g : Gi} {E : XK} {pos : Pos}
theorem q_var {i : Nat} {x : Str} (hN : X.N[i]? = some x) (hv : Vis X.env.scope x) (hd : (x == ("__debug__" : Str)) = false) (hcd : (x == ("__classdict__" : Str)) = false) :
    PE X (.Name x pos) (tE (cn X g) E fun ρ => match ρ[i]? with | some (some (.sh d)) => ret d | _ => fail) := PE.imp (pe_var hN hv hd hcd) fun σ H Q q => by
  obtain ⟨H0, ρ, S, W, fr, st, p⟩ := q
  cases hh : ρ[i]? with
  | none => simp only [hh] at p; exact p.elim
  | some o =>
    cases o with
    | none => simp only [hh] at p; exact p.elim
    | some sl =>
      cases sl with
      | ow d => simp only [hh] at p; exact p.elim
      | sh d =>
        simp only [hh] at p
        obtain ⟨v, h1, h2⟩ := fr.sh i d hh
        exact ⟨v, h1, p.okk st v h2⟩
theorem q_brw {i : Nat} {x : Str} (hN : X.N[i]? = some x) (hv : Vis X.env.scope x) (hd : (x == ("__debug__" : Str)) = false) (hcd : (x == ("__classdict__" : Str)) = false) :
    PE X (.Name x pos) (tB (cn X g) E fun ρ => match ρ[i]? with | some (some (.ow d)) => ret d | some (some (.sh d)) => ret d | _ => fail) := PE.imp (pe_var hN hv hd hcd) fun σ H Q q => by
  obtain ⟨H0, ρ, S, W, fr, st, p⟩ := q
  cases hh : ρ[i]? with
  | none => simp only [hh] at p; exact p.elim
  | some o =>
    cases o with
    | none => simp only [hh] at p; exact p.elim
    | some sl =>
      cases sl with
      | ow d =>
        simp only [hh] at p
        obtain ⟨a, h1, h2, h3, h4, h5⟩ := fr.ow i d hh
        exact ⟨_, h1, p.okk st _ (.inr ⟨a, rfl, h2, h3, h4⟩)⟩
      | sh d =>
        simp only [hh] at p
        obtain ⟨v, h1, h2⟩ := fr.sh i d hh
        exact ⟨v, h1, p.okk st v (.inl h2)⟩
theorem q_c {e : Expr} {v : V} {d : D} (h : PE X e (tC v)) (r : ∀ W, Rep (cn X g) W v d) : PE X e (tE (cn X g) E fun _ => ret d) := PE.imp h fun σ H Q q => by
  obtain ⟨H0, ρ, S, W, fr, st, p⟩ := q
  exact p.okk st v (r W)
theorem q_neg {k : Int} {j : Nat} {p : Pos} : PE X (.UnaryOp .USub (.Constant (.int k) j p) pos) (tE (cn X g) E fun _ => ret (.int (-k))) := PE.imp (pe_un un_neg pe_int) fun σ H Q q => by
  obtain ⟨H0, ρ, S, W, fr, st, p⟩ := q
  exact ⟨k, rfl, p.okk st _ (.int _)⟩
/-- code that is never reached -/
theorem q_nev {e : Expr} : PE X e (tE (cn X g) E fun _ => fail) := ⟨fun pins s σ H Q I q => by
  obtain ⟨H0, ρ, S, W, fr, st, p⟩ := q
  exact p.elim⟩
end
/-! ### arguments -/
section
variable {X : Cx} {g : Gi} {E : XK} {pos : Pos} {e : Expr} {es : List Expr} {m : Fr → M D} {ms : Fr → M (List D)}
theorem a_nil : PA X [] (tA (cn X g) E fun _ => ret []) := PA.imp pa_nil fun σ H Q q => by
  obtain ⟨H0, ρ, S, W, fr, st, p⟩ := q
  exact p.okk st _ .nil
theorem ab_nil : PA X [] (tAB (cn X g) E fun _ => ret []) := PA.imp pa_nil fun σ H Q q => by
  obtain ⟨H0, ρ, S, W, fr, st, p⟩ := q
  exact p.okk st _ .nil
theorem a_cons (h : PE X e (tE (cn X g) E m)) (hs : PA X es (tA (cn X g) E ms)) (hst : starEach (e :: es) X.env = (false, eval e X.env) :: starEach es X.env) :
    PA X (e :: es) (tA (cn X g) E fun ρ => bnd (m ρ) fun d => bnd (ms ρ) fun ds => ret (d :: ds)) := PA.imp (pa_cons h hs hst) fun σ H Q q => by
  obtain ⟨H0, ρ, S, W, fr, st, p⟩ := q
  refine ⟨H0, ρ, S, W, fr, st, (Pst.fst p).imp fun d S1 W1 H1 e1 s1 p1 v r => ?_⟩
  refine ⟨H0, ρ, S1, W1, fr.ext e1, s1, (Pst.fst p1).imp fun ds S2 W2 H2 e2 s2 p2 vs rs => ?_⟩
  exact p2.okk s2 _ (.cons (r.mono e2.le) rs)
theorem ab_cons (h : PE X e (tB (cn X g) E m)) (hs : PA X es (tAB (cn X g) E ms)) (hst : starEach (e :: es) X.env = (false, eval e X.env) :: starEach es X.env) :
    PA X (e :: es) (tAB (cn X g) E fun ρ => bnd (m ρ) fun d => bnd (ms ρ) fun ds => ret (d :: ds)) := PA.imp (pa_cons h hs hst) fun σ H Q q => by
  obtain ⟨H0, ρ, S, W, fr, st, p⟩ := q
  refine ⟨H0, ρ, S, W, fr, st, (Pst.fst p).imp fun d S1 W1 H1 e1 s1 p1 v r => ?_⟩
  refine ⟨H0, ρ, S1, W1, fr.ext e1, s1, (Pst.fst p1).imp fun ds S2 W2 H2 e2 s2 p2 vs rs => ?_⟩
  exact p2.okk s2 _ (.cons (r.ext e2) rs)
/-- (a, b, ..) -/
theorem q_tup {k : Nat} (hs : PA X es (tA (cn X g) E ms)) (hl : ∀ ρ S ds S', ms ρ S = .ok ds S' → ds.length ≤ sizeLine) : PE X (.Tuple es k pos) (tE (cn X g) E fun ρ => bnd (ms ρ) fun ds => ret (.tup ds)) := PE.imp (pe_tup hs) fun σ H Q q => by
  obtain ⟨H0, ρ, S, W, fr, st, p⟩ := q
  refine ⟨H0, ρ, S, W, fr, st, (Pst.fst p).imp' fun ds S1 W1 H1 hm e1 s1 p1 vs rs => ?_⟩
  have hz : vs.length ≤ sizeLine := by rw [rs.length]; exact hl _ _ _ _ hm
  exact ⟨hz, fun q hq => p1 _ _ (Ext.laid s1.sh hq) (s1.laid hq) _ (Rep.newT hq s1.sh hz rs)⟩
/-- [a, b, ..] -/
theorem f_lst (hs : PA X es (tA (cn X g) E ms)) (hl : ∀ ρ S ds S', ms ρ S = .ok ds S' → ds.length ≤ sizeLine) : PE X (.List es pos) (tF (cn X g) E fun ρ => bnd (ms ρ) fun ds => ret (.lst ds)) := PE.imp (pe_lst hs) fun σ H Q q => by
  obtain ⟨H0, ρ, S, W, fr, st, p⟩ := q
  refine ⟨H0, ρ, S, W, fr, st, (Pst.fst p).imp' fun ds S1 W1 H1 hm e1 s1 p1 vs rs => ?_⟩
  have hz : vs.length ≤ sizeLine := by rw [rs.length]; exact hl _ _ _ _ hm
  refine ⟨hz, fun q hq => p1 _ W1 (Ext.own hq) (s1.own (s1.sh.free hq) fun z => ?_) _ ⟨q, rfl, ⟨vs, upd_same, hz, rs⟩, s1.sh.free hq, fun z => ?_, ?_⟩⟩
  · rw [(s1.tw q z).1] at hq; cases hq
  · rw [(s1.tw q z).1] at hq; cases hq
  · cases q' : H q with
    | none => rfl
    | some o => exact absurd hq (e1.al q (by rw [q']; simp))
end
/-! ### built-ins called, items, slices -/
section
variable {X : Cx} {g : Gi} {E : XK} {pos p : Pos} {e a b : Expr} {es : List Expr} {m ma mb : Fr → M D} {ms : Fr → M (List D)} {f : List D → Option D} {x : Str} {id T : String}
theorem call_data {σ : L2.St} {H : Hp} {Q : VK} (q : tE (cn X g) E (fun ρ => bnd (ms ρ) fun ds => opt (f ds)) σ H Q) : tCB (rGc (cn X g) f) (tAB (cn X g) E ms) σ H Q := by
  obtain ⟨H0, ρ, S, W, fr, st, p⟩ := q
  refine ⟨H0, ρ, S, W, fr, st, (Pst.fst p).imp fun ds S1 W1 H1 e1 s1 p1 vs rs => ?_⟩
  obtain ⟨d, hd, p2⟩ := p1.opt
  exact ⟨W1, S1, ds, d, s1, rs, hd, fun v H' W' e2 s2 r => p2 H' W' e2 s2 v r⟩
theorem q_callB (hc : CallR X (.builtin id) (rGc (cn X g) f)) (hg : Gl X x) (hm : X.mg x = none) (hv : bootBuiltins x = some (.builtin id)) (ha : PA X (e :: es) (tAB (cn X g) E ms)) (hn : x ≠ "__name__") (hdb : (x == ("__debug__" : Str)) = false)
    (he : starEach (e :: es) X.env = (false, eval e X.env) :: starEach es X.env) (hpl : (backTo pos (starEach es X.env)).any (·.1) = false) : PE X (.Call (.Name x p) (e :: es) [] pos) (tE (cn X g) E fun ρ => bnd (ms ρ) fun ds => opt (f ds)) :=
  PE.imp (pe_callB hc hg hm hv ha hn hdb he hpl) fun _ _ _ q => call_data q
theorem q_callTy (hc : CallR X (.type T) (rGc (cn X g) f)) (hg : Gl X x) (hm : X.mg x = none) (hv : bootBuiltins x = some (.type T)) (ha : PA X (e :: es) (tAB (cn X g) E ms)) (hn : x ≠ "__name__") (hdb : (x == ("__debug__" : Str)) = false)
    (he : starEach (e :: es) X.env = (false, eval e X.env) :: starEach es X.env) (hpl : (backTo pos (starEach es X.env)).any (·.1) = false) : PE X (.Call (.Name x p) (e :: es) [] pos) (tE (cn X g) E fun ρ => bnd (ms ρ) fun ds => opt (f ds)) :=
  PE.imp (pe_callTy hc hg hm hv ha hn hdb he hpl) fun _ _ _ q => call_data q
theorem ixg (hu : X.A.units + 64 < cLine) : IxR X (rG2 (cn X g) dIdx) := by
  intro vl sli pins s σ H x y v u Q I rx ry ⟨W, S, a, b, d, st, ra, rb, hf, k⟩ hpl
  by_cases hb : ∃ l, a = .dct l
  · obtain ⟨l, rfl⟩ := hb
    have hf2 : (if keyOkB l b = true then lookD l b else none) = some d := hf
    by_cases ok : keyOkB l b = true
    case neg => rw [if_neg ok] at hf2; cases hf2
    rw [if_pos ok] at hf2
    obtain ⟨t1, t2⟩ := dic_get hu I st ra rb rx ry ok hf2 fun v r => k v H W (Ext.refl _ _) st r
    unfold PyProof.Rows.subscriptTail
    refine wpAny_bind ?_
    rw [getitemInPython_of_ne t1.not_modules]
    refine wpAny_bind (wpAny_specialOf t1 PySem.F.slot_dict_getitem.lookup ?_)
    have fin : wpAny (model X.prog X.w) X.A (subscripted sli false v u) (fun r s₃ => wpAny (model X.prog X.w) X.A (letTemporaryGo vl v r >>= fun _ => pure r) (EP X pins σ Q) X.xe s₃) X.xe s := by
      rw [hpl]
      exact wpAny_operating (wpAny_mono t2 (fun r s₃ h₃ => wpAny_bind (wpAny_letTemporaryGo (wpAny_pure h₃))) fun _ _ x => x)
    first
      | exact wpAny_pure (wpAny_bind fin)
      | exact wpAny_bind (wpAny_pure (wpAny_bind fin))
      | exact wpAny_bind fin
  cases a <;> cases b <;> first | (cases hf; done) | exact absurd ⟨_, rfl⟩ hb | skip
  · obtain ⟨rfl, l1, o1⟩ := ra.str
    obtain rfl := rb.int
    obtain ⟨c, hc, rfl⟩ := Option.map_eq_some_iff.mp hf
    refine ix_str vl sli pins s σ H _ _ v u Q I rx ry ⟨_, _, c, rfl, rfl, l1, hc, k _ H W (Ext.refl _ _) st (.str _ ?_ ?_)⟩ hpl
    · show 1 ≤ sizeLine
      rw [sizeLine_eq]; decide
    · obtain ⟨j, _, hj, _⟩ := atI_get hc
      unfold PyData.strOk at *
      rw [Array.all_eq_true_iff_forall_mem] at o1
      have := o1 c (by
        rw [← Array.mem_toList_iff]
        exact List.mem_of_getElem? hj)
      simpa using this
  · obtain ⟨p, vs, rfl, hq, hz, r1⟩ := ra.tup st.sh
    obtain rfl := rb.int
    rename_i l i
    have hf : atI l i = some d := hf
    unfold atI at hf
    obtain ⟨j, h1, h2⟩ := Option.bind_eq_some_iff.mp hf
    obtain ⟨w, hw, rw'⟩ := r1.get h2
    exact ix_tup vl sli pins s σ H _ _ v u Q I rx ry ⟨p, vs, i, w, rfl, rfl, hq, by unfold atI; rw [r1.length, h1]; exact hw, k _ H W (Ext.refl _ _) st rw'⟩ hpl
  · obtain ⟨p, vs, rfl, hq, hz, r1⟩ := ra.lst st.sh
    obtain rfl := rb.int
    rename_i l i
    have hf : atI l i = some d := hf
    unfold atI at hf
    obtain ⟨j, h1, h2⟩ := Option.bind_eq_some_iff.mp hf
    obtain ⟨w, hw, rw'⟩ := r1.get h2
    exact ix_list vl sli pins s σ H _ _ v u Q I rx ry ⟨p, vs, i, w, rfl, rfl, SqL.of hq, by unfold atI; rw [r1.length, h1]; exact hw, k _ H W (Ext.refl _ _) st rw'⟩ hpl
  · obtain ⟨p, rfl, hq, hz⟩ := ra.scr st.sh
    obtain rfl := rb.int
    rename_i l i
    obtain ⟨n, hn, rfl⟩ := Option.map_eq_some_iff.mp hf
    unfold atI at hn
    obtain ⟨j, h1, h2⟩ := Option.bind_eq_some_iff.mp hn
    exact ix_list vl sli pins s σ H _ _ v u Q I rx ry ⟨p, _, i, .int n, rfl, rfl, hq, by unfold atI; rw [List.length_map, h1]; show (l.map V.int)[j]? = _; rw [List.getElem?_map, h2]; rfl, k _ H W (Ext.refl _ _) st (.int _)⟩ hpl
theorem q_idx (hu : X.A.units + 64 < cLine) (ha : PE X a (tB (cn X g) E ma)) (hb : PE X b (tB (cn X g) E mb)) (hs : PlainIx b) : PE X (.Subscript a b pos) (tE (cn X g) E fun ρ => bnd (ma ρ) fun x => bnd (mb ρ) fun y => opt (dIdx x y)) :=
  PE.imp (pe_ix (ixg hu) ha hb hs) fun _ _ _ h => two h
abbrev rGs (C : Cn) (f : D → Option Int → Option Int → Option D) : V → Option Int → Option Int → Hp → VK → Prop := fun x lo hi H Q => ∃ (W : Wd) (S : Sto) (a d : D), StoOk W S H ∧ RepB C W H x a ∧ f a lo hi = some d ∧ ∀ v H' W', Ext W H W' H' → StoOk W' S H' → Rep C W' v d → Q v H'
theorem Reps.cut {C : Cn} {W : Wd} {vs : List V} {ds : List D} (h : Reps C W vs ds) (lo hi : Option Int) : Reps C W (cutV vs lo hi) (cutL ds lo hi) := by
  unfold cutV cutL
  rw [h.length]
  exact (h.drop _).take _
theorem slg : SlR X (rGs (cn X g) dSl) := by
  intro pins s σ H x v vl vu lo hi sl Q I rx hsl pl pu ⟨W, S, a, d, st, ra, hf, k⟩
  cases a <;> first | (cases hf; done) | skip
  all_goals cases hf
  · obtain ⟨p, vs, rfl, hq, hz, r1⟩ := ra.tup st.sh
    rename_i l
    refine sl_tupA pins s σ H _ v vl vu lo hi sl Q I rx hsl pl pu ⟨p, vs, rfl, hq, fun z => ?_, fun _ q hq' => ?_⟩
    · have e : cutL l lo hi = l := by
        unfold cutL
        rw [r1.length] at z
        rw [z.1, z.2]
        simp
      rw [e] at k
      exact k _ H W (Ext.refl _ _) st (ra.flat rfl)
    · exact k _ _ _ (Ext.laid st.sh hq') (st.laid hq') (Rep.newT hq' st.sh (Nat.le_trans (cutV_length _ _ _) hz) (r1.cut lo hi))
  · obtain ⟨p, vs, rfl, hq, hz, r1⟩ := ra.lst st.sh
    exact sl_list pins s σ H _ v vl vu lo hi sl Q I rx hsl pl pu ⟨p, vs, rfl, SqL.of hq, fun q hq' =>
      k _ _ _ (Ext.laid st.sh hq') (st.laid hq') (Rep.newL hq' st.sh (Nat.le_trans (cutV_length _ _ _) hz) (r1.cut lo hi))⟩
def tO (C : Cn) (E : XK) (m : Fr → M (Option Int)) : TO := fun σ H Q => ∃ (H0 : Hp) (ρ : Fr) (S : Sto) (W : Wd), Frm C H0 W ρ σ H ∧ StoOk W S H ∧ Pst C E W H (m ρ S) fun d _ W' H' => Q d H'
theorem PO.imp {X : Cx} {e : Option Expr} {t t' : TO} (h : PO X e t) (f : ∀ σ H Q, t' σ H Q → t σ H Q) : PO X e t' := ⟨fun pins s σ H Q I q => h.run pins s σ H Q I (f σ H Q q)⟩
theorem o_none : PO X none (tO (cn X g) E fun _ => ret none) := PO.imp po_none fun σ H Q q => by
  obtain ⟨H0, ρ, S, W, fr, st, p⟩ := q
  exact p.okk st
theorem o_some (h : PE X e (tE (cn X g) E m)) : PO X (some e) (tO (cn X g) E fun ρ => bnd (m ρ) fun d => match d with | .int i => ret (some i) | _ => fail) := PO.imp (po_some h) fun σ H Q q => by
  obtain ⟨H0, ρ, S, W, fr, st, p⟩ := q
  refine ⟨H0, ρ, S, W, fr, st, (Pst.fst p).imp fun d S1 W1 H1 e1 s1 p1 v r => ?_⟩
  cases d <;> first | exact p1.elim | skip
  cases r
  exact ⟨_, rfl, p1.okk s1⟩
theorem q_sl {lo hi : Option Expr} {ml mh : Fr → M (Option Int)} (ha : PE X a (tB (cn X g) E ma)) (hl : PO X lo (tO (cn X g) E ml)) (hh : PO X hi (tO (cn X g) E mh)) :
    PE X (.Subscript a (.Slice lo hi none p) pos) (tE (cn X g) E fun ρ => bnd (ma ρ) fun x => bnd (ml ρ) fun l => bnd (mh ρ) fun h => opt (dSl x l h)) := PE.imp (pe_slice slg ha hl hh) fun σ H Q q => by
  obtain ⟨H0, ρ, S, W, fr, st, p⟩ := q
  refine ⟨H0, ρ, S, W, fr, st, (Pst.fst p).imp fun x S1 W1 H1 e1 s1 p1 v r => ?_⟩
  refine ⟨H0, ρ, S1, W1, fr.ext e1, s1, (Pst.fst p1).imp fun l S2 W2 H2 e2 s2 p2 => ?_⟩
  refine ⟨H0, ρ, S2, W2, (fr.ext e1).ext e2, s2, (Pst.fst p2).imp fun h S3 W3 H3 e3 s3 p3 => ?_⟩
  obtain ⟨d, hd, p4⟩ := p3.opt
  exact ⟨W3, S3, x, d, s3, (r.ext e2).ext e3, hd, fun v H' W' e5 s5 r5 => p4 H' W' e5 s5 v r5⟩
end
end G
/-! G8: tests, and, or, not, chains, calls of defs. -/
namespace G
open PySem L2
theorem PW.imp {X : Cx} {e : Expr} {t t' : TT} (h : PW X e t) (f : ∀ σ H Q, t' σ H Q → t σ H Q) : PW X e t' := ⟨fun wh pins s σ H Q I q => h.run wh pins s σ H Q I (f σ H Q q)⟩
section
variable {X : Cx} {g : Gi} {E : XK} {pos : Pos} {e a b c : Expr} {rest : List Expr} {m ma mb mc : Fr → M D}
theorem Rep.blD {C : Cn} {W : Wd} {v : V} {b : Bool} (r : Rep C W v (.bl b)) : v = .bl b := by cases r; rfl
theorem Pst.bl {β : Type} {C : Cn} {W : Wd} {H : Hp} {S : Sto} {d : D} {f : Bool → M β} {k : β → Sto → Wd → Hp → Prop} (h : Pst C E W H (bnd (blD d) f S) k) : ∃ b, d = .bl b ∧ Pst C E W H (f b S) k := by
  cases d <;> first | exact h.elim | skip
  exact ⟨_, rfl, h⟩
theorem t_val (h : PE X e (tE (cn X g) E m)) (he : ∀ whole, isTrue e X.env whole = (do let v ← whole; standAt e.pos; holding [v] (truthy v))) : PT X e (tT (cn X g) E m) := PT.imp (pt_val h he) fun σ H Q q => by
  obtain ⟨H0, ρ, S, W, fr, st, p⟩ := q
  refine ⟨H0, ρ, S, W, fr, st, p.imp fun d S1 W1 H1 e1 s1 p1 v r => ?_⟩
  obtain ⟨k, rfl, hq⟩ := p1
  exact ⟨k, r.blD, hq⟩
/-- a test over two in a row -/
theorem twoT {f : D → D → Option D} {σ : L2.St} {H : Hp} {Q : Bool → Hp → Prop} (h : tT (cn X g) E (fun ρ => bnd (ma ρ) fun x => bnd (mb ρ) fun y => opt (f x y)) σ H Q) :
    tTest (tOp (rG2 (cn X g) f) (tB (cn X g) E ma) (tB (cn X g) E mb)) σ H Q := by
  refine two (f := f) ?_
  obtain ⟨H0, ρ, S, W, fr, st, p⟩ := h
  refine ⟨H0, ρ, S, W, fr, st, p.imp fun d S1 W1 H1 e1 s1 p1 v r => ?_⟩
  obtain ⟨k, rfl, hq⟩ := p1
  exact ⟨k, r.blD, hq⟩
theorem t_cmp {op : CmpOp} {f : D → D → Option D} (ho : OpR X (compareOp op) (rG2 (cn X g) f)) (ha : PE X a (tB (cn X g) E ma)) (hb : PE X b (tB (cn X g) E mb)) (hm : behindInMarks op b = false) :
    PT X (.Compare a [op] [b] pos) (tT (cn X g) E fun ρ => bnd (ma ρ) fun x => bnd (mb ρ) fun y => opt (f x y)) :=
  PT.imp (pt_cmpR ho ha hb hm) fun _ _ _ h => twoT h
theorem t_not (ha : PT X a (tT (cn X g) E ma)) : PT X (.UnaryOp .Not a pos) (tT (cn X g) E fun ρ => bnd (ma ρ) fun x => bnd (blD x) fun k => ret (.bl (!k))) := PT.imp (pt_not ha) fun σ H Q q => by
  obtain ⟨H0, ρ, S, W, fr, st, p⟩ := q
  refine ⟨H0, ρ, S, W, fr, st, (Pst.fst p).imp fun d S1 W1 H1 e1 s1 p1 => ?_⟩
  obtain ⟨k, rfl, p2⟩ := p1.bl
  obtain ⟨k', hk, hq⟩ := p2.okk s1
  cases hk
  exact ⟨k, rfl, hq⟩
abbrev mAnd (ma mb : Fr → M D) : Fr → M D := fun ρ => bnd (ma ρ) fun x => bnd (blD x) fun k => if k = true then mb ρ else ret (.bl false)
abbrev mOr (ma mb : Fr → M D) : Fr → M D := fun ρ => bnd (ma ρ) fun x => bnd (blD x) fun k => if k = true then ret (.bl true) else mb ρ
theorem tAnd_of {σ : L2.St} {H : Hp} {Q : Bool → Hp → Prop} (q : tT (cn X g) E (mAnd ma mb) σ H Q) : tAnd (tT (cn X g) E ma) (tT (cn X g) E mb) σ H Q := by
  obtain ⟨H0, ρ, S, W, fr, st, p⟩ := q
  refine ⟨H0, ρ, S, W, fr, st, (Pst.fst p).imp fun d S1 W1 H1 e1 s1 p1 => ?_⟩
  obtain ⟨k, rfl, p2⟩ := p1.bl
  refine ⟨k, rfl, ?_⟩
  cases k with
  | true => exact ⟨H0, ρ, S1, W1, fr.ext e1, s1, p2⟩
  | false =>
    obtain ⟨k', hk, hq⟩ := p2.okk s1
    cases hk
    exact hq
theorem tOr_of {σ : L2.St} {H : Hp} {Q : Bool → Hp → Prop} (q : tT (cn X g) E (mOr ma mb) σ H Q) : tOr (tT (cn X g) E ma) (tT (cn X g) E mb) σ H Q := by
  obtain ⟨H0, ρ, S, W, fr, st, p⟩ := q
  refine ⟨H0, ρ, S, W, fr, st, (Pst.fst p).imp fun d S1 W1 H1 e1 s1 p1 => ?_⟩
  obtain ⟨k, rfl, p2⟩ := p1.bl
  refine ⟨k, rfl, ?_⟩
  cases k with
  | false => exact ⟨H0, ρ, S1, W1, fr.ext e1, s1, p2⟩
  | true =>
    obtain ⟨k', hk, hq⟩ := p2.okk s1
    cases hk
    exact hq
theorem w_and2 (ha : PT X a (tT (cn X g) E ma)) (hb : PT X b (tT (cn X g) E mb)) : PW X (.BoolOp .And [a, b] pos) (tT (cn X g) E (mAnd ma mb)) := PW.imp (pw_and ha (pw_and1 hb)) fun _ _ _ q => tAnd_of q
theorem w_and (ha : PT X a (tT (cn X g) E ma)) (hb : PW X (.BoolOp .And (b :: rest) pos) (tT (cn X g) E mb)) : PW X (.BoolOp .And (a :: b :: rest) pos) (tT (cn X g) E (mAnd ma mb)) := PW.imp (pw_and ha hb) fun _ _ _ q => tAnd_of q
theorem w_or2 (ha : PT X a (tT (cn X g) E ma)) (hb : PT X b (tT (cn X g) E mb)) : PW X (.BoolOp .Or [a, b] pos) (tT (cn X g) E (mOr ma mb)) := PW.imp (pw_or ha (pw_or1 hb)) fun _ _ _ q => tOr_of q
theorem w_or (ha : PT X a (tT (cn X g) E ma)) (hb : PW X (.BoolOp .Or (b :: rest) pos) (tT (cn X g) E mb)) : PW X (.BoolOp .Or (a :: b :: rest) pos) (tT (cn X g) E (mOr ma mb)) := PW.imp (pw_or ha hb) fun _ _ _ q => tOr_of q
/-! as values -/
theorem tAndV_of {σ : L2.St} {H : Hp} {Q : VK} (q : tE (cn X g) E (mAnd ma mb) σ H Q) : tAndV (tE (cn X g) E ma) (tE (cn X g) E mb) σ H Q := by
  obtain ⟨H0, ρ, S, W, fr, st, p⟩ := q
  refine ⟨H0, ρ, S, W, fr, st, (Pst.fst p).imp fun d S1 W1 H1 e1 s1 p1 v r => ?_⟩
  obtain ⟨k, rfl, p2⟩ := p1.bl
  refine ⟨k, r.blD, ?_⟩
  cases k with
  | true => exact ⟨H0, ρ, S1, W1, fr.ext e1, s1, p2⟩
  | false => exact p2.okk s1 _ (.bl _)
theorem tOrV_of {σ : L2.St} {H : Hp} {Q : VK} (q : tE (cn X g) E (mOr ma mb) σ H Q) : tOrV (tE (cn X g) E ma) (tE (cn X g) E mb) σ H Q := by
  obtain ⟨H0, ρ, S, W, fr, st, p⟩ := q
  refine ⟨H0, ρ, S, W, fr, st, (Pst.fst p).imp fun d S1 W1 H1 e1 s1 p1 v r => ?_⟩
  obtain ⟨k, rfl, p2⟩ := p1.bl
  refine ⟨k, r.blD, ?_⟩
  cases k with
  | false => exact ⟨H0, ρ, S1, W1, fr.ext e1, s1, p2⟩
  | true => exact p2.okk s1 _ (.bl _)
theorem q_and2 (ha : PE X a (tE (cn X g) E ma)) (hb : PE X b (tE (cn X g) E mb)) : PE X (.BoolOp .And [a, b] pos) (tE (cn X g) E (mAnd ma mb)) := PE.imp (pe_and ha (pe_one hb)) fun _ _ _ q => tAndV_of q
theorem q_and (ha : PE X a (tE (cn X g) E ma)) (hb : PE X (.BoolOp .And (b :: rest) pos) (tE (cn X g) E mb)) : PE X (.BoolOp .And (a :: b :: rest) pos) (tE (cn X g) E (mAnd ma mb)) := PE.imp (pe_and ha hb) fun _ _ _ q => tAndV_of q
theorem q_or2 (ha : PE X a (tE (cn X g) E ma)) (hb : PE X b (tE (cn X g) E mb)) : PE X (.BoolOp .Or [a, b] pos) (tE (cn X g) E (mOr ma mb)) := PE.imp (pe_or ha (pe_one hb)) fun _ _ _ q => tOrV_of q
theorem q_or (ha : PE X a (tE (cn X g) E ma)) (hb : PE X (.BoolOp .Or (b :: rest) pos) (tE (cn X g) E mb)) : PE X (.BoolOp .Or (a :: b :: rest) pos) (tE (cn X g) E (mOr ma mb)) := PE.imp (pe_or ha hb) fun _ _ _ q => tOrV_of q
theorem q_not (ha : PE X a (tE (cn X g) E ma)) : PE X (.UnaryOp .Not a pos) (tE (cn X g) E fun ρ => bnd (ma ρ) fun x => bnd (blD x) fun k => ret (.bl (!k))) := PE.imp (pe_not ha) fun σ H Q q => by
  obtain ⟨H0, ρ, S, W, fr, st, p⟩ := q
  refine ⟨H0, ρ, S, W, fr, st, (Pst.fst p).imp fun d S1 W1 H1 e1 s1 p1 v r => ?_⟩
  obtain ⟨k, rfl, p2⟩ := p1.bl
  exact ⟨k, r.blD, p2.okk s1 _ (.bl _)⟩
theorem q_ife (hc : PT X c (tT (cn X g) E mc)) (ha : PE X a (tE (cn X g) E ma)) (hb : PE X b (tE (cn X g) E mb)) :
    PE X (.IfExp c a b pos) (tE (cn X g) E fun ρ => bnd (mc ρ) fun x => bnd (blD x) fun k => if k = true then ma ρ else mb ρ) := PE.imp (pe_ifExp hc ha hb) fun σ H Q q => by
  obtain ⟨H0, ρ, S, W, fr, st, p⟩ := q
  refine ⟨H0, ρ, S, W, fr, st, (Pst.fst p).imp fun d S1 W1 H1 e1 s1 p1 => ?_⟩
  obtain ⟨k, rfl, p2⟩ := p1.bl
  refine ⟨k, rfl, ?_⟩
  cases k with
  | true => exact ⟨H0, ρ, S1, W1, fr.ext e1, s1, p2⟩
  | false => exact ⟨H0, ρ, S1, W1, fr.ext e1, s1, p2⟩
/-! a < b < c -/
abbrev mChn (f f' : D → D → Option D) (ma mb mc : Fr → M D) : Fr → M D := fun ρ => bnd (ma ρ) fun x => bnd (mb ρ) fun y => bnd (opt (f x y)) fun r => bnd (blD r) fun k => if k = true then bnd (mc ρ) fun z => opt (f' y z) else ret (.bl false)
theorem chn_of {f f' : D → D → Option D} {σ : L2.St} {H : Hp} {Q : VK} (q : tE (cn X g) E (mChn f f' ma mb mc) σ H Q) : tChain (rG2 (cn X g) f) (rG2 (cn X g) f') (tB (cn X g) E ma) (tB (cn X g) E mb) (tB (cn X g) E mc) σ H Q := by
  obtain ⟨H0, ρ, S, W, fr, st, p⟩ := q
  refine ⟨H0, ρ, S, W, fr, st, (Pst.fst p).imp fun x S1 W1 H1 e1 s1 p1 v rx => ⟨H0, ρ, S1, W1, fr.ext e1, s1, (Pst.fst p1).imp fun y S2 W2 H2 e2 s2 p2 u ry => ?_⟩⟩
  obtain ⟨r, hr, p3⟩ := (Pst.fst p2).opt
  refine ⟨W2, S2, x, y, r, s2, rx.ext e2, ry, hr, fun v H3 W3 e3 s3 rv => ?_⟩
  have p4 := p3 H3 W3 e3 s3
  obtain ⟨k, rfl, p5⟩ := p4.bl
  refine ⟨k, rv.blD, ?_⟩
  cases k with
  | true =>
    refine ⟨H0, ρ, S2, W3, ((fr.ext e1).ext e2).ext e3, s3, (Pst.fst p5).imp fun z S5 W5 H5 e5 s5 p6 w rz => ?_⟩
    obtain ⟨d, hd, p7⟩ := p6.opt
    exact ⟨W5, S5, y, z, d, s5, (ry.ext e3).ext e5, rz, hd, fun v H' W' e s r => p7 H' W' e s v r⟩
  | false => exact p5.okk s3 _ (.bl _)
theorem q_chn {op op' : CmpOp} {f f' : D → D → Option D} (ho : OpR X (compareOp op) (rG2 (cn X g) f)) (ho' : OpR X (compareOp op') (rG2 (cn X g) f')) (ha : PE X a (tB (cn X g) E ma)) (hb : PE X b (tB (cn X g) E mb)) (hc : PE X c (tB (cn X g) E mc))
    (hm : lastMarks [op, op'] [b, c] = false) : PE X (.Compare a [op, op'] [b, c] pos) (tE (cn X g) E (mChn f f' ma mb mc)) := PE.imp (pe_chain ho ho' ha hb hc hm) fun _ _ _ q => chn_of q
theorem t_chn {op op' : CmpOp} {f f' : D → D → Option D} (ho : OpR X (compareOp op) (rG2 (cn X g) f)) (ho' : OpR X (compareOp op') (rG2 (cn X g) f')) (ha : PE X a (tB (cn X g) E ma)) (hb : PE X b (tB (cn X g) E mb)) (hc : PE X c (tB (cn X g) E mc))
    (hm : lastMarks [op, op'] [b, c] = false) : PT X (.Compare a [op, op'] [b, c] pos) (tT (cn X g) E (mChn f f' ma mb mc)) := PT.imp (pt_chain ho ho' ha hb hc hm) fun σ H Q q => by
  refine chn_of ?_
  obtain ⟨H0, ρ, S, W, fr, st, p⟩ := q
  refine ⟨H0, ρ, S, W, fr, st, p.imp fun d S1 W1 H1 e1 s1 p1 v r => ?_⟩
  obtain ⟨k, rfl, hq⟩ := p1
  exact ⟨k, r.blD, hq⟩
end
/-- what a def promises -/
def spF (C : Cn) (n : Nat) (F : List D → M D) : Sp := fun vs H Q E => ∃ (W : Wd) (S : Sto) (ds : List D), StoOk W S H ∧ Reps C W vs ds ∧ vs.length = n ∧ Pst C E W H (F ds S) fun d _ W' H' => ∀ v, Rep C W' v d → Q v H'
section
variable {X : Cx} {g : Gi} {E : XK} {pos p : Pos} {e : Expr} {es : List Expr} {ms : Fr → M (List D)} {F : List D → M D} {k n : Nat} {f : Addr} {fd : FuncData} {ps : List Str} {x : Str}
theorem call_def {σ : L2.St} {H : Hp} {Q : VK} (hl : ∀ ρ S ds S', ms ρ S = .ok ds S' → ds.length = n) (q : tE (cn X g) E (fun ρ => bnd (ms ρ) fun ds => F ds) σ H Q) : tCallS (spF (cn X g) n F) (WE fun c d _ H => E c d H) (tA (cn X g) E ms) σ H Q := by
  obtain ⟨H0, ρ, S, W, fr, st, p⟩ := q
  refine ⟨H0, ρ, S, W, fr, st, (Pst.fst p).imp' fun ds S1 W1 H1 hm e1 s1 p1 vs rs => ?_⟩
  exact ⟨W1, S1, ds, s1, rs, by rw [rs.length]; exact hl _ _ _ _ hm, p1⟩
theorem q_call (Fk : FnOk X.prog X.w X.K X.mg X.base (CX X.prog X.w) k f fd ps (spF (cn X g) n F)) (hr : Room k X.A) (hg : Gl X x) (hm : X.mg x = some (.ref f)) (hk : PySem.W.keepIn X.K (.ref f) = true) (hb : Binds X.K fd ps [])
    (tk : Takes X fun c d _ H => E c d H) (ha : PA X (e :: es) (tA (cn X g) E ms)) (hl : ∀ ρ S ds S', ms ρ S = .ok ds S' → ds.length = n) (hdb : (x == ("__debug__" : Str)) = false)
    (he : starEach (e :: es) X.env = (false, eval e X.env) :: starEach es X.env) (hpl : (backTo pos (starEach es X.env)).any (·.1) = false) : PE X (.Call (.Name x p) (e :: es) [] pos) (tE (cn X g) E fun ρ => bnd (ms ρ) fun ds => F ds) :=
  PE.imp (pe_callS Fk hr hg hm hk hb (fun σ => passAt tk σ) ha hdb he hpl) fun _ _ _ q => call_def hl q
/-- a call of a value that is a def -/
theorem q_callv {fe : Expr} {mf : Fr → M D} {Γ : Nat → List D → M D} (hF : ∀ j a, g.fa j = some a → ∃ (fd : FuncData) (ps : List Str) (n : Nat), PySem.W.keepIn X.K (.ref a) = true ∧ Binds X.K fd ps [] ∧ FnOk X.prog X.w X.K X.mg X.base (CX X.prog X.w) k a fd ps (spF (cn X g) n (Γ j)) ∧ ∀ ds S, Γ j ds S ≠ .bad → ds.length = n)
    (hr : Room k X.A) (tk : Takes X fun c d _ H => E c d H) (hf : PE X fe (tE (cn X g) E mf)) (ha : PA X (e :: es) (tA (cn X g) E ms))
    (ht : eval (.Call fe (e :: es) [] pos) X.env = (do callWith pos (← eval fe X.env) [] (backTo pos (starEach (e :: es) X.env)) (backToKw pos (keywordEach [] X.env))))
    (he : starEach (e :: es) X.env = (false, eval e X.env) :: starEach es X.env) (hpl : (backTo pos (starEach es X.env)).any (·.1) = false) :
    PE X (.Call fe (e :: es) [] pos) (tE (cn X g) E fun ρ => bnd (mf ρ) fun x => match x with | .fn j => bnd (ms ρ) fun ds => Γ j ds | _ => fail) := by
  refine ⟨fun pins s σ H Q I h => ?_⟩
  obtain ⟨H0, ρ, S, W, fr, st, p⟩ := h
  refine PyProof.Rows.Call_ (thn (hf.run pins s σ H (fun y H1 => ∃ j a S1 W1, y = V.ref a ∧ g.fa j = some a ∧ Frm (cn X g) H0 W1 ρ σ H1 ∧ StoOk W1 S1 H1 ∧ Pst (cn X g) E W1 H1 (bnd (ms ρ) (fun ds => Γ j ds) S1) fun d _ W' H' => ∀ v, Rep (cn X g) W' v d → Q v H') I ⟨H0, ρ, S, W, fr, st, (Pst.fst p).imp fun x S1 W1 H1 e1 s1 p1 v r => ?_⟩) fun u s1 ⟨y, H1, I1, ry, q⟩ => ?_) ht
  · cases x <;> first | exact p1.elim | skip
    rename_i j
    cases r with
    | fn hj => exact ⟨j, _, S1, W1, rfl, hj, fr.ext e1, s1, p1⟩
  · obtain ⟨j, a, S1, W1, rfl, hj, fr1, s1', p1⟩ := q
    obtain rfl : u = Value.ref a := ry
    obtain ⟨fd, ps, n, hk, hb, Fk, hn⟩ := hF j a hj
    refine PySem.W.callWith_K (h₀ := X.base) I.ok.mod.kin hk (thn (ha.run pos pins s1 σ H1 (fun vs H2 => spF (cn X g) n (Γ j) vs H2 Q E) I1 ⟨H0, ρ, S1, W1, fr1, s1', (Pst.fst p1).imp fun ds S2 W2 H2 e2 s2 p2 vs rs => ?_⟩) fun us s2 ⟨vs, H2, I2, r, q⟩ => ⟨I2.kIn, ?_⟩) he hpl
    · refine ⟨W2, S2, ds, s2, rs, ?_, p2⟩
      rw [rs.length]
      exact hn ds S2 fun z => by rw [z] at p2; exact p2
    · exact run_fnS (E := WE fun c d _ H => E c d H) Fk hr hb (passAt tk σ) I2 r q
end
end G
/-! GR: x[::-1]. -/
namespace G
open PySem PySem.Spec PyProof.Rows L2
section
variable {prog : Program} {w : World} {A : Around} {E : Value → Shared → Prop} {s : Shared}
theorem adjust_rev (n : Nat) : Builtin.Slice.sliceAdjust none none (-1) (n : Int) = ((n : Int) - 1, -1) := by
  unfold Builtin.Slice.sliceAdjust
  first
    | rfl
    | simp
theorem places_rev (n : Nat) : Builtin.Slice.slicePlaces ((n : Int) - 1) (-1) (-1) = n := by
  unfold Builtin.Slice.slicePlaces
  have h1 : ¬ ((-1 : Int) > 0) := by decide
  simp only [h1, if_false]
  by_cases h : (n : Int) - 1 > -1
  · have e : ((n : Int) - 1 - -1 - 1) / (- -1) = (n : Int) - 1 := by
      rw [show (- -1 : Int) = 1 by decide, Int.ediv_one]; omega
    first
      | (split <;> omega)
      | (simp only [h, if_true, e]; omega)
  · have e : n = 0 := by omega
    subst e
    first
      | rfl
      | simp
theorem fm_congr {α β : Type} {f g : α → Option β} : ∀ {l : List α}, (∀ x ∈ l, f x = g x) → l.filterMap f = l.filterMap g
  | [], _ => rfl
  | x :: l, h => by rw [List.filterMap_cons, List.filterMap_cons, h x List.mem_cons_self, fm_congr fun y m => h y (List.mem_cons_of_mem _ m)]
theorem pick_rev (xs : Array Value) : ((List.range xs.size).filterMap fun (m : Nat) => xs[(((xs.size : Int) - 1) + (m : Int) * (-1)).toNat]?).toArray = xs.toList.reverse.toArray := by
  have e : ((List.range xs.size).filterMap fun (m : Nat) => xs[(((xs.size : Int) - 1) + (m : Int) * (-1)).toNat]?) = ((List.range xs.size).map fun k => xs.size - 1 - k).filterMap (xs[·]?) := by
    rw [List.filterMap_map]
    refine fm_congr fun m hm => ?_
    have := List.mem_range.mp hm
    have e2 : (((xs.size : Int) - 1) + (m : Int) * (-1)).toNat = xs.size - 1 - m := by omega
    rw [e2]; rfl
  rw [e, PySem.W.krv_range, List.filterMap_reverse, PySem.W.krv_all]
theorem sliceApplied_rev {sl : Addr} {vl vu vs : Value} {n : Nat} {Q : Int × Int × Nat → Shared → Prop} (hs : s.heap.IsSliceOf sl vl vu vs) (pl : IsPart vl none) (pu : IsPart vu none) (pt : IsPart vs (some (-1)))
    (h : Q ((n : Int) - 1, -1, n) s) : wpAny (model prog w) A (Builtin.Slice.sliceApplied (.ref sl) (pure (n : Int))) Q E s := by
  obtain ⟨os, hos, hcs, hds⟩ := id hs
  unfold Builtin.Slice.sliceApplied Builtin.Slice.sliceFields
  refine wpAny_bind (wpAny_bind (wpAny_field hos hds (x := vl) rfl (wpAny_bind (wpAny_field hos hds (x := vu) rfl (wpAny_bind (wpAny_field hos hds (x := vs) rfl (wpAny_pure ?_)))))))
  refine wpAny_bind (HT.slicePart_ pt ?_)
  show wpAny _ _ (if ((-1 : Int) == 0) = true then _ else _) _ _ s
  rw [if_neg (by decide)]
  refine wpAny_bind (HT.slicePart_ pl (wpAny_bind (HT.slicePart_ pu (wpAny_bind (wpAny_pure ?_)))))
  show wpAny _ _ (match Builtin.Slice.sliceAdjust none none (-1) (n : Int) with | (lo, hi) => pure (lo, (-1 : Int), Builtin.Slice.slicePlaces lo hi (-1))) _ _ s
  rw [adjust_rev n]
  show wpAny _ _ (pure ((n : Int) - 1, (-1 : Int), Builtin.Slice.slicePlaces ((n : Int) - 1) (-1) (-1))) _ _ s
  rw [places_rev]
  exact wpAny_pure h
theorem getItem_tuple_rev {t sl : Addr} {items : Array Value} {vl vu vs : Value} {Q : Value → Shared → Prop} (ht : IsTup s.heap t items) (hs : s.heap.IsSliceOf sl vl vu vs) (pl : IsPart vl none) (pu : IsPart vu none) (pt : IsPart vs (some (-1)))
    (h : Q (.ref s.heap.objs.size) { s with heap := s.heap.push { cls := .type "tuple", data := .seq items.toList.reverse.toArray } })
    (hsz : items.size ≤ sizeLine) : wpAny (model prog w) A (getItem (.ref t) (.ref sl)) Q E s := by
  have htake : sizeOk (.seq items.toList.reverse.toArray) := by
    show items.toList.reverse.toArray.size ≤ sizeLine
    rw [List.size_toArray, List.length_reverse, Array.length_toList]
    exact hsz
  obtain ⟨os, hos, hcs, hds⟩ := id hs
  have hTs : s.TypeIs (.ref sl) "slice" := ⟨os, hos, hcs⟩
  unfold getItem
  try with_reducible refine wpAny_holding ?_
  first | refine wpAny_bind (wpAny_pure ?_) | skip
  refine wpAny_bind (wpAny_sequenceKey ht.typeIs (by decide) ?_)
  refine wpAny_bind (wpAny_callSpecial?_slot (name := Str.ofString "__getitem__") ht.typeIs PyProof.Rows.slot_tuple_getitem
    (wpAny_call_entry PyProof.Rows.slot_tuple_getitem ht.typeIs entry_tuple_getitem ?_ (args_tuple_getitem _ _)))
  show wpAny _ _ (Builtin.Tuple.tupleItemsOf (.ref t) >>= _) _ _ s
  refine wpAny_bind (PyProof.Rows.tupleItemsOf_ ht ?_)
  refine wpAny_bind (wpAny_typeOf hTs ?_)
  rw [if_pos (by decide)]
  refine wpAny_bind (sliceApplied_rev hs pl pu pt ?_)
  have hno : ¬ ((((items.size : Int) - 1) == 0 && (-1 : Int) == 1 && items.size == items.size) = true) := by
    intro q
    rw [Bool.and_eq_true, Bool.and_eq_true] at q
    exact absurd q.1.2 (by decide)
  show wpAny _ _ (if (((items.size : Int) - 1) == 0 && (-1 : Int) == 1 && items.size == items.size) = true then _ else _) _ _ s
  rw [if_neg hno, pick_rev]
  first
    | exact wpAny_bind (m := Builtin.Tuple.tupleExact _) (wpAny_newObj_type (wpAny_pure ⟨_, rfl, wpAny_pure h⟩) htake)
    | exact wpAny_bind (m := Builtin.Tuple.tupleExact _) (wpAny_newObj_type (wpAny_bind (wpAny_pure (wpAny_pure ⟨_, rfl, wpAny_pure h⟩))) htake)
    | exact wpAny_bind (wpAny_bind (m := Builtin.Tuple.tupleExact _) (wpAny_newObj_type (wpAny_pure (wpAny_pure ⟨_, rfl, wpAny_pure h⟩)) htake))
    | exact wpAny_bind (wpAny_bind (m := Builtin.Tuple.tupleExact _) (wpAny_newObj_type (wpAny_pure ⟨_, rfl, wpAny_pure h⟩) htake))
end
section
variable {X : Cx} {g : Gi} {E : XK} {e : Expr} {m : Fr → M D}
def tRevG (K : PySem.W.Frag) (te : TE) : TE := fun σ H Q => te σ H fun x H1 => ∃ a xs, x = .ref a ∧ ((SqL K H1 a xs ∧ ∀ p, H1 p = none → Q (.ref p) (upd H1 p (.lst xs.reverse))) ∨ (SqT K H1 a xs ∧ ∀ p, H1 p = none → Q (.ref p) (upd H1 p (.tup xs.reverse))))
theorem pe_revG {te : TE} {k : Nat} {p1 p2 p3 pos : Pos} (he : PE X e te) : PE X (.Subscript e (.Slice none none (some (.UnaryOp .USub (.Constant (.int 1) k p1) p2)) p3) pos) (tRevG X.K te) := by
  refine ⟨fun pins s σ H Q I h => ?_⟩
  refine Subscript_ (thn (he.run pins s σ H _ I h) fun v s1 ⟨x, H1, I1, r1, q1⟩ => ?_)
  obtain ⟨a, xs, ex, q⟩ := q1
  subst ex
  cases r1
  have hst : PO X (some (.UnaryOp .USub (.Constant (.int 1) k p1) p2)) (tPart (tUn (rU fun i => .int (-i)) (tC (.int 1)))) := po_some (pe_un un_neg pe_int)
  refine wpAny_Slice (thn (po_none.run pins s1 σ H1 (fun o H2 => o = none ∧ H2 = H1) I1 ⟨rfl, rfl⟩) fun vl s2 ⟨l, H2, I2, pl, el, e2⟩ => ?_)
  subst el e2
  refine thn (po_none.run pins s2 σ H2 (fun o H3 => o = none ∧ H3 = H2) I2 ⟨rfl, rfl⟩) fun vu s3 ⟨u, H3, I3, pu, eu, e3⟩ => ?_
  subst eu e3
  refine thn (hst.run pins s3 σ H3 (fun o H4 => o = some (-1) ∧ H4 = H3) I3 ⟨1, rfl, -1, rfl, rfl, rfl⟩) fun vs s4 ⟨o, H4, I4, ps, eo, e4⟩ => ?_
  subst eo e4
  have I5 : Inv X pins σ H4 { s4 with heap := s4.heap.push { cls := .type "slice", data := .fields #[vl, vu, vs] } } := I4.kept (t' := s4.toks) fun b ob q => Heap.get?_push_of_some _ q
  show wpAny (model X.prog X.w) X.A (subscriptTail e (.Slice none none (some (.UnaryOp .USub (.Constant (.int 1) k p1) p2)) p3) (.ref a) (.ref s4.heap.objs.size)) (EP X pins σ Q) X.xe { s4 with heap := s4.heap.push { cls := .type "slice", data := .fields #[vl, vu, vs] } }
  rcases q with ⟨hx, q⟩ | ⟨hx, q⟩
  · obtain ⟨its, r, ht, hz⟩ := I5.list hx
    have hlen := r.length
    refine tail_any (ops := [.ref a, .ref s4.heap.objs.size]) ht.isList.typeIs (PySem.slot_list_getitem.lookup) ?_ (by with_unfolding_all rfl)
    refine wpAny_getItem_list_slice ht.isList (Heap.IsSliceOf.new _ vl vu vs) pl pu ps (by decide) ?_ (by rw [List.size_toArray]; omega)
    rw [PySem.W.krv_pick]
    refine ⟨.ref _, _, I5.laid (t' := s4.toks) (o := .lst xs.reverse) (fun b ob q => Heap.get?_push_of_some _ q) (Nat.le_refl _) ?_, rfl, q _ (I5.hok.fresh (Nat.le_refl _))⟩
    exact ⟨by rw [List.length_reverse]; exact hz, _, 0, r.reverse, Heap.get?_push_size _ rfl⟩
  · obtain ⟨its, r, ht, hz⟩ := I5.tuple hx
    have hlen := r.length
    refine tail_any (ops := [.ref a, .ref s4.heap.objs.size]) ht.typeIs (PyProof.Rows.slot_tuple_getitem.lookup) ?_ (by with_unfolding_all rfl)
    refine getItem_tuple_rev ht (Heap.IsSliceOf.new _ vl vu vs) pl pu ps ?_ (by rw [List.size_toArray]; omega)
    refine ⟨.ref _, _, I5.laid (t' := s4.toks) (o := .tup xs.reverse) (fun b ob q => Heap.get?_push_of_some _ q) (Nat.le_refl _) ?_, rfl, q _ (I5.hok.fresh (Nat.le_refl _))⟩
    exact ⟨by rw [List.length_reverse]; exact hz, _, r.reverse, IsTup.new _ _⟩
theorem q_rev {k : Nat} {p1 p2 p3 pos : Pos} (he : PE X e (tB (cn X g) E m)) : PE X (.Subscript e (.Slice none none (some (.UnaryOp .USub (.Constant (.int 1) k p1) p2)) p3) pos) (tE (cn X g) E fun ρ => bnd (m ρ) fun x => opt (dRev x)) := PE.imp (pe_revG he) fun σ H Q q => by
  obtain ⟨H0, ρ, S, W, fr, st, p⟩ := q
  refine ⟨H0, ρ, S, W, fr, st, (Pst.fst p).imp fun x S1 W1 H1 e1 s1 p1 v r => ?_⟩
  obtain ⟨d, hd, p2⟩ := p1.opt
  cases x <;> first | (cases hd; done) | skip
  · cases hd
    obtain ⟨a, vs, rfl, hq, hz, rv⟩ := r.tup s1.sh
    exact ⟨a, vs, rfl, .inr ⟨hq, fun p hp => p2 _ _ (Ext.laid s1.sh hp) (s1.laid hp) _ (Rep.newT hp s1.sh (by rw [List.length_reverse]; exact hz) rv.reverse)⟩⟩
  · cases hd
    obtain ⟨a, vs, rfl, hq, hz, rv⟩ := r.lst s1.sh
    exact ⟨a, vs, rfl, .inl ⟨SqL.of hq, fun p hp => p2 _ _ (Ext.laid s1.sh hp) (s1.laid hp) _ (Rep.newL hp s1.sh (by rw [List.length_reverse]; exact hz) rv.reverse)⟩⟩
end
end G
/-! GS1: sets of texts, made, counted, sorted. -/
namespace G
open PySem L2 PySem.Spec PyProof.Rows
/-- the text of a set's row -/
def rowS (e : Int × Value) : Str := match e.2 with
  | .str x _ => x
  | _ => Str.empty
def RowS (w : World) (e : Int × Value) : Prop := ∃ (x : Str) (u : Tok), e = (hashStr w x, Value.str x u)
/-- at a stands a set with the texts l, that can be walked -/
def TxSet (w : World) (h : Heap) (a : Addr) (l : List Str) : Prop :=
  ∃ (ob : Obj) (rows : Array (Int × Value)) (age : Nat) (tb : SetTable), h.get? a = some ob ∧ ob.ExactSet ∧ ob.data = .set rows age tb ∧ (∀ e ∈ rows.toList, RowS w e) ∧ (rows.toList.map rowS).Perm l ∧ l.Nodup ∧
    rows.size < scanBound ∧ tb.fits rows.size = true ∧ Ris tb.place.toList ∧ (w.params.followText "set-order" = true ∨ tb.led = true)
section
variable {P : Program} {w : World} {A : Around} {E : Value → Shared → Prop} {s : Shared} {a : Addr} {l : List Str}
theorem TxSet.keep {h h' : Heap} (t : TxSet w h a l) (k : ∀ ob, h.get? a = some ob → h'.get? a = some ob) : TxSet w h' a l := by
  obtain ⟨ob, rows, age, tb, e1, r⟩ := t
  exact ⟨ob, rows, age, tb, k _ e1, r⟩
theorem RowS.el {rows : List (Int × Value)} (g : ∀ e ∈ rows, RowS w e) : ElemsOf (PySem.strKind P w) rows := fun e he => by
  obtain ⟨x, u, rfl⟩ := g e he
  exact ⟨⟨x, strKind_is P w x u, rfl⟩, rfl⟩
theorem RowS.is_iff {e : Int × Value} (g : RowS w e) (x : Str) : (PySem.strKind P w).is x e.2 = true ↔ rowS e = x := by
  obtain ⟨y, u, rfl⟩ := g
  show Value.isStrOf x (.str y u) = true ↔ y = x
  simp [Value.isStrOf]
theorem RowS.any_iff {rows : List (Int × Value)} (g : ∀ e ∈ rows, RowS w e) (x : Str) : x ∈ rows.map rowS ↔ ∃ e ∈ rows, (PySem.strKind P w).is x e.2 = true := by
  rw [List.mem_map]
  exact ⟨fun ⟨e, m, q⟩ => ⟨e, m, ((g e m).is_iff x).mpr q⟩, fun ⟨e, m, q⟩ => ⟨e, m, ((g e m).is_iff x).mp q⟩⟩
/-- the new row is written, and where there are too many the rows are laid anew -/
theorem tx_tail {gw : Bool → Sem Unit} (hgw : ∀ (b : Bool) (z : Shared) (Q1 : Unit → Shared → Prop), Q1 () z → wpAny (model P w) A (gw b) Q1 E z)
    {ob : Obj} {rows : Array (Int × Value)} {age : Nat} {tb : SetTable} (e0 : s.heap.get? a = some ob) (ex : ob.ExactSet) (ed : ob.data = .set rows age tb)
    {rs : Array (Int × Value)} {tn : SetTable} (g1 : ∀ e ∈ rs.toList, RowS w e) (p1 : (rs.toList.map rowS).Perm l) (n1 : l.Nodup)
    (b1 : rs.size < scanBound) (f1 : tn.fits rs.size = true) (i1 : Ris tn.place.toList) (l1 : w.params.followText "set-order" = true ∨ tn.led = true) {dm : Bool} {R : Option Bool → Shared → Prop}
    (fin : ∀ hn, Heap.SameBut a s.heap hn → TxSet w hn a l → R (some true) { s with heap := hn }) :
    wpAny (model P w) A (storeSet a rs tn >>= fun _ => if (!dm && tn.tooFull) = true then gw (relayAll tn rs (SetTable.grown rs.size)).2.2 >>= fun _ =>
      storeSet a (relayAll tn rs (SetTable.grown rs.size)).1 (relayAll tn rs (SetTable.grown rs.size)).2.1 >>= fun _ => pure (some true) else pure (some true)) R E s := by
  have o1 := store_at (es' := rs) (t' := tn) e0 ed
  have s1 := Heap.SameBut.update s.heap a (Obj.putSet rs tn)
  refine wpAny_bind (wpAny_storeSet_of e0 ed ?_ (fits_of_scanBound b1))
  by_cases full : (!dm && tn.tooFull) = true
  · rw [if_pos full]
    obtain ⟨rn, tm, gv, ez⟩ : ∃ rn tm gv, relayAll tn rs (SetTable.grown rs.size) = (rn, tm, gv) := ⟨_, _, _, rfl⟩
    have p2 := relayAll_perm tn rs (SetTable.grown rs.size)
    have f2 := relayAll_fits tn rs (SetTable.grown rs.size)
    have i2 := relayAll_ris tn rs (SetTable.grown rs.size)
    have l2 := relayAll_led tn rs (SetTable.grown rs.size)
    rw [ez] at p2 f2 i2 l2 ⊢
    have z2 : rn.size = rs.size := by simpa using p2.length_eq
    have b2 : rn.size < scanBound := z2 ▸ b1
    refine wpAny_bind (hgw _ _ _ (wpAny_bind (wpAny_storeSet_of o1 rfl (wpAny_pure (fin _ (s1.trans (Heap.SameBut.update _ a _)) ?_)) (fits_of_scanBound b2))))
    exact ⟨_, rn, _, tm, store_at (es' := rn) (t' := tm) o1 rfl, ex, rfl, fun e m => g1 e (p2.mem_iff.mp m), (p2.map rowS).trans p1, n1, b2, f2, i2, l1.imp id fun z => l2.trans z⟩
  · rw [if_neg full]
    exact wpAny_pure (fin _ s1 ⟨_, rs, _, tn, o1, ex, rfl, g1, p1, n1, b1, f1, i1, l1⟩)
/-- a text is put in -/
theorem tx_add {x : Str} {u : Tok} {Q : Bool → Shared → Prop} (t : TxSet w s.heap a l) (room : l.length + 1 < scanBound)
    (fin : ∀ (hn : Heap) (b : Bool), Heap.SameBut a s.heap hn → TxSet w hn a (if x ∈ l then l else x :: l) → Q b { s with heap := hn }) :
    wpAny (model P w) A (setAddHashed a (.str x u) (hashStr w x)) Q E s := by
  obtain ⟨ob, rows, age, tb, e0, ex, ed, g0, p0, n0, b0, f0, i0, l0⟩ := t
  have isx : (PySem.strKind P w).is x (.str x u) = true := strKind_is P w x u
  have el0 : ElemsOf (PySem.strKind P w) rows.toList := RowS.el g0
  have zl : rows.size = l.length := by simpa using p0.length_eq
  unfold setAddHashed setAddHashedIn
  refine wpAny_holding (wpAny_bind (wpAny_setState_of e0 ed f0 ?_))
  dsimp only
  rw [byScan_of (x := Value.str x u) rfl b0 el0]
  simp only [↓reduceIte]
  unfold setAddByScan
  refine wpAny_bind (wpAny_bind (wpAny_rule (wpAny_bind (wpAny_setScan_of (knd := PySem.strKind P w) (k := x) isx e0 ed f0 el0 ?_))))
  cases fi : List.findIdx? (fun e => (PySem.strKind P w).is x e.2) rows.toList with
  | some j =>
    dsimp only
    obtain ⟨jl, pj, _⟩ := List.findIdx?_eq_some_iff_getElem.mp fi
    have mx : x ∈ l := p0.mem_iff.mp ((RowS.any_iff (P := P) g0 x).mpr ⟨rows.toList[j], List.getElem_mem jl, pj⟩)
    exact wpAny_pure (wpAny_pure (fin s.heap false (Heap.SameBut.refl a s.heap) (by rw [if_pos mx]; exact ⟨ob, rows, age, tb, e0, ex, ed, g0, p0, n0, b0, f0, i0, l0⟩)))
  | none =>
    dsimp only
    have nx : x ∉ l := fun m => by
      obtain ⟨e, me, q⟩ := (RowS.any_iff (P := P) g0 x).mp (p0.mem_iff.mpr m)
      have no := List.findIdx?_eq_none_iff.mp fi e me
      rw [q] at no
      cases no
    rw [if_neg nx] at fin
    have pn := layNew_perm tb rows (hashStr w x) (.str x u)
    have fn := layNew_fits tb rows (hashStr w x) (.str x u)
    have rn := layNew_ris tb rows (hashStr w x) (.str x u) i0
    have ln := layNew_led tb rows (hashStr w x) (.str x u)
    generalize layNew tb rows (hashStr w x) (.str x u) = Z at pn fn rn ln ⊢
    obtain ⟨rs, tn, dm, gv⟩ := Z
    dsimp only at pn fn rn ln ⊢
    rw [Array.toList_push] at pn
    have pc : rs.toList.Perm ((hashStr w x, Value.str x u) :: rows.toList) := pn.trans (List.perm_append_singleton _ _)
    have g1 : ∀ e ∈ rs.toList, RowS w e := fun e m => by
      rcases List.mem_cons.mp (pc.mem_iff.mp m) with z | z
      · exact ⟨x, u, z⟩
      · exact g0 e z
    have p1 : (rs.toList.map rowS).Perm (x :: l) := (pc.map rowS).trans (p0.cons x)
    have n1 : (x :: l).Nodup := List.nodup_cons.mpr ⟨nx, n0⟩
    have z1 : rs.size = l.length + 1 := by simpa using p1.length_eq
    have b1 : rs.size < scanBound := z1 ▸ room
    have l1 : w.params.followText "set-order" = true ∨ tn.led = true := l0.imp id fun z => ln.trans z
    refine wpAny_bind ?_
    have gwx : ∀ (b : Bool) (z : Shared) (Q1 : Unit → Shared → Prop), Q1 () z → wpAny (model P w) A (match b with | true => rule "set.scan.the-table-gave-way" | false => pure ()) Q1 E z := fun b z Q1 q => by
      cases b
      · exact wpAny_pure q
      · exact wpAny_rule q
    refine gwx gv s _ ?_
    by_cases pl : tn.plain = true
    · rw [if_pos pl]
      refine wpAny_bind ?_
      rw [hashByValue_scannable 8 (x := Value.str x u) rfl]
      refine wpAny_pure (tx_tail (l := x :: l) gwx e0 ex ed g1 p1 n1 b1 ?_ ?_ ?_ ?_)
      · exact SetTable.fits_plain_off fn
      · exact rn
      · exact l1
      · exact fun hn sb tn => wpAny_pure (fin hn true sb tn)
    · rw [if_neg pl]
      refine wpAny_bind (wpAny_pure ?_)
      simp only [↓reduceIte]
      exact tx_tail (l := x :: l) gwx e0 ex ed g1 p1 n1 b1 fn rn l1 fun hn sb tn => wpAny_pure (fin hn true sb tn)
end
end G
/-! GS2: set(t) of a tuple or a list of texts. -/
namespace G
open PySem L2 PySem.Spec PyProof.Rows
/-- an empty set, as it is made -/
abbrev newSet (w : World) : Obj := { cls := .type "set", dict := none, data := .set #[] 0 (.fresh 0 0 (!w.params.followText "set-order")) }
theorem TxSet.fresh {w : World} {h : Heap} {a : Addr} (e : h.get? a = some (newSet w)) : TxSet w h a [] := by
  refine ⟨_, #[], 0, _, e, ⟨rfl, rfl, rfl⟩, rfl, fun _ m => by simp at m, by simp, List.nodup_nil, by decide, by rfl, List.Pairwise.nil, ?_⟩
  show _ ∨ (!w.params.followText "set-order") = true
  cases w.params.followText "set-order" <;> simp
section
variable {P : Program} {w : World} {A : Around} {E : Value → Shared → Prop} {s : Shared}
/-- what is left of the texts is put in, one by one -/
theorem tx_loop {I S : Addr} {fp wr : List Addr} {Gs : Array GenState → Array GenState → Prop} {n : Nat} {Pv : Nat → Value → Prop} {St : Nat → Shared → Prop} {R : Result → Shared → Prop}
    (W : WalksS P w A.in1 I fp wr Gs n Pv St) (sf : S ∉ fp) (xs : List Str) (en : n = xs.length) (bd : xs.length + 1 < scanBound) (pv : ∀ i v, Pv i v → ∃ x t, xs[i]? = some x ∧ v = .str x t) :
    ∀ (m i : Nat) (s : Shared) (l : List Str), n - i = m → i ≤ n → St i s → TxSet w s.heap S l → l.length ≤ i → (∀ x, x ∈ l ↔ x ∈ xs.take i) →
      (∀ (z : Shared) (l : List Str), Moved (S :: wr) Gs s z → TxSet w z.heap S l → l.length ≤ n → (∀ x, x ∈ l ↔ x ∈ xs) → R (.ok (.ret .none)) z) →
      codeAny (model P w) A (.builtin "set.update.loop" ⟨[.ref S, .ref I], []⟩) R s := by
  have sw : S ∉ wr := fun q => sf (W.sub _ q)
  have up : ∀ b ∈ wr, b ∈ S :: wr := fun b q => List.mem_cons_of_mem S q
  intro m
  induction m with
  | zero =>
    intro i s l em le st tx ln mm fin
    have ei : i = n := by omega
    subst ei
    refine codeAny_builtin F.entry_set_update_loop ?_
    rw [Around.under_plainId (F.plain_set_update_loop) _]
    show wpAny _ A.in1 (pyNext (.ref I) >>= _) _ _ s
    refine wpAny_bind (W.done s _ _ st fun z mv => ?_)
    rw [List.take_of_length_le (by omega)] at mm
    exact wpAny_pure (fin z l (mv.mono up) (tx.keep fun o q => mv.heap S o sw q) ln mm)
  | succ m ih =>
    intro i s l em le st tx ln mm fin
    have lt : i < n := by omega
    refine codeAny_builtin F.entry_set_update_loop ?_
    rw [Around.under_plainId (F.plain_set_update_loop) _]
    show wpAny _ A.in1 (pyNext (.ref I) >>= _) _ _ s
    refine wpAny_bind (W.item i s _ _ lt st fun v z p st2 mv => ?_)
    obtain ⟨x, t, ex, rfl⟩ := pv i v p
    have tx2 : TxSet w z.heap S l := tx.keep fun o q => mv.heap S o sw q
    show wpAny _ A.in1 (holding [Value.str x t] (setAdd S (.str x t)) >>= _) _ _ z
    refine wpAny_bind (wpAny_holding ?_)
    unfold setAdd
    refine wpAny_holding (wpAny_bind ((PySem.strKind P w).pyHash (k := x) (strKind_is P w x t) ?_))
    refine tx_add (s := { z with toks := z.toks + 1 }) tx2 (by omega) fun hn b sb tx3 => ?_
    refine wpAny_pure ⟨plainId_quiet F.plain_set_update_loop _, ih (i + 1) _ (if x ∈ l then l else x :: l) (by omega) lt (W.frame _ z _ _ st2 (Nat.le_succ _) fun b mb o q => ?_) tx3 ?_ (fun y => ?_) fun z2 l2 mv2 tx4 ln2 mm2 => ?_⟩
    · rw [sb.2 b (fun q2 : b = S => sf (q2 ▸ mb))]; exact q
    · split
      · omega
      · simp only [List.length_cons]; omega
    · rw [List.take_add_one, ex, Option.toList_some, List.mem_append, List.mem_singleton, ← mm y]
      split
      · rename_i mx
        exact ⟨.inl, fun q => q.elim id fun z => z ▸ mx⟩
      · rw [List.mem_cons]; exact Or.comm
    · refine fin z2 l2 (Moved.trans W.gtrans ((mv.mono up).then_heap (Nat.le_succ _) fun b o mb q => ?_) mv2) tx4 ln2 mm2
      rw [sb.2 b (fun q2 : b = S => mb (q2 ▸ List.mem_cons_self))]; exact q
theorem strs_get {us : List Value} {xs : List Str} (q : StrsAre us xs) {i : Nat} {v : Value} (e : us[i]? = some v) : ∃ x t, xs[i]? = some x ∧ v = .str x t := by
  induction q generalizing i with
  | nil => simp at e
  | cons x t _ ih =>
    cases i with
    | zero => simp at e; exact ⟨x, t, rfl, e.symm⟩
    | succ i => simpa using ih (by simpa using e)
set_option maxHeartbeats 3200000 in
theorem set_tuple {p : Addr} {its : Array Value} (xs : List Str) {Q : Value → Shared → Prop} (hd0 : A.handled = none) (isT : s.heap.IsTuple p its) (are : StrsAre its.toList xs) (bd : xs.length + 1 < scanBound)
    (fin : ∀ (hn : Heap) (tk : Nat) (l : List Str), TxSet w hn s.heap.objs.size l → (∀ x, x ∈ l ↔ x ∈ xs) → l.length ≤ xs.length → (∀ b o, s.heap.get? b = some o → hn.get? b = some o) → Q (.ref s.heap.objs.size) { s with heap := hn, toks := tk }) :
    wpAny (model P w) A (call (.type "set") [.ref p]) Q E s := by
  have zs : its.size = xs.length := by simpa using StrsAre.length are
  obtain ⟨mc, ml, mro⟩ := F.called_set.mro
  have made := F.called_set.made
  have subc := F.called_set.sub
  refine wpAny_call (codeAny_of_tree ?_)
  show wpAny _ _ (callAny (.type "set") _) _ _ _
  refine wpAny_pure ⟨Code.quiet_builtin _ (by decide +kernel), codeAny_builtin F.entry_type_call ?_⟩
  rw [Around.under_plain (weight_type_call_type "set" [.ref p] []) rfl]
  have nt := F.called_set.notType
  have cc := F.called_set.canCreate
  have tc := F.typeCall_set_1 (.ref p)
  repeat (any_goals (first | assumption | wp_step))
  refine codeAny_mono (code_set_led1 (.ref p) (E := E) (Q₁ := fun ob z => ob = .ref s.heap.objs.size ∧ z = { s with heap := s.heap.push (newSet w) }) ⟨rfl, rfl⟩) fun r z hr => ?_
  cases r with
  | error e => exact hr
  | ok fl =>
    cases fl with
    | ret ob =>
      obtain ⟨rfl, rfl⟩ := hr
      have at0 : (s.heap.push (newSet w)).get? s.heap.objs.size = some (newSet w) := Heap.get?_push_size _ rfl
      have ty0 : Shared.TypeIs { s with heap := s.heap.push (newSet w) } (.ref s.heap.objs.size) "set" := ⟨_, at0, rfl⟩
      have lk := F.called_set.init.lookup
      have bn := F.called_set.init.bind (.ref s.heap.objs.size)
      repeat (any_goals (first | assumption | wp_step))
      refine codeAny_mono (codeAny_call_builtin (R := wants (fun r z => r = .none ∧ ∃ hn tk l, z = { s with heap := hn, toks := tk } ∧ TxSet w hn s.heap.objs.size l ∧ (∀ x, x ∈ l ↔ x ∈ xs) ∧ l.length ≤ xs.length ∧
          (∀ b o, s.heap.get? b = some o → hn.get? b = some o)) E) F.called_set.init.plain F.entry_set_init (check_set_init_1 ty0 ?_)) fun r2 z2 hr2 => ?_
      · obtain ⟨⟨oc, od, odt, osl⟩, e1, ec, nn, edt⟩ := isT
        simp only at ec edt
        subst ec
        subst edt
        have e2 : (s.heap.push (newSet w)).get? p = some { cls := .type "tuple", dict := od, data := .seq its nn, slots := osl } := Heap.get?_push_of_some _ e1
        have sb1 := F.sub_tuple_set
        have sb2 := F.sub_tuple_frozenset
        have nd : (Value.type "tuple" == Value.type "dict") = false := by decide
        have isT2 : (s.heap.push (newSet w)).IsTuple p its := ⟨_, e2, rfl, nn, rfl⟩
        unfold Builtin.«set.__init__» noKeywords Builtin.Frozenset.updateFrom
        generalize ePI : pyIter = PI
        wp_walk
        subst ePI
        refine wpAny_pyIter_tuple isT2 (wpAny_bind (wpAny_runValue ?_))
        have plt : p < s.heap.objs.size := Heap.lt_size e1
        have hd3 : A.in1.in1.in1.handled = none := by simp [hd0]
        have z1 : (s.heap.push (newSet w)).objs.size = s.heap.objs.size + 1 := Heap.size_push ..
        have pne : p ≠ (s.heap.push (newSet w)).objs.size := by rw [z1]; exact Nat.ne_of_lt (Nat.lt_succ_of_lt plt)
        have sfn : s.heap.objs.size ∉ [(s.heap.push (newSet w)).objs.size, p] := by
          rw [z1]
          simp only [List.mem_cons, List.not_mem_nil, or_false, not_or]
          exact ⟨Nat.ne_of_lt (Nat.lt_succ_self _), Nat.ne_of_gt plt⟩
        refine tx_loop ((Walks.tuple hd3 _ p pne its).toS) sfn xs zs bd (fun i v q => strs_get are (by rw [Array.getElem?_toList]; exact q)) (its.size - 0) 0 _ [] rfl (Nat.zero_le _)
          ⟨⟨_, Heap.get?_push_size _ rfl, rfl, rfl⟩, isT2.push _⟩ (TxSet.fresh (Heap.get?_push_of_some _ at0)) (Nat.le_refl _) (fun x => by simp) fun z l mv tx ln mm => ?_
        obtain ⟨hn, gs, dr, tk, os⟩ := z
        obtain rfl : gs = s.gens := mv.gens
        obtain rfl : dr = s.drawn := mv.drawn
        obtain rfl : os = s.os := mv.os
        show wpAny _ _ _ _ _ _
        refine wpAny_pure ?_
        show wpAny _ _ (PySem.ret Value.none) _ _ _
        refine wpAny_pure ⟨rfl, hn, tk, l, rfl, tx, mm, by omega, fun b o q => ?_⟩
        have lb : b < s.heap.objs.size := Heap.lt_size q
        refine mv.heap b o ?_ (Heap.get?_push_of_some _ (Heap.get?_push_of_some _ q))
        rw [z1]
        simp only [List.mem_cons, List.not_mem_nil, or_false, not_or]
        exact ⟨Nat.ne_of_lt lb, Nat.ne_of_lt (Nat.lt_succ_of_lt lb)⟩
      · cases r2 with
        | error e => exact hr2
        | ok f2 =>
          cases f2 with
          | ret r =>
            obtain ⟨rfl, hn, tk, l, rfl, tx, mm, ln, kp⟩ := hr2
            repeat (any_goals (first | assumption | wp_step))
            exact fin hn tk l tx mm ln kp
          | _ => exact hr2.elim
    | _ => exact hr.elim
set_option maxHeartbeats 3200000 in
theorem set_list {p : Addr} {its : Array Value} (xs : List Str) {Q : Value → Shared → Prop} (hd0 : A.handled = none) (isL : s.heap.IsList p its) (are : StrsAre its.toList xs) (bd : xs.length + 1 < scanBound)
    (fin : ∀ (hn : Heap) (tk : Nat) (l : List Str), TxSet w hn s.heap.objs.size l → (∀ x, x ∈ l ↔ x ∈ xs) → l.length ≤ xs.length → (∀ b o, s.heap.get? b = some o → hn.get? b = some o) → Q (.ref s.heap.objs.size) { s with heap := hn, toks := tk }) :
    wpAny (model P w) A (call (.type "set") [.ref p]) Q E s := by
  have zs : its.size = xs.length := by simpa using StrsAre.length are
  obtain ⟨mc, ml, mro⟩ := F.called_set.mro
  have made := F.called_set.made
  have subc := F.called_set.sub
  refine wpAny_call (codeAny_of_tree ?_)
  show wpAny _ _ (callAny (.type "set") _) _ _ _
  refine wpAny_pure ⟨Code.quiet_builtin _ (by decide +kernel), codeAny_builtin F.entry_type_call ?_⟩
  rw [Around.under_plain (weight_type_call_type "set" [.ref p] []) rfl]
  have nt := F.called_set.notType
  have cc := F.called_set.canCreate
  have tc := F.typeCall_set_1 (.ref p)
  repeat (any_goals (first | assumption | wp_step))
  refine codeAny_mono (code_set_led1 (.ref p) (E := E) (Q₁ := fun ob z => ob = .ref s.heap.objs.size ∧ z = { s with heap := s.heap.push (newSet w) }) ⟨rfl, rfl⟩) fun r z hr => ?_
  cases r with
  | error e => exact hr
  | ok fl =>
    cases fl with
    | ret ob =>
      obtain ⟨rfl, rfl⟩ := hr
      have at0 : (s.heap.push (newSet w)).get? s.heap.objs.size = some (newSet w) := Heap.get?_push_size _ rfl
      have ty0 : Shared.TypeIs { s with heap := s.heap.push (newSet w) } (.ref s.heap.objs.size) "set" := ⟨_, at0, rfl⟩
      have lk := F.called_set.init.lookup
      have bn := F.called_set.init.bind (.ref s.heap.objs.size)
      repeat (any_goals (first | assumption | wp_step))
      refine codeAny_mono (codeAny_call_builtin (R := wants (fun r z => r = .none ∧ ∃ hn tk l, z = { s with heap := hn, toks := tk } ∧ TxSet w hn s.heap.objs.size l ∧ (∀ x, x ∈ l ↔ x ∈ xs) ∧ l.length ≤ xs.length ∧
          (∀ b o, s.heap.get? b = some o → hn.get? b = some o)) E) F.called_set.init.plain F.entry_set_init (check_set_init_1 ty0 ?_)) fun r2 z2 hr2 => ?_
      · obtain ⟨⟨oc, od, odt, osl⟩, e1, ec, nn, edt⟩ := isL
        simp only at ec edt
        subst ec
        subst edt
        have e2 : (s.heap.push (newSet w)).get? p = some { cls := .type "list", dict := od, data := .seq its nn, slots := osl } := Heap.get?_push_of_some _ e1
        have sb1 := F.sub_list_set
        have sb2 := F.sub_list_frozenset
        have nd : (Value.type "list" == Value.type "dict") = false := by decide
        have isL2 : (s.heap.push (newSet w)).IsList p its := ⟨_, e2, rfl, nn, rfl⟩
        unfold Builtin.«set.__init__» noKeywords Builtin.Frozenset.updateFrom
        generalize ePI : pyIter = PI
        wp_walk
        subst ePI
        refine wpAny_pyIter_list isL2 (wpAny_bind (wpAny_runValue ?_))
        have plt : p < s.heap.objs.size := Heap.lt_size e1
        have hd3 : A.in1.in1.in1.handled = none := by simp [hd0]
        have z1 : (s.heap.push (newSet w)).objs.size = s.heap.objs.size + 1 := Heap.size_push ..
        have pne : p ≠ (s.heap.push (newSet w)).objs.size := by rw [z1]; exact Nat.ne_of_lt (Nat.lt_succ_of_lt plt)
        have sfn : s.heap.objs.size ∉ [(s.heap.push (newSet w)).objs.size, p] := by
          rw [z1]
          simp only [List.mem_cons, List.not_mem_nil, or_false, not_or]
          exact ⟨Nat.ne_of_lt (Nat.lt_succ_self _), Nat.ne_of_gt plt⟩
        refine tx_loop ((Walks.list hd3 _ p pne its).toS) sfn xs zs bd (fun i v q => strs_get are (by rw [Array.getElem?_toList]; exact q)) (its.size - 0) 0 _ [] rfl (Nat.zero_le _)
          ⟨⟨_, Heap.get?_push_size _ rfl, rfl, rfl⟩, isL2.push _⟩ (TxSet.fresh (Heap.get?_push_of_some _ at0)) (Nat.le_refl _) (fun x => by simp) fun z l mv tx ln mm => ?_
        obtain ⟨hn, gs, dr, tk, os⟩ := z
        obtain rfl : gs = s.gens := mv.gens
        obtain rfl : dr = s.drawn := mv.drawn
        obtain rfl : os = s.os := mv.os
        show wpAny _ _ _ _ _ _
        refine wpAny_pure ?_
        show wpAny _ _ (PySem.ret Value.none) _ _ _
        refine wpAny_pure ⟨rfl, hn, tk, l, rfl, tx, mm, by omega, fun b o q => ?_⟩
        have lb : b < s.heap.objs.size := Heap.lt_size q
        refine mv.heap b o ?_ (Heap.get?_push_of_some _ (Heap.get?_push_of_some _ q))
        rw [z1]
        simp only [List.mem_cons, List.not_mem_nil, or_false, not_or]
        exact ⟨Nat.ne_of_lt lb, Nat.ne_of_lt (Nat.lt_succ_of_lt lb)⟩
      · cases r2 with
        | error e => exact hr2
        | ok f2 =>
          cases f2 with
          | ret r =>
            obtain ⟨rfl, hn, tk, l, rfl, tx, mm, ln, kp⟩ := hr2
            repeat (any_goals (first | assumption | wp_step))
            exact fin hn tk l tx mm ln kp
          | _ => exact hr2.elim
    | _ => exact hr.elim
end
end G
/-! GS3: sorted(set(t)), len(set(t)) on data. -/
namespace G
open PySem L2 PySem.Spec PyProof.Rows
/-! ### sorted lists of texts, plain -/
theorem str_ext {x y : Str} (h : x.cps.toList = y.cps.toList) : x = y := by
  obtain ⟨⟨a⟩⟩ := x
  obtain ⟨⟨b⟩⟩ := y
  simp at h
  subst h
  rfl
theorem sLt_irrefl (x : Str) : sLt x x = false := decide_eq_false (List.lt_irrefl _)
theorem sLt_trans {x y z : Str} (h1 : sLt x y = true) (h2 : sLt y z = true) : sLt x z = true := by
  unfold sLt at *
  rw [decide_eq_true_eq] at *
  exact List.lt_trans h1 h2
theorem sLt_tri {x y : Str} (h1 : sLt x y = false) (h2 : sLt y x = false) : x = y := by
  unfold sLt at *
  rw [decide_eq_false_iff_not] at *
  exact str_ext (List.le_antisymm (List.not_lt.mp h2) (List.not_lt.mp h1))
theorem sLt_asymm {x y : Str} (h : sLt x y = true) : sLt y x = false := by
  cases e : sLt y x with
  | false => rfl
  | true => exact absurd (sLt_trans h e) (by rw [sLt_irrefl]; exact Bool.false_ne_true)
abbrev UpS (l : List Str) : Prop := l.Pairwise fun x y => sLt y x = false
theorem sLe_trans {x y z : Str} (h1 : sLt y x = false) (h2 : sLt z y = false) : sLt z x = false := by
  unfold sLt at *
  rw [decide_eq_false_iff_not] at *
  exact List.not_lt.mpr (List.le_trans (List.not_lt.mp h1) (List.not_lt.mp h2))
theorem insS_perm (x : Str) : ∀ l : List Str, (insS x l).Perm (x :: l)
  | [] => .refl _
  | y :: r => by
    unfold insS
    split
    · exact ((insS_perm x r).cons y).trans (.swap _ _ _)
    · exact .refl _
theorem sortS_perm : ∀ l : List Str, (sortS l).Perm l
  | [] => .refl _
  | x :: r => (insS_perm x (sortS r)).trans ((sortS_perm r).cons x)
theorem insS_up (x : Str) : ∀ l : List Str, UpS l → UpS (insS x l)
  | [], _ => by simp [insS, UpS]
  | y :: r, h => by
    obtain ⟨h1, h2⟩ := List.pairwise_cons.mp h
    unfold insS
    split
    · rename_i c
      refine List.pairwise_cons.mpr ⟨fun z hz => ?_, insS_up x r h2⟩
      rcases List.mem_cons.mp ((insS_perm x r).mem_iff.mp hz) with rfl | hz
      · exact sLt_asymm c
      · exact h1 z hz
    · rename_i c
      have c : sLt y x = false := by simpa using c
      refine List.pairwise_cons.mpr ⟨fun z hz => ?_, h⟩
      rcases List.mem_cons.mp hz with rfl | hz
      · exact c
      · exact sLe_trans c (h1 z hz)
theorem sortS_up : ∀ l : List Str, UpS (sortS l)
  | [] => List.Pairwise.nil
  | x :: r => insS_up x _ (sortS_up r)
theorem up_unique : ∀ {l m : List Str}, UpS l → UpS m → l.Perm m → l = m
  | [], m, _, _, p => by simpa using p.length_eq.symm
  | x :: l, [], _, _, p => by simpa using p.length_eq
  | x :: l, y :: m, h1, h2, p => by
    obtain ⟨a1, a2⟩ := List.pairwise_cons.mp h1
    obtain ⟨b1, b2⟩ := List.pairwise_cons.mp h2
    have e : x = y := by
      rcases List.mem_cons.mp (p.mem_iff.mp (List.mem_cons_self (a := x))) with e | m1
      · exact e
      · rcases List.mem_cons.mp (p.mem_iff.mpr (List.mem_cons_self (a := y))) with e | m2
        · exact e.symm
        · exact sLt_tri (b1 x m1) (a1 y m2)
    subst e
    rw [up_unique a2 b2 (List.Perm.cons_inv p)]
theorem dedupS_mem {x : Str} : ∀ {l : List Str}, x ∈ dedupS l ↔ x ∈ l
  | [] => Iff.rfl
  | y :: r => by
    unfold dedupS
    split
    · rename_i c
      rw [dedupS_mem (l := r), List.mem_cons]
      have c : y ∈ r := by simpa using c
      exact ⟨.inr, fun q => q.elim (fun e => e ▸ c) id⟩
    · rw [List.mem_cons, List.mem_cons, dedupS_mem (l := r)]
theorem dedupS_nodup : ∀ l : List Str, (dedupS l).Nodup
  | [] => List.nodup_nil
  | y :: r => by
    unfold dedupS
    split
    · exact dedupS_nodup r
    · rename_i c
      refine List.nodup_cons.mpr ⟨fun q => c ?_, dedupS_nodup r⟩
      simpa using dedupS_mem.mp q
theorem perm_of_mem {α : Type} [DecidableEq α] : ∀ {l m : List α}, l.Nodup → m.Nodup → (∀ x, x ∈ l ↔ x ∈ m) → l.Perm m
  | [], m, _, _, h => by
    cases m with
    | nil => exact .refl _
    | cons y r => exact absurd ((h y).mpr List.mem_cons_self) (by simp)
  | x :: l, m, h1, h2, h => by
    obtain ⟨a1, a2⟩ := List.nodup_cons.mp h1
    have mx : x ∈ m := (h x).mp List.mem_cons_self
    have pm : m.Perm (x :: m.erase x) := List.perm_cons_erase mx
    have n2 := pm.nodup_iff.mp h2
    obtain ⟨b1, b2⟩ := List.nodup_cons.mp n2
    refine ((perm_of_mem a2 b2 fun y => ?_).cons x).trans pm.symm
    constructor
    · intro my
      rcases List.mem_cons.mp (pm.mem_iff.mp ((h y).mp (List.mem_cons_of_mem _ my))) with e | q
      · exact absurd (e ▸ my) a1
      · exact q
    · intro my
      rcases List.mem_cons.mp ((h y).mpr (pm.mem_iff.mpr (List.mem_cons_of_mem _ my))) with e | q
      · exact absurd (e ▸ my) b1
      · exact q
theorem rising_up : ∀ (x : Str) (l : List Str), risingS x l = true → UpS (x :: l)
  | x, [], _ => by simp [UpS]
  | x, y :: r, h => by
    obtain ⟨h1, h2⟩ := Bool.and_eq_true_iff.mp (show (!ltCps y.cps.toList x.cps.toList && risingS y r) = true from h)
    rw [ltCps_eq] at h1
    have h1 : sLt y x = false := by simpa [sLt] using h1
    have ih := rising_up y r h2
    obtain ⟨i1, i2⟩ := List.pairwise_cons.mp ih
    refine List.pairwise_cons.mpr ⟨fun z hz => ?_, ih⟩
    rcases List.mem_cons.mp hz with rfl | hz
    · exact h1
    · exact sLe_trans h1 (i1 z hz)
theorem sortedS_up : ∀ l : List Str, sortedS l = true → UpS l
  | [], _ => List.Pairwise.nil
  | x :: r, h => rising_up x r h
section
variable {P : Program} {w : World} {A : Around} {E : Value → Shared → Prop} {s : Shared} {a : Addr} {l : List Str}
theorem strs_vals : ∀ (us : List Value), (∀ v ∈ us, ∃ x t, v = Value.str x t) → ∃ xs, StrsAre us xs
  | [], _ => ⟨[], .nil⟩
  | v :: us, h => by
    obtain ⟨x, t, rfl⟩ := h v List.mem_cons_self
    obtain ⟨xs, q⟩ := strs_vals us fun u m => h u (List.mem_cons_of_mem _ m)
    exact ⟨x :: xs, .cons x t q⟩
theorem strs_map {us : List Value} {xs : List Str} (q : StrsAre us xs) : xs = us.map fun v => rowS (0, v) := by
  induction q with
  | nil => rfl
  | cons x t _ ih => rw [List.map_cons, ← ih]; rfl
theorem sorted_tx {Q : Value → Shared → Prop} (t : TxSet w s.heap a l) (hd0 : A.handled = none) (few : l.length < 64)
    (fin : ∀ (z : Shared) (p : Addr) (out : Array Value) (c : Nat) (ys : List Str), (∀ b o, s.heap.get? b = some o → z.heap.get? b = some o) → z.gens = s.gens → z.os = s.os → s.heap.objs.size ≤ p →
      z.heap.get? p = some (seqObj "list" out c) → StrsAre out.toList ys → ys.Perm l → sortedS ys = true → Q (.ref p) z) :
    wpAny (model P w) A (call (.builtin "sorted") [.ref a]) Q E s := by
  obtain ⟨ob, rows, age, tb, e0, ex, ed, g0, p0, n0, b0, f0, i0, l0⟩ := t
  refine Calls.call_function_entry kind_sorted plain_sorted entry_sorted (args_sorted1 _) ?_
  unfold Builtin.«sorted»
  refine wpAny_bind (m := checkCount "sorted" 1 1 _) (wpAny_pure ?_)
  refine wpAny_bind (collect_set (A := A.in1) hd0 ⟨ob, e0, ex.1, ed⟩ f0 b0 i0 l0 fun z us kp zs gs os pm => ?_)
  have zl : us.length = l.length := by rw [pm.length_eq, List.length_map, ← p0.length_eq, List.length_map]
  obtain ⟨xs, are⟩ := strs_vals us fun v m => by
    obtain ⟨e, me, rfl⟩ := List.mem_map.mp (pm.mem_iff.mp m)
    obtain ⟨x, u, rfl⟩ := g0 e me
    exact ⟨x, u, rfl⟩
  have px : xs.Perm l := by
    rw [strs_map are]
    refine (pm.map _).trans ?_
    rw [List.map_map]
    exact p0
  refine wpAny_bind (wpAny_newList ?_ (by rw [zl, sizeLine_eq]; omega))
  have oL : (z.heap.push (seqObj "list" us.toArray 0)).get? z.heap.objs.size = some (seqObj "list" us.toArray 0) := Heap.get?_push_size _ rfl
  refine wpAny_bind (wpAny_holding (wpAny_call_entry slot_list_sort ⟨_, oL, rfl⟩ entry_list_sort
    (list_sort_treeK strKind_oneLt oL are.keysOf (fun v1 v2 r e => keyKind_strs (by rw [← e]; exact are)) (by omega) fun sr h1 h2 => ⟨_, rfl, ?_⟩) (args_list_sort _)))
  obtain ⟨ys, y1, y2, y3⟩ := sorted_out_str are h1 h2
  obtain ⟨c, hc⟩ := sortedHeap_at (vs := us) (out := (arrOf sr).map (·.2)) oL
  refine wpAny_pure ⟨_, rfl, fin _ z.heap.objs.size _ c ys (fun b u e => ?_) gs os zs hc y1 (y2.trans px) y3⟩
  have q := kp b u e
  have ql := Heap.lt_size q
  show (sortedHeap (z.heap.push (seqObj "list" us.toArray 0)) z.heap.objs.size us _).get? b = some u
  rw [sortedHeap_old (Nat.ne_of_lt ql) (by rw [size_push']; exact Nat.lt_succ_of_lt ql)]
  exact Heap.get?_push_of_some _ q
end
end G
/-! GS4: sorted(set(t)), len(set(t)): the look at the text. -/
namespace G
open PySem L2 PySem.Spec
/-- at p a list or a tuple of the texts xs -/
def SeqS (K : PySem.W.Frag) (H : Hp) (x : V) (xs : List Str) : Prop := ∃ p, x = .ref p ∧ (SqL K H p (xs.map V.str) ∨ SqT K H p (xs.map V.str))
section
variable {X : Cx} {g : Gi} {E : XK}
theorem RepB.strsQ {C : Cn} {W : Wd} {H : Hp} {v : V} {d : D} {l : List D} {xs : List Str} (r : RepB C W H v d) (sh : Same W.Hs H) (e1 : seqOf d = some l) (e2 : strsOf l = some xs) :
    SeqS C.K H v xs ∧ ∀ x ∈ xs, x.length ≤ sizeLine ∧ PyData.strOk x = true := by
  cases d <;> first | (cases e1; done) | skip
  all_goals cases e1
  · obtain ⟨p, vs, rfl, h1, h2, h3⟩ := r.tup sh
    obtain ⟨rfl, h4⟩ := h3.strs e2
    exact ⟨⟨p, rfl, .inr h1⟩, h4⟩
  · obtain ⟨p, vs, rfl, h1, h2, h3⟩ := r.lst sh
    obtain ⟨rfl, h4⟩ := h3.strs e2
    exact ⟨⟨p, rfl, .inl (SqL.of h1)⟩, h4⟩
/-- set(xs), by what stands behind it -/
theorem set_run {pins : List (Addr × Obj)} {s : Shared} {σ : L2.St} {H : Hp} {x : V} {u : Value} {xs : List Str} {R : Value → Shared → Prop} {F : Value → Shared → Prop} (hc : X.calm = true) (I : Inv X pins σ H s) (ru : RelV x u) (q : SeqS X.K H x xs) (few : xs.length ≤ 60)
    (fin : ∀ (a : Addr) (z : Shared) (l : List Str), Inv X pins σ H z → TxSet X.w z.heap a l → l.Perm (dedupS xs) → R (.ref a) z) :
    wpAny (model X.prog X.w) X.A (call (.type "set") [u]) R F s := by
  obtain ⟨p, rfl, q⟩ := q
  cases ru
  have bd : xs.length + 1 < scanBound := by unfold scanBound; omega
  rcases q with q | q
  · obtain ⟨its, r, pl, hz⟩ := I.list q
    exact set_list xs (I.ok.hd hc) pl.isList (by simpa using strsAre_of r) bd fun hn tk l tx mm ln kp => fin _ _ l (I.kept kp) tx (by
      obtain ⟨_, _, _, _, _, _, _, _, _, nd, _⟩ := tx
      exact perm_of_mem nd (dedupS_nodup xs) fun y => (mm y).trans dedupS_mem.symm)
  · obtain ⟨its, r, pl, hz⟩ := I.tuple q
    exact set_tuple xs (I.ok.hd hc) pl (by simpa using strsAre_of r) bd fun hn tk l tx mm ln kp => fin _ _ l (I.kept kp) tx (by
      obtain ⟨_, _, _, _, _, _, _, _, _, nd, _⟩ := tx
      exact perm_of_mem nd (dedupS_nodup xs) fun y => (mm y).trans dedupS_mem.symm)
theorem boot_setT : bootBuiltins "set" = some (.type "set") := by decide +kernel
theorem dedupS_len : ∀ l : List Str, (dedupS l).length ≤ l.length
  | [] => Nat.le_refl _
  | x :: r => by
    unfold dedupS
    have := dedupS_len r
    split
    · simp only [List.length_cons]; omega
    · simp only [List.length_cons]; omega
variable {a : Expr} {m : Fr → M D} {p1 p2 q pos : Pos}
theorem dedupI_mem {x : List Int} : ∀ {l : List (List Int)}, x ∈ dedupI l ↔ x ∈ l
  | [] => Iff.rfl
  | y :: r => by
    unfold dedupI
    split
    · rename_i h
      rw [dedupI_mem, List.mem_cons]
      constructor
      · exact .inr
      · rintro (rfl | h2)
        · simpa using h
        · exact h2
    · rw [List.mem_cons, dedupI_mem, List.mem_cons]
theorem dedupI_nodup : ∀ l : List (List Int), (dedupI l).Nodup
  | [] => List.nodup_nil
  | y :: r => by
    unfold dedupI
    split
    · exact dedupI_nodup r
    · rename_i h
      refine List.nodup_cons.mpr ⟨fun m => h ?_, dedupI_nodup r⟩
      simpa using dedupI_mem.mp m
theorem perm_memI {l m : List (List Int)} (h1 : l.Nodup) (h2 : m.Nodup) (h : ∀ x, x ∈ l ↔ x ∈ m) : l.Perm m := by
  exact perm_of_mem h1 h2 h
theorem Reps.its {C : Cn} {W : Wd} {H : Hp} (sh : Same W.Hs H) : ∀ {l : List D} {vs : List V} {ks : List (List Int)}, Reps C W vs l → itsOf l = some ks → ∃ ps : List (Addr × List Int), vs = ps.map (fun p => V.ref p.1) ∧ ps.map (·.2) = ks ∧ ∀ p ∈ ps, SqT C.K H p.1 (p.2.map V.int)
  | [], _, _, h, e => by cases h; cases e; exact ⟨[], rfl, rfl, fun _ m => nomatch m⟩
  | d :: l, _, _, h, e => by
    cases h with
    | cons h t =>
      cases d <;> first | (cases e; done) | skip
      rename_i xs
      have e : ((intsOf xs).bind fun ns => (itsOf l).map (ns :: ·)) = some _ := e
      obtain ⟨ns, e1, e⟩ := Option.bind_eq_some_iff.mp e
      obtain ⟨ks, e2, rfl⟩ := Option.map_eq_some_iff.mp e
      obtain ⟨ps, rfl, rfl, hp⟩ := Reps.its sh t e2
      cases h with
      | @tup a vs _ h1 h2 h3 =>
        have := h3.ints e1
        subst this
        refine ⟨(a, ns) :: ps, rfl, rfl, fun p m => ?_⟩
        rcases List.mem_cons.mp m with rfl | m
        · exact Same.sqT sh h1
        · exact hp p m
theorem q_lset (hu : X.A.units + 64 < cLine) (hc : X.calm = true) (hg : Gl X "len") (hm : X.mg "len" = none) (hg2 : Gl X "set") (hm2 : X.mg "set" = none) (ha : PE X a (tB (cn X g) E m)) (na : starEach [a] X.env = (false, eval a X.env) :: starEach [] X.env) :
    PE X (.Call (.Name "len" p1) [.Call (.Name "set" p2) [a] [] q] [] pos) (tE (cn X g) E fun ρ => bnd (m ρ) fun d => opt (dLset d)) := by
  refine ⟨fun pins s σ H Q I hh => ?_⟩
  obtain ⟨H0, ρ, S, W, fr, st, pp⟩ := hh
  refine PyProof.Rows.Call_ (ld_blt I hg hm boot_len (PyProof.Rows.callWith_builtin1 (PyProof.Rows.args_cons ?_ rfl) rfl rfl))
  refine PyProof.Rows.Call_ (ld_blt I hg2 hm2 boot_setT ?_)
  refine PyProof.Rows.callWith_type1 (PyProof.Rows.args_cons (thn (ha.run pins s σ H (fun x H1 => (∃ xs, SeqS X.K H1 x xs ∧ xs.length ≤ 60 ∧ Q (.int (dedupS xs).length) H1) ∨ ∃ (l : Addr) (ks : List (Addr × List Int)), x = .ref l ∧ SqL X.K H1 l (ks.map fun p => V.ref p.1) ∧ (∀ p ∈ ks, SqT X.K H1 p.1 (p.2.map V.int)) ∧ ks.length ≤ 60 ∧ Q (.int (dedupI (ks.map (·.2))).length) H1) I ?_) fun v s1 ⟨x, H1, I1, r1, kk⟩ => PyProof.Rows.args_nil ?_) na) na rfl
  · refine ⟨H0, ρ, S, W, fr, st, (Pst.fst pp).imp fun d S1 W1 H1 e1 s1 p2 v r => ?_⟩
    obtain ⟨d', hd, p3⟩ := p2.opt
    unfold dLset at hd
    split at hd
    · rename_i rr hS
      cases hd
      obtain ⟨l, h1, hd⟩ := Option.bind_eq_some_iff.mp hS
      obtain ⟨xs, h2, hd⟩ := Option.bind_eq_some_iff.mp hd
      split at hd
      · rename_i few
        cases hd
        exact .inl ⟨xs, (r.strsQ s1.sh h1 h2).1, few, p3.okk s1 _ (.int _)⟩
      · cases hd
    · match d, hd, r with
      | .lst l, hd, r =>
      have hd : ((itsOf l).bind fun ks => if ks.length ≤ 60 then some (D.int (dedupI ks).length) else none) = some d' := hd
      obtain ⟨ks, e1, hd⟩ := Option.bind_eq_some_iff.mp hd
      split at hd
      · rename_i few
        cases hd
        obtain ⟨p, vs, rfl, hq, hz, rv⟩ := r.lst s1.sh
        obtain ⟨ps, rfl, rfl, hp⟩ := Reps.its s1.sh rv e1
        exact .inr ⟨p, ps, rfl, SqL.of hq, hp, by simpa using few, p3.okk s1 _ (.int _)⟩
      · cases hd
  · rcases kk with ⟨xs, k1, k2, k3⟩ | ⟨l, ks, rfl, hl, hk, hf, q⟩
    rotate_left
    · cases r1
      obtain ⟨its, rv, pl, hz⟩ := I1.list hl
      refine call_set_tups (P := X.prog) (w := X.w) ks (I1.ok.hd hc) pl.isList (by simpa using refs_of_vals rv) (fun p hp => Inv.isT I1 (hk p hp)) (by omega) (by omega) fun h' tk L es ep t R g k => PyProof.Rows.args_nil ?_
      obtain ⟨o, h1, h2, h3⟩ := R.ob
      have zl : es.size = (dedupI (ks.map (·.2))).length := by
        have hs : es.size = L.length := by
          have := congrArg List.length R.rows
          rw [Array.length_toList] at this
          rw [this]
          unfold rowsOf
          rw [List.length_map]
        rw [hs, ← List.length_map (f := (·.2)) (as := L)]
        refine (perm_memI R.nd (dedupI_nodup _) fun y => ?_).length_eq
        rw [dedupI_mem]
        constructor
        · intro m
          obtain ⟨p, mp, rfl⟩ := List.mem_map.mp m
          exact List.mem_map.mpr ⟨p, List.mem_of_mem_take (g.sub p mp), rfl⟩
        · intro m
          obtain ⟨p, mp, rfl⟩ := List.mem_map.mp m
          exact g.all p (by rw [List.take_length]; exact mp)
      have hfew := R.few
      have hs2 : (dedupI (ks.map (·.2))).length < 64 := by
        rw [← zl]
        have := congrArg List.length R.rows
        rw [Array.length_toList] at this
        rw [this]
        unfold rowsOf
        rw [List.length_map]
        exact hfew
      have fits : t.fits es.size = true := SetTR.fits (s := { s1 with heap := h', toks := tk }) R
      exact call_len_set h1 h2 h3 fits (by rw [zl]; omega) ⟨.int (dedupI (ks.map (·.2))).length, H1, (I1.kept k).tok _, ⟨_, by rw [zl]⟩, q⟩
    refine set_run hc I1 r1 k1 k2 fun ad z l I2 tx pm => PyProof.Rows.args_nil ?_
    obtain ⟨ob, rows, age, tb, e0, ex, ed, g0, p0, n0, b0, f0, i0, l0⟩ := tx
    have zl : rows.size = (dedupS xs).length := by rw [← pm.length_eq, ← p0.length_eq, List.length_map, Array.length_toList]
    have := dedupS_len xs
    exact call_len_set e0 ex ed f0 (by rw [zl]; omega) ⟨.int (dedupS xs).length, H1, I2.tok _, ⟨_, by rw [zl]⟩, k3⟩
theorem boot_sorted : bootBuiltins "sorted" = some (.builtin "sorted") := by decide +kernel
theorem vals_strs : ∀ {us : List Value} {xs : List Str}, PyProof.Rows.StrsAre us xs → Vals (xs.map V.str) us
  | _, _, .nil => .nil
  | _, _, .cons x t h => .cons ⟨t, rfl⟩ (vals_strs h)
theorem q_sset (hc : X.calm = true) (hg : Gl X "sorted") (hm : X.mg "sorted" = none) (hg2 : Gl X "set") (hm2 : X.mg "set" = none) (ha : PE X a (tB (cn X g) E m)) (na : starEach [a] X.env = (false, eval a X.env) :: starEach [] X.env) :
    PE X (.Call (.Name "sorted" p1) [.Call (.Name "set" p2) [a] [] q] [] pos) (tE (cn X g) E fun ρ => bnd (m ρ) fun d => opt (dSset d)) := by
  refine ⟨fun pins s σ H Q I hh => ?_⟩
  obtain ⟨H0, ρ, S, W, fr, st, pp⟩ := hh
  refine PyProof.Rows.Call_ (ld_blt I hg hm boot_sorted (PyProof.Rows.callWith_builtin1 (PyProof.Rows.args_cons ?_ rfl) rfl rfl))
  refine PyProof.Rows.Call_ (ld_blt I hg2 hm2 boot_setT ?_)
  refine PyProof.Rows.callWith_type1 (PyProof.Rows.args_cons (thn (ha.run pins s σ H (fun x H1 => ∃ xs, SeqS X.K H1 x xs ∧ xs.length ≤ 60 ∧ ∀ p, H1 p = none → Q (.ref p) (upd H1 p (.lst ((sortS (dedupS xs)).map V.str)))) I ?_) fun v s1 ⟨x, H1, I1, r1, xs, k1, k2, k3⟩ => PyProof.Rows.args_nil ?_) na) na rfl
  · refine ⟨H0, ρ, S, W, fr, st, (Pst.fst pp).imp fun d S1 W1 H1 e1 s1 p2 v r => ?_⟩
    obtain ⟨d', hd, p3⟩ := p2.opt
    obtain ⟨l, h1, hd⟩ := Option.bind_eq_some_iff.mp hd
    obtain ⟨xs, h2, hd⟩ := Option.bind_eq_some_iff.mp hd
    split at hd
    · rename_i few
      cases hd
      obtain ⟨q1, q2⟩ := r.strsQ s1.sh h1 h2
      have := dedupS_len xs
      refine ⟨xs, q1, few, fun p hp => p3 _ _ (Ext.laid s1.sh hp) (s1.laid hp) _ (Rep.newL hp s1.sh ?_ (Reps.ofStrs fun y hy => q2 y (dedupS_mem.mp ((sortS_perm _).mem_iff.mp hy))))⟩
      rw [List.length_map, (sortS_perm _).length_eq, sizeLine_eq]
      omega
    · cases hd
  · refine set_run hc I1 r1 k1 k2 fun ad z l I2 tx pm => PyProof.Rows.args_nil ?_
    have := dedupS_len xs
    have hl : l.length ≤ 60 := by rw [pm.length_eq]; omega
    refine sorted_tx tx (I2.ok.hd hc) (by omega) fun z2 p out c ys kp gs os hp hg hi hpm hu => ?_
    have ey : ys = sortS (dedupS xs) := up_unique (sortedS_up ys hu) (sortS_up _) ((hpm.trans pm).trans (sortS_perm _).symm)
    have hlen : (ys.map V.str).length ≤ sizeLine := by rw [List.length_map, hpm.length_eq, sizeLine_eq]; omega
    have hn : H1 p = none := I2.hok.fresh hp
    have J : Inv X pins σ (upd H1 p (.lst (ys.map V.str))) { z with heap := z2.heap, gens := z2.gens, drawn := z2.drawn, toks := z2.toks } :=
      I2.call (ch := []) (Un.laid kp hp hn) (I2.hok.laid kp hp ⟨hlen, out.toList, c, vals_strs hi, hg⟩) (by rw [gs]; exact I2.bare) (fun _ y => nomatch y)
    have e : z2 = { z with heap := z2.heap, gens := z2.gens, drawn := z2.drawn, toks := z2.toks } := by
      obtain ⟨_, _, _, _, _⟩ := z2
      obtain ⟨_, _, _, _, _⟩ := z
      cases os
      rfl
    rw [e]
    refine ⟨.ref p, _, J, rfl, ?_⟩
    rw [ey]
    exact k3 p hn
end
end G
/-! GS5: methods of texts and lists; SIZES.get. -/
namespace G
open PySem L2
/-- a method call of one argument, as it is written -/
structure MCall (X : Cx) (o e : Expr) (apos cpos : Pos) (name : Str) : Prop where
  base : attributeBase o name X.env (eval o X.env) = eval o X.env
  few : ((backTo cpos (starEach [e] X.env)).all (fun x => !x.1) && (backToKw cpos (keywordEach [] X.env)).all (fun x => x.1.isSome) && decide (([e] : List Expr).length + ([] : List Keyword).length + (if ([] : List Keyword).isEmpty then 0 else 1) < 30)) = true
  line : (apos.endLine == cpos.line) = true
  star : starEach [e] X.env = (false, eval e X.env) :: starEach [] X.env
theorem strOk_sub {x : Str} (lo hi : Nat) (h : PyData.strOk x = true) : PyData.strOk (PySem.Builtin.Str.strSub x lo hi) = true := by
  unfold PyData.strOk at *
  rw [Array.all_eq_true_iff_forall_mem] at *
  intro c hc
  refine h c ?_
  unfold PySem.Builtin.Str.strSub at hc
  obtain ⟨i, hi, rfl⟩ := Array.mem_iff_getElem.mp hc
  rw [Array.getElem_extract]
  exact Array.getElem_mem _
theorem strOk_strip {x : Str} (y : Str) (h : PyData.strOk x = true) : PyData.strOk (Txt.stripChars x y) = true := by
  unfold Txt.stripChars
  rw [PyProof.Rows.stripBy_eq]
  exact strOk_sub _ _ h
theorem stripS_eq (x y : Str) : stripS x y = Txt.stripChars x y := by
  have g : (fun c => y.cps.toList.contains c) = y.cps.contains := funext fun c => by simp
  unfold Txt.stripChars stripS stripL
  rw [PyProof.Rows.stripBy_eq, PyProof.Rows.strSub_mk, g]
  simp [PySem.stripLo, PySem.stripHi, Str.length]
def vD : Value → D
  | .int i _ => .int i
  | .str x _ => .str x
  | .bool b => .bl b
  | _ => .non
def D.flat : D → PyData
  | .int i => .int i
  | .str x => .str x
  | .bl b => .bool b
  | _ => .none
theorem flat_eqb : ∀ a b : D, flatD a = true → flatD b = true → a.eqb b = PyData.eqv a.flat b.flat := fun a b ha hb => by
  cases a <;> first | (cases ha; done) | skip
  all_goals cases b <;> first | (cases hb; done) | rfl
theorem Rep.flatV {C : Cn} {W : Wd} {v : V} {d : D} {u : Value} (r : Rep C W v d) (ru : RelV v u) (h : flatD d = true) : vD u = d ∧ PyProof.V.Flat u d.flat := by
  cases d <;> first | (cases h; done) | skip
  · cases r
    cases ru
    exact ⟨rfl, PyProof.V.Flat.none⟩
  · cases r
    cases ru
    exact ⟨rfl, PyProof.V.Flat.bool _⟩
  · cases r
    obtain ⟨t, rfl⟩ := ru
    exact ⟨rfl, PyProof.V.Flat.int _ _⟩
  · cases r
    obtain ⟨t, rfl⟩ := ru
    exact ⟨rfl, PyProof.V.Flat.str _ _⟩
theorem Reps.flatVs {C : Cn} {W : Wd} : ∀ {vs : List V} {ds : List D} {us : List Value}, Reps C W vs ds → Vals vs us → ds.all flatD = true → us.map vD = ds ∧ ∀ u ∈ us, PyProof.V.Flat u (vD u).flat ∧ flatD (vD u) = true
  | _, _, _, .nil, .nil, _ => ⟨rfl, fun _ m => nomatch m⟩
  | _, _, _, .cons r rs, .cons q qs, h => by
    rw [List.all_cons, Bool.and_eq_true] at h
    obtain ⟨e1, f1⟩ := r.flatV q h.1
    obtain ⟨e2, f2⟩ := Reps.flatVs rs qs h.2
    refine ⟨by rw [List.map_cons, e1, e2], fun u m => ?_⟩
    rcases List.mem_cons.mp m with rfl | m
    · rw [e1]; exact ⟨f1, h.1⟩
    · exact f2 u m
section
variable {X : Cx} {g : Gi} {E : XK} {o a : Expr} {mo ma : Fr → M D} {apos cpos pos : Pos}
abbrev mMt (p : Mt) (mo ma : Fr → M D) : Fr → M D := fun ρ => bnd (mo ρ) fun x => if mtOk p x = true then bnd (ma ρ) fun y => opt (dMt p x y) else fail
theorem q_strip (ho : PE X o (tB (cn X g) E mo)) (ha : PE X a (tB (cn X g) E ma)) (mc : MCall X o a apos cpos "strip") : PE X (.Call (.Attribute o "strip" apos) [a] [] cpos) (tE (cn X g) E (mMt .strip mo ma)) := by
  refine PE.imp (pe_bm PySem.F.plainAttrs_str PySem.F.slot_str_strip PySem.F.type_str_strip mt_stripChars ho (pa_cons ha pa_nil mc.star) mc.base mc.few mc.line mc.star rfl) fun σ H Q q => ?_
  obtain ⟨H0, ρ, S, W, fr, st, pp⟩ := q
  refine ⟨H0, ρ, S, W, fr, st, (Pst.fst pp).imp fun d S1 W1 H1 e1 s1 p1 v r => ?_⟩
  split at p1
  · cases d <;> first | (rename_i hk; cases hk; done) | skip
    rename_i x _
    obtain ⟨rfl, l1, k1⟩ := r.str
    refine ⟨rfl, H0, ρ, S1, W1, fr.ext e1, s1, (Pst.fst p1).imp fun d S2 W2 H2 e2 s2 p2 u r2 => ?_⟩
    obtain ⟨d', hd, p3⟩ := p2.opt
    cases d <;> first | (cases hd; done) | skip
    cases hd
    obtain ⟨rfl, l2, k2⟩ := r2.str
    rw [stripS_eq] at p3
    exact ⟨_, _, rfl, rfl, l1, p3.okk s2 _ (.str _ (Nat.le_trans (PyProof.Rows.len_stripChars _ _) l1) (strOk_strip _ k1))⟩
  · exact p1.elim
theorem mt_cntF {C : Cn} (hC : C.K = X.K) : MtR X "list.count" (fun x xs H Q => ∃ (W : Wd) (S : Sto) (l : List D) (y : V) (b : D), xs = [y] ∧ StoOk W S H ∧ RepB C W H x (.lst l) ∧ RepB C W H y b ∧ flatD b = true ∧ l.all flatD = true ∧ Q (.int (l.countP fun d => d.eqb b : Nat)) H) := by
  intro pins s σ H x xs v us Q I rx rxs ⟨W, S, l, y, b, e, st, r1, r2, f1, f2, q⟩
  subst e
  obtain ⟨u, rfl, ru⟩ := rxs.one
  obtain ⟨p, vs, rfl, hq, hz, rv⟩ := r1.lst st.sh
  cases rx
  obtain ⟨its, rl, ⟨⟨cls, dd, data, sl⟩, n, ho, hc, hdn, hd⟩, hlen⟩ := I.list (SqL.of (K := X.K) hq)
  simp only at hc hd
  subst hc hd
  obtain ⟨e1, e2⟩ := rv.flatVs rl f2
  have r2 : Rep C W y b := r2.flat (by cases b <;> first | rfl | exact Bool.noConfusion (show false = true from f1))
  obtain ⟨b1, b2⟩ := r2.flatV ru f1
  refine call_meets PySem.F.slot_list_count ⟨_, ho, rfl⟩ PySem.F.entry_list_count (PySem.F.args_list_count_2 _ _)
    (SeqAt.list_countAt p its.toArray n dd sl u fun z => (vD z).eqb b) ⟨ho, fun z hz => ?_, ?_⟩
  · obtain ⟨k1, k2⟩ := e2 z (by simpa using hz)
    rw [flat_eqb _ _ k2 f1]
    exact PySem.W.keq_flat k1 b2
  · have ec : its.toArray.toList.countP (fun z => (vD z).eqb b) = l.countP fun d => d.eqb b := by
      rw [← e1, List.countP_map]
      rfl
    refine ⟨.int (l.countP fun d => d.eqb b : Nat), H, I.tok _, ⟨s.toks, ?_⟩, q⟩
    rw [ec]
theorem q_cnt (ho : PE X o (tB (cn X g) E mo)) (ha : PE X a (tB (cn X g) E ma)) (mc : MCall X o a apos cpos "count") : PE X (.Call (.Attribute o "count" apos) [a] [] cpos) (tE (cn X g) E (mMt .cnt mo ma)) := by
  refine PE.imp (pe_bm PySem.F.plainAttrs_list PySem.F.slot_list_count PySem.F.type_list_count (mt_cntF (C := cn X g) rfl) ho (pa_cons ha pa_nil mc.star) mc.base mc.few mc.line mc.star rfl) fun σ H Q q => ?_
  obtain ⟨H0, ρ, S, W, fr, st, pp⟩ := q
  refine ⟨H0, ρ, S, W, fr, st, (Pst.fst pp).imp fun d S1 W1 H1 e1 s1 p1 v r => ?_⟩
  split at p1
  · cases d <;> first | (rename_i hk; cases hk; done) | skip
    rename_i l _
    obtain ⟨p, vs, rfl, hq, hz, rv⟩ := r.lst s1.sh
    refine ⟨.inl ⟨rfl, vs, SqL.of hq⟩, H0, ρ, S1, W1, fr.ext e1, s1, (Pst.fst p1).imp fun d S2 W2 H2 e2 s2 p2 u r2 => ?_⟩
    obtain ⟨d', hd, p3⟩ := p2.opt
    simp only [dMt, dCnt] at hd
    split at hd
    · rename_i ok
      cases hd
      rw [Bool.and_eq_true] at ok
      exact ⟨W2, S2, l, u, d, rfl, s2, r.ext e2, r2, ok.1, ok.2, p3.okk s2 _ (.int _)⟩
    · cases hd
  · exact p1.elim
theorem mt_lixF {C : Cn} (hC : C.K = X.K) : MtR X "list.index" (fun x xs H Q => ∃ (W : Wd) (S : Sto) (l : List D) (y : V) (b : D) (j : Nat), xs = [y] ∧ StoOk W S H ∧ RepB C W H x (.lst l) ∧ RepB C W H y b ∧ flatD b = true ∧ l.all flatD = true ∧ (l.findIdx? fun d => d.eqb b) = some j ∧ Q (.int (j : Nat)) H) := by
  intro pins s σ H x xs v us Q I rx rxs ⟨W, S, l, y, b, j, e, st, r1, r2, f1, f2, hj, q⟩
  subst e
  obtain ⟨u, rfl, ru⟩ := rxs.one
  obtain ⟨p, vs, rfl, hq, hz, rv⟩ := r1.lst st.sh
  cases rx
  obtain ⟨its, rl, ⟨⟨cls, dd, data, sl⟩, n, ho, hc, hdn, hd⟩, hlen⟩ := I.list (SqL.of (K := X.K) hq)
  simp only at hc hd
  subst hc hd
  obtain ⟨e1, e2⟩ := rv.flatVs rl f2
  have r2 : Rep C W y b := r2.flat (by cases b <;> first | rfl | exact Bool.noConfusion (show false = true from f1))
  obtain ⟨b1, b2⟩ := r2.flatV ru f1
  have hjj := List.findIdx?_eq_some_iff_getElem.mp hj
  obtain ⟨hj1, hj2, hj3⟩ := hjj
  have hil : its.length = l.length := by rw [← e1, List.length_map]
  have get : ∀ m (hm : m < its.toArray.size), vD its.toArray[m] = l[m]'(by rw [← hil]; simpa using hm) := fun m hm => by
    have hm' : m < its.length := by simpa using hm
    have : (its.map vD)[m]'(by simpa using hm') = l[m]'(by rw [← hil]; exact hm') := by
      congr 1
    rw [List.getElem_map] at this
    simpa using this
  have hsz : l.length ≤ sizeLine := by rw [← rv.length]; exact hz
  rw [sizeLine_eq] at hsz
  refine call_meets PySem.F.slot_list_index ⟨_, ho, rfl⟩ PySem.F.entry_list_index (PySem.F.args_list_index_2 _ _)
    (SeqAt.list_indexAt p its.toArray n dd sl u (fun z => (vD z).eqb b) j (by simpa [hil] using hj1) (by omega) ?_ fun m hm hmj => ?_) ⟨ho, fun z hz => ?_, ?_⟩
  · rw [get]; exact hj2
  · rw [get]
    have := hj3 m hmj
    simpa using this
  · obtain ⟨k1, k2⟩ := e2 z (by simpa using hz)
    rw [flat_eqb _ _ k2 f1]
    exact PySem.W.keq_flat k1 b2
  · exact ⟨.int (j : Nat), H, I.tok _, ⟨s.toks, rfl⟩, q⟩
theorem q_lix (ho : PE X o (tB (cn X g) E mo)) (ha : PE X a (tB (cn X g) E ma)) (mc : MCall X o a apos cpos "index") : PE X (.Call (.Attribute o "index" apos) [a] [] cpos) (tE (cn X g) E (mMt .idx mo ma)) := by
  refine PE.imp (pe_bm PySem.F.plainAttrs_list PySem.F.slot_list_index PySem.F.type_list_index (mt_lixF (C := cn X g) rfl) ho (pa_cons ha pa_nil mc.star) mc.base mc.few mc.line mc.star rfl) fun σ H Q q => ?_
  obtain ⟨H0, ρ, S, W, fr, st, pp⟩ := q
  refine ⟨H0, ρ, S, W, fr, st, (Pst.fst pp).imp fun d S1 W1 H1 e1 s1 p1 v r => ?_⟩
  split at p1
  · cases d <;> first | (rename_i hk; cases hk; done) | skip
    rename_i l _
    obtain ⟨p, vs, rfl, hq, hz, rv⟩ := r.lst s1.sh
    refine ⟨.inl ⟨rfl, vs, SqL.of hq⟩, H0, ρ, S1, W1, fr.ext e1, s1, (Pst.fst p1).imp fun d S2 W2 H2 e2 s2 p2 u r2 => ?_⟩
    obtain ⟨d', hd, p3⟩ := p2.opt
    simp only [dMt, dLix] at hd
    split at hd
    · rename_i ok
      rw [Bool.and_eq_true] at ok
      split at hd
      · rename_i j hj
        cases hd
        exact ⟨W2, S2, l, u, d, j, rfl, s2, r.ext e2, r2, ok.1, ok.2, hj, p3.okk s2 _ (.int _)⟩
      · cases hd
    · cases hd
  · exact p1.elim
/-- the sizes of parts, as a module's dict -/
def SzAt (K : PySem.W.Frag) (w : World) (d : Addr) : Prop :=
  ∃ (es : Array DictEntry) (n : Nat) (t1 t2 t3 u1 u2 u3 : Tok), K.lookup d = some ⟨.type "dict", none, .dict es n, #[]⟩ ∧ es.toList.map (fun e => (e.key, e.val)) = [(.str "word" t1, .int 2 u1), (.str "one" t2, .int 3 u2), (.str "some" t3, .int 4 u3)] ∧
    PySem.W.KeysLit w.params es.toList ∧ (d == sysModules) = false
def szD (x : Str) : Int := if x = "word" then 2 else if x = "one" then 3 else if x = "some" then 4 else 0
theorem szF {es : Array DictEntry} {t1 t2 t3 u1 u2 u3 : Tok} (h : es.toList.map (fun e => (e.key, e.val)) = [(.str "word" t1, .int 2 u1), (.str "one" t2, .int 3 u2), (.str "some" t3, .int 4 u3)]) (x : Str) (z : Tok) :
    ∃ t, ((findBy Value.isStrOf es x).getD (.int 0 z)) = .int (szD x) t := by
  obtain ⟨l⟩ := es
  match l, h with
  | [⟨h1, k1, v1⟩, ⟨h2, k2, v2⟩, ⟨h3, k3, v3⟩], h =>
    simp only [List.map_cons, List.map_nil, List.cons.injEq, Prod.mk.injEq, and_true] at h
    obtain ⟨⟨rfl, rfl⟩, ⟨rfl, rfl⟩, ⟨rfl, rfl⟩⟩ := h
    unfold findBy szD
    simp only [List.find?_toArray, List.find?_cons, List.find?_nil]
    have q : ∀ (a : Str) (t : Tok), Value.isStrOf x (.str a t) = decide (x = a) := fun a t => by
      show (a == x) = decide (x = a)
      by_cases e : x = a
      · subst e; simp
      · rw [decide_eq_false e]
        exact beq_eq_false_iff_ne.mpr fun z => e z.symm
    rw [q, q, q]
    by_cases e1 : x = "word"
    · rw [if_pos e1, decide_eq_true e1]; exact ⟨_, rfl⟩
    · rw [if_neg e1, decide_eq_false e1]
      by_cases e2 : x = "one"
      · rw [if_pos e2, decide_eq_true e2]; exact ⟨_, rfl⟩
      · rw [if_neg e2, decide_eq_false e2]
        by_cases e3 : x = "some"
        · rw [if_pos e3, decide_eq_true e3]; exact ⟨_, rfl⟩
        · rw [if_neg e3, decide_eq_false e3]; exact ⟨_, rfl⟩
theorem q_sget {d : Addr} {p zp : Pos} {j : Nat} (sz : SzAt X.K X.w d) (hg : Gl X "SIZES") (hm : X.mg "SIZES" = some (.ref d)) (ha : PE X a (tB (cn X g) E ma)) (hs : starEach [a, .Constant (.int 0) j zp] X.env = [(false, eval a X.env), (false, eval (.Constant (.int 0) j zp) X.env)])
    (hl : (apos.endLine == cpos.line) = true) :
    PE X (.Call (.Attribute (.Name "SIZES" p) "get" apos) [a, .Constant (.int 0) j zp] [] cpos) (tE (cn X g) E fun ρ => bnd (ma ρ) fun x => opt (dSget x)) := by
  refine ⟨fun pins s σ H Q I h => ?_⟩
  obtain ⟨H0, ρ, S, W, fr, st, pp⟩ := h
  obtain ⟨es, n, t1, t2, t3, u1, u2, u3, lk, hk, lit, low⟩ := sz
  have ho : PE X (.Name "SIZES" p) (tC (.ref d)) := pe_glob hg hm rfl (by decide)
  refine wpAny_Call_method (o := .Name "SIZES" p) rfl (by rw [hs]; rfl) hl PySem.F.plainAttrs_dict PySem.F.slot_dict_get PySem.F.type_dict_get (thn (ho.run pins s σ H (fun x H1 => x = .ref d ∧ H1 = H) I ⟨rfl, rfl⟩) fun u s1 ⟨x, H1, I1, rx, ex, eh⟩ => ?_)
  subst ex
  subst eh
  obtain rfl : u = Value.ref d := rx
  have mp := PySem.W.mapOf_K (prog := X.prog) (w := X.w) I1.kIn lk lit
  refine ⟨mp.typeIs, fun b e => ?_, ?_⟩
  · cases e
    exact ⟨_, I1.kIn _ _ lk, rfl⟩
  · rw [hs]
    refine Calls.callWith_builtin rfl (Calls.evalArgs_plain (Calls.spliced_cons (thn (ha.run pins s1 σ H1 (fun y H2 => ∃ x, y = .str x ∧ Q (.int (szD x)) H2) I1 ?_) fun iv s2 ⟨y, H2, I2, ry, x, ey, q2⟩ =>
      Calls.spliced_cons (thn ((pe_int (X := X) (i := 0) (j := j) (pos := zp)).run pins s2 σ H2 (fun z H3 => z = .int 0 ∧ H3 = H2) I2 ⟨rfl, rfl⟩) fun fv s3 ⟨z, H3, I3, rz, ez, eh⟩ => Calls.spliced_nil ?_))))
    · refine ⟨H0, ρ, S, W, fr, st, (Pst.fst pp).imp fun d S1 W1 H1 e1 s1 p1 v r => ?_⟩
      obtain ⟨d', hd, p3⟩ := p1.opt
      cases d <;> first | (cases hd; done) | skip
      cases hd
      exact ⟨_, r.str.1, p3.okk s1 _ (.int _)⟩
    · subst ey
      subst ez
      subst eh
      obtain ⟨t, rfl⟩ := ry
      obtain ⟨z, rfl⟩ := rz
      obtain ⟨t', e⟩ := szF hk x z
      have mp3 := PySem.W.mapOf_K (prog := X.prog) (w := X.w) I3.kIn lk lit
      refine call_meetsIn PySem.F.slot_dict_get mp3.typeIs PySem.F.entry_dict_get (PySem.F.args_dict_get_3 _ _ _) (meets_dict_get_default (PySem.strKind X.prog X.w) d (strKind_is X.prog X.w x t) low (.int 0 z)) ⟨_, mp3, ?_⟩
      rw [e]
      exact ⟨.int (szD x), H3, I3.tok _, ⟨t', rfl⟩, q2⟩
end
end G
/-! GS6: the sizes of parts, as a dict that is written out. -/
namespace G
open PySem L2
theorem upd_upd {H : Hp} {p : Addr} {a b : HO} : upd (upd H p a) p b = upd H p b := by
  funext x
  by_cases h : x = p
  · rw [h, upd_same, upd_same]
  · rw [upd_ne h, upd_ne h, upd_ne h]
/-- the three pairs -/
def szK : List (Key × V) := [(.inr "word", .int 2), (.inr "one", .int 3), (.inr "some", .int 4)]
theorem szK_val (x : Str) : ((valV szK (.inr x)).getD (.int 0)) = .int (szD x) := by
  unfold szD szK
  by_cases e1 : x = "word"
  · subst e1; rfl
  · by_cases e2 : x = "one"
    · subst e2; rfl
    · by_cases e3 : x = "some"
      · subst e3; rfl
      · rw [if_neg e1, if_neg e2, if_neg e3]
        have n : ∀ y : Str, x ≠ y → decide ((Sum.inr y : Key) = Sum.inr x) = false := fun y h => decide_eq_false fun z => h (Sum.inr.inj z).symm
        unfold valV
        rw [List.find?_cons, n _ e1, List.find?_cons, n _ e2, List.find?_cons, n _ e3]
        rfl
section
variable {X : Cx} {g : Gi} {E : XK} {a : Expr} {ma : Fr → M D} {apos cpos zp dp p1 p2 p3 q1 q2 q3 : Pos} {j j1 j2 j3 i1 i2 i3 : Nat}
theorem q_dget (hu : X.A.units + 64 < cLine) (ha : PE X a (tB (cn X g) E ma)) (hs : starEach [a, .Constant (.int 0) j zp] X.env = [(false, eval a X.env), (false, eval (.Constant (.int 0) j zp) X.env)]) (hl : (apos.endLine == cpos.line) = true) :
    PE X (.Call (.Attribute (.Dict [some (.Constant (.str "word") j1 p1), some (.Constant (.str "one") j2 p2), some (.Constant (.str "some") j3 p3)] [.Constant (.int 2) i1 q1, .Constant (.int 3) i2 q2, .Constant (.int 4) i3 q3] dp) "get" apos) [a, .Constant (.int 0) j zp] [] cpos)
      (tE (cn X g) E fun ρ => bnd (ma ρ) fun x => opt (dSget x)) := by
  refine PE.imp (pe_dget2 (by omega) (pe_disp (pps_cons pe_str pe_int (pps_cons pe_str pe_int (pps_cons pe_str pe_int pps_nil))) rfl rfl (by simp) (by simp)) ha pe_int ⟨rfl, by rw [hs]; rfl, hl, by rw [hs]; rfl⟩) fun σ H Q q => ?_
  obtain ⟨H0, ρ, S, W, fr, st, pp⟩ := q
  intro p hp
  have hs0 : W.Hs p = none := st.sh.free hp
  have hl0 : W.L ≠ some p := fun z => by rw [(st.tw p z).1] at hp; cases hp
  have core : ∀ H1 : Hp, H1 = upd H p (.dK szK) → tB (cn X g) E ma σ H1 fun y H2 => (tC (.int 0)) σ H2 fun z H3 => ∃ o, DGet H3 p y o ∧ Q (o.getD z) H3 := by
    intro H1 e1
    subst e1
    have ex : Ext W H W (upd H p (.dK szK)) := Ext.own hp
    refine ⟨H0, ρ, S, W, fr.ext ex, st.own hs0 hl0, (Pst.fst (pp.ext ex)).imp fun d S2 W2 H2 e2 s2 p2 y r2 => ?_⟩
    obtain ⟨d', hd, p3⟩ := p2.opt
    cases d <;> first | (cases hd; done) | skip
    cases hd
    rename_i x
    obtain ⟨rfl, _, _⟩ := r2.str
    have hk : H2 p = some (.dK szK) := e2.kp p _ upd_same hl0
    refine ⟨valV szK (.inr x), .inl ⟨szK, .inr x, .inl hk, rfl, rfl⟩, ?_⟩
    rw [szK_val]
    exact p3.okk s2 _ (.int _)
  refine ⟨upd_same, szK, rfl, by decide, p, rfl, .inl ⟨mergeK [] szK, .inl upd_same⟩, core _ ?_⟩
  rw [upd_upd]
  rfl
end
end G
/-! G9: what is walked. -/
namespace G
open PySem L2
/-! ### an iterator that hands out new tuples -/
def ItT (n : Nat) (Ct : Hp → Prop) (Yv : Nat → List V → Prop) : L2.It :=
  ⟨fun i H => i < n ∧ Ct H, fun i H x H' => ∃ T vs, x = V.ref T ∧ H T = none ∧ H' = upd H T (.tup vs) ∧ vs.length ≤ sizeLine ∧ Yv i vs, fun i H => i = n ∧ Ct H⟩
theorem walk_T {n : Nat} {Ct : Hp → Prop} {Yv : Nat → List V → Prop} : Walk (ItT n Ct Yv) n Ct (fun i H x H' => ∃ T vs, x = V.ref T ∧ H T = none ∧ H' = upd H T (.tup vs) ∧ vs.length ≤ sizeLine ∧ Yv i vs) :=
  ⟨fun i H hi h => ⟨hi, h⟩, fun H h => ⟨rfl, h⟩, fun i H x H' _ _ y => y⟩
theorem turn_T {P : Program} {w : World} {K : PySem.W.Frag} {elts : List Expr} {kk : Nat} {tpos : Pos} {n : Nat} {Ct : Hp → Prop} {Yv : Nat → List V → Prop} {fp : List Addr} {it : Addr} {tn : Nat → Heap → Prop} (hmem : it ∈ fp)
    (hobj : ∀ i h, tn i h → ∀ b ∈ fp, ∃ o, h.get? b = some o ∧ ∀ v, o.data ≠ .cell v) (hkeep : ∀ i h h', tn i h → (∀ b ∈ fp, ∀ o, h.get? b = some o → h'.get? b = some o) → tn i h')
    (hself : ∀ (A : Around) (i : Nat) (s : Shared) (Q : Value → Shared → Prop) (E : Value → Shared → Prop), tn i s.heap → Q (.ref it) s → wpAny (model P w) A (pyIter (.ref it)) Q E s)
    (hW : ∀ (X : Cx), X.prog = P → X.w = w → X.K = K → X.calm = true → ∀ (pins : List (Addr × Obj)) (s : Shared) (σ : L2.St) (H : Hp), Inv X pins σ H s → Ct H → ∃ (fp' wr : List Addr) (Pt : Nat → Array Value → Prop) (Sx : Nat → Heap → Prop) (Mid : Nat → Addr → Heap → Prop),
      WalksT P w X.A it fp' wr n Pt Sx Mid ∧ (∀ i, tn i s.heap → Sx i s.heap) ∧ (∀ i h', Sx i h' → tn i h') ∧ (∀ b ∈ wr, b ∈ fp) ∧ ∀ i vals, Pt i vals → ∃ vs, Vals vs vals.toList ∧ vs.length ≤ sizeLine ∧ Yv i vs) :
    Turn P w K (.Tuple elts kk tpos) (ItT n Ct Yv) fp it tn where
  mem := hmem
  obj := hobj
  keep := hkeep
  self := hself
  item := fun X hP hw hK hc i pins s σ H E I hf st hg => by
    obtain ⟨hi, hct⟩ := hg
    obtain ⟨fp', wr, Pt, Sx, Mid, W, h1, h2, h3, h4⟩ := hW X hP hw hK hc pins s σ H I hct
    refine W.item i s _ _ hi (h1 i st) fun T vals h' tk hpt hT htup hmid hk => ?_
    refine ⟨_, rfl, W.go elts kk tpos i T { s with heap := h', toks := tk } _ _ hmid fun h'' hst'' hk2 => ?_⟩
    obtain ⟨vs, hv, hz, hy⟩ := h4 i vals hpt
    obtain ⟨ob, ho, hcl, nn, hd⟩ := htup
    have hT2 : h''.get? T = some ob := hk2 T ob (W.apart i T h' hmid) ho
    have new : ObjOk X.prog X.w (upd H T (.tup vs)) h'' T (.tup vs) := ⟨hz, vals.toList, hv, ob, hT2, hcl, nn, by simpa using hd⟩
    have I1 : Inv X pins σ (upd H T (.tup vs)) { s with heap := h'', toks := tk } :=
      I.turnedNew (ch := fp) (fun b o hb q => hk2 b o (fun z => hb (h3 b z)) (hk b o (fun z => hb (h3 b z)) q)) hf hT new
    refine ⟨.ref T, _, I1, rfl, ⟨T, vs, rfl, I.hok.fresh hT, rfl, hz, hy⟩, h2 _ _ hst'', fun b hb => ?_⟩
    obtain ⟨o, q, _⟩ := hobj i s.heap st b hb
    rw [upd_ne (Nat.ne_of_lt (Nat.lt_of_lt_of_le (Heap.lt_size q) hT))]
    exact (hf b hb).1
  done := fun X hP hw hK hc i pins s σ H E I hf st hg => by
    obtain ⟨rfl, hct⟩ := hg
    obtain ⟨fp', wr, Pt, Sx, Mid, W, h1, h2, h3, h4⟩ := hW X hP hw hK hc pins s σ H I hct
    exact W.done s _ _ (h1 _ st) fun h' tk hk => ⟨rfl, I.turnedL (ch := fp) (fun b o hb q => hk b o (fun z => hb (h3 b z)) q) hf⟩
/-! ### a list or a tuple that is walked -/
def SrcAt (b : Bool) (K : PySem.W.Frag) (H : Hp) (a : Addr) (xs : List V) : Prop := if b = true then SqL K H a xs else SqT K H a xs
def ItrAt (b : Bool) (h : Heap) (it a : Addr) (i : Nat) : Prop := if b = true then h.IsListIter it a i else h.IsTupleIter it a i
def CtAt (b : Bool) (h : Heap) (a : Addr) (its : Array Value) : Prop := if b = true then h.IsList a its else h.IsTuple a its
def itrObj (b : Bool) (a : Addr) : Obj := if b = true then { cls := .type "list_iterator", data := .fields #[.ref a, .int 0 0] } else { cls := .type "tuple_iterator", data := .fields #[.ref a, .int 0 0] }
theorem ItrAt.obj {b : Bool} {h : Heap} {it a : Addr} {i : Nat} (x : ItrAt b h it a i) : ∃ o, h.get? it = some o ∧ ∀ v, o.data ≠ .cell v := by
  cases b
  · obtain ⟨o, e, c, d⟩ := (show h.IsTupleIter it a i from x)
    exact ⟨o, e, fun v z => by rw [d] at z; cases z⟩
  · obtain ⟨o, e, c, d⟩ := (show h.IsListIter it a i from x)
    exact ⟨o, e, fun v z => by rw [d] at z; cases z⟩
theorem ItrAt.at {b : Bool} {h h' : Heap} {it a : Addr} {i : Nat} (x : ItrAt b h it a i) (k : ∀ o, h.get? it = some o → h'.get? it = some o) : ItrAt b h' it a i := by
  cases b
  · exact (show h.IsTupleIter it a i from x).at k
  · exact (show h.IsListIter it a i from x).at k
theorem ItrAt.new {b : Bool} {h : Heap} {it a : Addr} (e : h.get? it = some (itrObj b a)) : ItrAt b h it a 0 := by
  cases b
  · exact ⟨_, e, rfl, rfl⟩
  · exact ⟨_, e, rfl, rfl⟩
theorem src_begins (b : Bool) (a : Addr) (its : Array Value) : Begins (.ref a) (itrObj b a) fun h => CtAt b h a its := by
  cases b
  · exact begins_tuple a its
  · exact begins_list a its
theorem src_draws {P : Program} {w : World} {A : Around} (hh : A.handled = none) (b : Bool) (it a : Addr) (hne : a ≠ it) (its : Array Value) :
    Draws P w A it [it, a] its.size (fun i v => its[i]? = some v) (fun i h => ItrAt b h it a i ∧ CtAt b h a its) := by
  cases b
  · exact Draws.tuple hh it a hne its
  · exact Draws.list hh it a hne its
section
variable {X : Cx} {pins : List (Addr × Obj)} {σ : L2.St} {H : Hp} {s : Shared}
theorem src_inv {b : Bool} {a : Addr} {xs : List V} (I : Inv X pins σ H s) (h : SrcAt b X.K H a xs) : ∃ its : List Value, Vals xs its ∧ CtAt b s.heap a its.toArray ∧ xs.length ≤ sizeLine ∧ a < s.heap.objs.size := by
  cases b
  · obtain ⟨its, r, p, z⟩ := I.tuple (show SqT X.K H a xs from h)
    exact ⟨its, r, p, z, by obtain ⟨o, e, _⟩ := p; exact Heap.lt_size e⟩
  · obtain ⟨its, r, p, z⟩ := I.list (show SqL X.K H a xs from h)
    exact ⟨its, r, p.isList, z, by obtain ⟨o, n, e, _⟩ := p; exact Heap.lt_size e⟩
end
end G
/-! G10: enumerate and zip over lists and tuples. -/
namespace G
open PySem L2
set_option maxHeartbeats 1000000 in
theorem enum1_meets {v : Value} {o : Obj} {Hh : Heap → Prop} (B : Begins v o Hh) :
    Meets (Builtin.«enumerate.__new__» ⟨[.type "enumerate", v], []⟩) (fun _ R s => Hh s.heap ∧
      R (.ok (.ret (.ref (s.heap.push o).objs.size))) { s with heap := (s.heap.push o).push { cls := .type "enumerate", data := .fields #[.none, .bool false, .ref s.heap.objs.size, rawInt 0, .none, .none] } }) :=
  .of_wp fun prog w A R s h => by
    obtain ⟨hp, ge, dr, tk, os⟩ := s
    obtain ⟨hb, h⟩ := h
    have hsub := sub_enumerate
    have itr : ∀ {A' : Around} {E' : Value → Shared → Prop} {Q' : Value → Shared → Prop}, Q' (.ref hp.objs.size) ⟨hp.push o, ge, dr, tk, os⟩ → wpAny (model prog w) A' (pyIter v) Q' E' ⟨hp, ge, dr, tk, os⟩ :=
      fun q => B.iter prog w _ _ ⟨hp, ge, dr, tk, os⟩ _ hb q
    wp_walk using itr
    refine wpAny_stack_any fun stk => wpAny_pure ?_
    split
    · rename_i c1 _ _ _ _ _
      cases (c1 == Value.type "enumerate")
      all_goals
        wp_walk using itr
        exact ⟨_, rfl, h⟩
    · wp_walk using itr
      exact ⟨_, rfl, h⟩
theorem enum1_begins {prog : Program} {w : World} {A : Around} {E : Value → Shared → Prop} {s : Shared} {v : Value} {o : Obj} {Hh : Heap → Prop} {Q : Value → Shared → Prop} (B : Begins v o Hh) (h1 : Hh s.heap)
    (h : ∀ h', IsEnum h' (s.heap.objs.size + 1) s.heap.objs.size 0 .none → h'.get? s.heap.objs.size = some o → h'.objs.size = s.heap.objs.size + 2 → (∀ b ob, s.heap.get? b = some ob → h'.get? b = some ob) → Q (.ref (s.heap.objs.size + 1)) { s with heap := h' }) :
    wpAny (model prog w) A (call (.type "enumerate") [v]) Q E s := by
  refine callType_new F.called_enumerate (by decide) (F.typeCall_enumerate_1 _) (F.newCall_enumerate_1 _) (fun obj => F.args_object_init_2 obj _) F.entry_enumerate_new (enum1_meets B) ⟨h1, ?_⟩
  have zz : (s.heap.push o).objs.size = s.heap.objs.size + 1 := Heap.size_push ..
  rw [zz]
  have he : IsEnum ((s.heap.push o).push { cls := .type "enumerate", data := .fields #[.none, .bool false, .ref s.heap.objs.size, rawInt 0, .none, .none] }) (s.heap.objs.size + 1) s.heap.objs.size 0 .none := by
    have hq := Heap.get?_push_size (s.heap.push o) (o := { cls := .type "enumerate", data := .fields #[.none, .bool false, .ref s.heap.objs.size, rawInt 0, .none, .none] }) rfl
    rw [zz] at hq
    exact hq
  exact ⟨⟨_, he, rfl⟩, h _ he (Heap.get?_push_of_some _ (Heap.get?_push_size _ B.free)) (by rw [Heap.size_push, zz]) fun b ob x => Heap.get?_push_of_some _ (Heap.get?_push_of_some _ x)⟩
section
variable {X : Cx} {e e2 e3 : Expr} {ta : TA} {p pos tpos : Pos} {elts : List Expr} {kk : Nat}
def yEn (xs : List V) : Nat → List V → Prop := fun i vs => ∃ x, xs[i]? = some x ∧ vs = [.int i, x]
theorem pi_en (hg : Gl X "enumerate") (hm : X.mg "enumerate" = none) (ha : PA X [e] ta) (hs : starEach [e] X.env = [(false, eval e X.env)]) :
    PI X (.Tuple elts kk tpos) (.Call (.Name "enumerate" p) [e] [] pos) (fun σ H R => ta σ H fun vs H1 => ∃ b a xs, vs = [V.ref a] ∧ SrcAt b X.K H1 a xs ∧ R (ItT xs.length (fun H => SrcAt b X.K H a xs) (yEn xs)) H1) := by
  refine ⟨fun pins s σ H R I h => ?_⟩
  refine PyProof.Rows.Call_ (ld_blt I hg hm PyProof.Rows.boot_enumerate (PyProof.Rows.callWith_type1 (thn (ha.run pos pins s σ H _ I h) fun us s1 ⟨vs, H1, I1, r1, q1⟩ => ?_) hs rfl))
  obtain ⟨b, a, xs, rfl, hq, q⟩ := q1
  have eu := r1.ref1
  subst eu
  obtain ⟨its, rv, hct, hz, hal⟩ := src_inv I1 hq
  refine enum1_begins (src_begins b a its.toArray) hct fun h' he hit hsz hk => wpAny_pyIter_enum he ?_
  have I2 : Inv X pins σ H1 { s1 with heap := h' } := I1.kept (t' := s1.toks) hk
  have hle : ∀ c ∈ [s1.heap.objs.size + 1, s1.heap.objs.size], s1.heap.objs.size ≤ c := fun c hc => by
    have e' : c = s1.heap.objs.size + 1 ∨ c = s1.heap.objs.size := by simpa using hc
    rcases e' with z | z <;> rw [z]
    · exact Nat.le_add_right _ _
    · exact Nat.le_refl _
  refine ⟨s1.heap.objs.size + 1, [s1.heap.objs.size + 1, s1.heap.objs.size], fun i h => (∃ old, IsEnum h (s1.heap.objs.size + 1) s1.heap.objs.size (0 + (i : Int)) old) ∧ ItrAt b h s1.heap.objs.size a i, _, H1, rfl, I2, ?_, ⟨⟨.none, by rw [show (0 : Int) + ((0 : Nat) : Int) = 0 from rfl]; exact he⟩, .new hit⟩, fun c hc => I1.fpOk (hle c hc) (I1.hok.fresh (hle c hc)), q⟩
  refine turn_T (by simp) (fun i h st c hc => ?_) (fun i h h2 st k => ?_) (fun A i s Q E st h => ?_) (fun X' hP hw hK hc pins' s' σ' H' I' ct => ?_)
  · obtain ⟨⟨old, he⟩, hi⟩ := st
    have e' : c = s1.heap.objs.size + 1 ∨ c = s1.heap.objs.size := by simpa using hc
    rcases e' with z | z <;> rw [z]
    · exact ⟨_, he, fun v q => nomatch q⟩
    · exact hi.obj
  · obtain ⟨⟨old, he⟩, hi⟩ := st
    exact ⟨⟨old, k _ (by simp) _ he⟩, hi.at fun o q => k _ (by simp) o q⟩
  · obtain ⟨⟨old, he⟩, hi⟩ := st
    exact wpAny_pyIter_enum he h
  · rw [← hK] at ct
    obtain ⟨its', rv', hct', hz', _⟩ := src_inv I' ct
    have hne : a ≠ s1.heap.objs.size := Nat.ne_of_lt hal
    have hne2 : s1.heap.objs.size + 1 ≠ s1.heap.objs.size := Nat.succ_ne_self _
    have hn3 : s1.heap.objs.size + 1 ∉ [s1.heap.objs.size, a] := fun z => by
      have z' : s1.heap.objs.size + 1 = s1.heap.objs.size ∨ s1.heap.objs.size + 1 = a := by simpa using z
      rcases z' with z' | z'
      · exact hne2 z'
      · rw [← z'] at hal; exact absurd hal (Nat.not_lt.mpr (Nat.le_add_right _ _))
    have W := WalksT.enumFrom (prog := X'.prog) (w := X'.w) (A := X'.A) 0 (src_draws (P := X'.prog) (w := X'.w) (A := X'.A.in1) (I'.ok.hd hc) b s1.heap.objs.size a hne its'.toArray) (s1.heap.objs.size + 1) hne2 hn3 (by simp)
    have hlen : its'.toArray.size = xs.length := by rw [List.size_toArray, ← rv'.length]
    rw [hlen, hP, hw] at W
    refine ⟨_, _, _, _, _, W, fun i st => ⟨st.1, st.2, hct'⟩, fun i h' st => ⟨st.1, st.2.1⟩, fun c hc => by simpa using hc, fun i vals hpt => ?_⟩
    obtain ⟨t, x, hx, rfl⟩ := hpt
    have hx' : its'[i]? = some x := by simpa using hx
    have hil : i < xs.length := by
      rw [rv'.length]
      exact (List.getElem?_eq_some_iff.mp hx').1
    obtain ⟨u, hu, ru⟩ := rv'.get (i := i) (x := xs[i]) (by simp [hil])
    rw [hx'] at hu
    cases hu
    exact ⟨[.int i, xs[i]], .cons ⟨t, by rw [Int.zero_add]⟩ (.cons ru .nil), (by show 2 ≤ sizeLine; rw [sizeLine_eq]; decide), xs[i], by simp [hil], rfl⟩
def yZ2 (xs ys : List V) : Nat → List V → Prop := fun i vs => ∃ x y, xs[i]? = some x ∧ ys[i]? = some y ∧ vs = [x, y]
theorem at_its {xs : List V} {its : List Value} (rv : Vals xs its) {i : Nat} {x : Value} (hx : its.toArray[i]? = some x) : ∃ v, xs[i]? = some v ∧ RelV v x := by
  have hx' : its[i]? = some x := by simpa using hx
  have hil : i < xs.length := by
    rw [rv.length]
    exact (List.getElem?_eq_some_iff.mp hx').1
  obtain ⟨u, hu, ru⟩ := rv.get (i := i) (x := xs[i]) (by simp [hil])
  rw [hx'] at hu
  cases hu
  exact ⟨xs[i], by simp [hil], ru⟩
theorem off_ne {N j k : Nat} (h : j ≠ k) : N + j ≠ N + k := by omega
theorem pi_z2 (hg : Gl X "zip") (hm : X.mg "zip" = none) (ha : PA X [e, e2] ta) (hs : starEach [e, e2] X.env = (false, eval e X.env) :: starEach [e2] X.env) (hs2 : (backTo pos (starEach [e2] X.env)).any (·.1) = false) :
    PI X (.Tuple elts kk tpos) (.Call (.Name "zip" p) [e, e2] [] pos) (fun σ H R => ta σ H fun vs H1 => ∃ b a xs b2 a2 ys, vs = [V.ref a, V.ref a2] ∧ SrcAt b X.K H1 a xs ∧ SrcAt b2 X.K H1 a2 ys ∧
      R (ItT (min xs.length ys.length) (fun H => SrcAt b X.K H a xs ∧ SrcAt b2 X.K H a2 ys) (yZ2 xs ys)) H1) := by
  refine ⟨fun pins s σ H R I h => ?_⟩
  refine PyProof.Rows.Call_ (ld_blt I hg hm PyProof.Rows.boot_zip (PyProof.Rows.callWith_type1 (thn (ha.run pos pins s σ H _ I h) fun us s1 ⟨vs, H1, I1, r1, q1⟩ => ?_) hs hs2))
  obtain ⟨b, a, xs, b2, a2, ys, rfl, hq, hq2, q⟩ := q1
  obtain ⟨u1, u2, rfl, ru1, ru2⟩ := vals2 r1
  cases (show u1 = Value.ref a from ru1)
  cases (show u2 = Value.ref a2 from ru2)
  obtain ⟨its, rv, hct, hz, hal⟩ := src_inv I1 hq
  obtain ⟨its2, rv2, hct2, hz2, hal2⟩ := src_inv I1 hq2
  refine zip_begins2 (src_begins b a its.toArray) (src_begins b2 a2 its2.toArray) hct hct2 fun h' hzz hTI hTO hi1 hi2 hsz hk => wpAny_pyIter_zip hzz ?_
  have I2 : Inv X pins σ H1 { s1 with heap := h' } := I1.kept (t' := s1.toks) hk
  generalize hN : s1.heap.objs.size = N at *
  have hle : ∀ c ∈ [N + 4, N + 2, N + 3, N, N + 1], N ≤ c := fun c hc => by
    have e' : c = N + 4 ∨ c = N + 2 ∨ c = N + 3 ∨ c = N ∨ c = N + 1 := by simpa using hc
    rcases e' with z | z | z | z | z <;> rw [z] <;> first | exact Nat.le_refl _ | exact Nat.le_add_right _ _
  refine ⟨N + 4, [N + 4, N + 2, N + 3, N, N + 1], fun i h => IsZip h (N + 4) (N + 2) (N + 3) .none ∧ IsTupOf2 h (N + 2) (.ref N) (.ref (N + 1)) ∧ (∃ x1 x2, IsTupOf2 h (N + 3) x1 x2) ∧ ItrAt b h N a i ∧ ItrAt b2 h (N + 1) a2 i, _, H1, rfl, I2, ?_,
    ⟨hzz, hTI, ⟨_, _, hTO⟩, .new hi1, .new hi2⟩, fun c hc => I1.fpOk (by rw [hN]; exact hle c hc) (I1.hok.fresh (by rw [hN]; exact hle c hc)), q⟩
  refine turn_T (by simp) (fun i h st c hc => ?_) (fun i h h2 st k => ?_) (fun A i s Q E st h => ?_) (fun X' hP hw hK hc pins' s' σ' H' I' ct => ?_)
  · obtain ⟨x1, x2, ⟨y1, y2, x3⟩, x4, x5⟩ := st
    have e' : c = N + 4 ∨ c = N + 2 ∨ c = N + 3 ∨ c = N ∨ c = N + 1 := by simpa using hc
    rcases e' with z | z | z | z | z <;> rw [z]
    · exact ⟨_, x1, fun v q => nomatch q⟩
    · exact ⟨_, x2, fun v q => nomatch q⟩
    · exact ⟨_, x3, fun v q => nomatch q⟩
    · exact x4.obj
    · exact x5.obj
  · obtain ⟨x1, x2, ⟨y1, y2, x3⟩, x4, x5⟩ := st
    exact ⟨k _ (by simp) _ x1, k _ (by simp) _ x2, ⟨_, _, k _ (by simp) _ x3⟩, x4.at fun o q => k _ (by simp) o q, x5.at fun o q => k _ (by simp) o q⟩
  · exact wpAny_pyIter_zip st.1 h
  · rw [← hK] at ct
    obtain ⟨its', rv', hct', hz', _⟩ := src_inv I' ct.1
    obtain ⟨its2', rv2', hct2', hz2', _⟩ := src_inv I' ct.2
    have hne : a ≠ N := Nat.ne_of_lt hal
    have hne2 : a2 ≠ N + 1 := Nat.ne_of_lt (Nat.lt_succ_of_lt hal2)
    have W := WalksT.zipD2 (prog := X'.prog) (w := X'.w) (A := X'.A) (zip_sep2 (N := N) (fp1 := [a]) (fp2 := [a2]) (fun c hc => by simp at hc; rw [hc]; exact hal) (fun c hc => by simp at hc; rw [hc]; exact hal2))
      (src_draws (P := X'.prog) (w := X'.w) (A := X'.A.in1) (I'.ok.hd hc) b N a hne its'.toArray) (src_draws (P := X'.prog) (w := X'.w) (A := X'.A.in1) (I'.ok.hd hc) b2 (N + 1) a2 hne2 its2'.toArray)
    have hlen : its'.toArray.size = xs.length := by rw [List.size_toArray, ← rv'.length]
    have hlen2 : its2'.toArray.size = ys.length := by rw [List.size_toArray, ← rv2'.length]
    rw [hlen, hlen2, hP, hw] at W
    refine ⟨_, _, _, _, _, W, fun i st => ⟨st.1, st.2.1, st.2.2.1, ⟨st.2.2.2.1, hct'⟩, st.2.2.2.2, hct2'⟩, fun i h' st => ⟨st.1, st.2.1, st.2.2.1, st.2.2.2.1.1, st.2.2.2.2.1⟩, fun c hc => by simp at hc ⊢; rcases hc with z | z | z | z <;> simp [z], fun i vals hpt => ?_⟩
    obtain ⟨x, y, hx, hy, rfl⟩ := hpt
    obtain ⟨v1, g1, g2⟩ := at_its rv' hx
    obtain ⟨v2, g3, g4⟩ := at_its rv2' hy
    exact ⟨[v1, v2], .cons g2 (.cons g4 .nil), (by show 2 ≤ sizeLine; rw [sizeLine_eq]; decide), v1, v2, g1, g3, rfl⟩
end
end G
/-! G11: walks on data. -/
namespace G
open PySem L2
/-- what is given out at turn i -/
def YOK (C : Cn) (W : Wd) (ds : List D) : Nat → Hp → V → Hp → Prop := fun i H x H' => ∃ d, ds[i]? = some d ∧ ((H' = H ∧ Rep C W x d) ∨ ∃ T vs es, x = V.ref T ∧ H T = none ∧ H' = upd H T (.tup vs) ∧ vs.length ≤ sizeLine ∧ d = .tup es ∧ Reps C W vs es)
def IterS (C : Cn) (W : Wd) (J : L2.It) (ds : List D) : Prop := Walk J ds.length (fun H' => Same W.Hs H') (YOK C W ds)
def IterB (C : Cn) (W : Wd) (H : Hp) (J : L2.It) (ds : List D) : Prop := Walk J ds.length (fun H' => ∀ a o, H a = some o → W.L ≠ some a → H' a = some o) (YOK C W ds)
def iS (C : Cn) (E : XK) (mi : Fr → M (List D)) : TI := fun σ H R => ∃ (H0 : Hp) (ρ : Fr) (S : Sto) (W : Wd), Frm C H0 W ρ σ H ∧ StoOk W S H ∧ Pst C E W H (mi ρ S) fun ds _ W' H' => ∀ J, IterS C W' J ds → R J H'
def iB (C : Cn) (E : XK) (mi : Fr → M (List D)) : TI := fun σ H R => ∃ (H0 : Hp) (ρ : Fr) (S : Sto) (W : Wd), Frm C H0 W ρ σ H ∧ StoOk W S H ∧ Pst C E W H (mi ρ S) fun ds _ W' H' => ∀ J, IterB C W' H' J ds → R J H'
theorem PI.imp {X : Cx} {tg e : Expr} {t t' : TI} (h : PI X tg e t) (f : ∀ σ H R, t' σ H R → t σ H R) : PI X tg e t' := ⟨fun pins s σ H R I q => h.run pins s σ H R I (f σ H R q)⟩
theorem IterS.toB {C : Cn} {W : Wd} {S : Sto} {H : Hp} {J : L2.It} {ds : List D} (st : StoOk W S H) (h : IterS C W J ds) : IterB C W H J ds :=
  h.mono (fun H' k b o q => k b o (st.sh b o q) fun z => by rw [(st.tw b z).2] at q; cases q) fun _ _ _ _ _ _ y => y
theorem PI.toB {X : Cx} {C : Cn} {E : XK} {tg e : Expr} {mi : Fr → M (List D)} (h : PI X tg e (iS C E mi)) : PI X tg e (iB C E mi) := PI.imp h fun σ H R q => by
  obtain ⟨H0, ρ, S, W, fr, st, p⟩ := q
  exact ⟨H0, ρ, S, W, fr, st, p.imp fun ds S1 W1 H1 e1 s1 k J hj => k J (hj.toB s1)⟩
/-! a dict's keys -/
def Itq (w : World) (d : Addr) (o : Obj) (xs : List (NestedKey × V × V)) : L2.It := ⟨fun i H => H d = some (dicO w d o xs) ∧ i < xs.length, fun i H x H' => H' = H ∧ ∃ p, xs[i]? = some p ∧ x = p.2.1, fun i H => H d = some (dicO w d o xs) ∧ xs.length ≤ i⟩
theorem paired_at {α β : Type} {R : α → β → Prop} : ∀ {l : List α} {m : List β} {i : Nat} {a : α}, Paired R l m → l[i]? = some a → ∃ b, m[i]? = some b ∧ R a b
  | _, _, _, _, .nil, e => by simp at e
  | _, _, 0, _, .cons r _, e => by simp at e; subst e; exact ⟨_, rfl, r⟩
  | _, _, i + 1, a, .cons _ t, e => by
    obtain ⟨b, h1, h2⟩ := paired_at (i := i) (a := a) t (by simpa using e)
    exact ⟨b, by simpa using h1, h2⟩
theorem turn_dic {P : Program} {w : World} {K : PySem.W.Frag} {tg : Expr} {d : Addr} {o : Obj} {es : Array DictEntry} {ep : Nat} {xs : List (NestedKey × V × V)} (it : Addr) (hod : o.data = .dict es ep) : Turn P w K tg (Itq w d o xs) [it] it (fun i h => h.IsKeyIter it d i xs.length ep) where
  mem := by simp
  obj := fun i h st b hb => by
    cases List.mem_singleton.mp hb
    obtain ⟨oi, e, _, dd⟩ := st
    exact ⟨oi, e, fun v z => by rw [dd] at z; cases z⟩
  keep := fun i h h' st k => st.at fun oi e => k it (by simp) oi e
  item := by
    intro X hP hw hK hc i pins s σ H E I hf st hg
    subst hP hw hK
    obtain ⟨hd, hi⟩ := hg
    obtain ⟨f0, f1, f2, f3, f4, f5⟩ := hf it (by simp)
    obtain ⟨es', ep', ho, hx, hdt, ent⟩ := dic_raw I hd
    rw [hod] at hdt
    cases hdt
    have hp : xs[i]? = some xs[i] := List.getElem?_eq_getElem hi
    obtain ⟨en, hen, h1, h2, h3⟩ := paired_at ent hp
    have hsz : es.size = xs.length := by rw [← Array.length_toList]; exact paired_len ent
    refine next_key_item st ho hod hsz (by rw [← Array.getElem?_toList]; exact hen) fun h' st' sb => ?_
    have I1 : Inv X pins σ H { s with heap := h' } := I.turned (t' := s.toks) (fun b ob hb e => (sb.2 b hb).trans e) f0 f1 f3 f4 f5
    obtain ⟨oi, e, c, dd⟩ := id st'
    exact ⟨en.key, rfl, go_of (s := { s with heap := h' }) e c dd (by decide) ⟨_, H, I1, h2, ⟨rfl, _, hp, rfl⟩, st', fun b hb => (hf b hb).1⟩⟩
  done := by
    intro X hP hw hK hc i pins s σ H E I hf st hg
    subst hP hw hK
    obtain ⟨hd, hi⟩ := hg
    obtain ⟨f0, f1, f2, f3, f4, f5⟩ := hf it (by simp)
    obtain ⟨es', ep', ho, hx, hdt, ent⟩ := dic_raw I hd
    rw [hod] at hdt
    cases hdt
    have hsz : es.size = xs.length := by rw [← Array.length_toList]; exact paired_len ent
    exact next_key_end (I.ok.hd hc) st ho hod hsz hi fun h' eb => ⟨rfl, I.turned (t' := s.toks) (fun b ob hb e => eb b ob hb e) f0 f1 f3 f4 f5⟩
  self := fun A i s Q E st h => wpAny_pyIter_keyiter st h
theorem Reps.walkQ {C : Cn} {W : Wd} {w : World} {d : Addr} {o : Obj} {xs : List (NestedKey × V × V)} {ds : List D} (r : Reps C W (xs.map (·.2.1)) ds) {G : Hp → Prop} (hG : ∀ H, G H → H d = some (dicO w d o xs)) : Walk (Itq w d o xs) ds.length G (YOK C W ds) := by
  have hl : xs.length = ds.length := by rw [← r.length, List.length_map]
  refine ⟨fun i H hi g => ⟨hG H g, by omega⟩, fun H g => ⟨hG H g, by omega⟩, fun i H x H' hi g y => ?_⟩
  obtain ⟨rfl, p, hp, rfl⟩ := y
  obtain ⟨e, h1, h2⟩ := r.getV (i := i) (v := p.2.1) (by rw [List.getElem?_map, hp]; rfl)
  exact ⟨e, h1, .inl ⟨rfl, h2⟩⟩
/-! a list, a tuple, a text -/
section
variable {X : Cx} {tg e : Expr} {te : TE}
def iAny (w : World) (K : PySem.W.Frag) (te : TE) : TI := fun σ H R => te σ H fun x H1 => (∃ b a xs, x = V.ref a ∧ SrcAt b K H1 a xs ∧ R (if b = true then Itl K a else Itt K a) H1) ∨ (∃ z, x = V.str z ∧ R (Its z) H1) ∨ ∃ (d : Addr) (o : Obj) (xs : List (NestedKey × V × V)), x = V.ref d ∧ (d == sysModules) = false ∧ H1 d = some (dicO w d o xs) ∧ R (Itq w d o xs) H1
theorem pi_any (he : PE X e te) : PI X tg e (iAny X.w X.K te) := by
  constructor
  intro pins s σ H R I h
  refine thn (he.run pins s σ H _ I h) ?_
  rintro v s1 ⟨x, H1, I1, r1, q1⟩
  rcases q1 with ⟨b, a, xs, rfl, hq, q⟩ | ⟨z, rfl, q⟩ | ⟨d, o, xs, rfl, hsys, hd, q⟩
  · cases r1
    obtain ⟨its, rv, hct, hz, hal⟩ := src_inv I1 hq
    have I2 : Inv X pins σ H1 { s1 with heap := s1.heap.push (itrObj b a) } := I1.kept (t' := s1.toks) fun c o q => Heap.get?_push_of_some _ q
    have fpo : ∀ c ∈ [s1.heap.objs.size], FpOk X pins H1 c := fun c hc => by
      rw [List.mem_singleton] at hc
      rw [hc]
      exact I1.fpOk (Nat.le_refl _) (I1.hok.fresh (Nat.le_refl _))
    refine (src_begins b a its.toArray).iter _ _ _ _ s1 _ hct ?_
    cases b
    · exact ⟨_, _, _, _, H1, rfl, I2, turn_tuple a _, ⟨_, Heap.get?_push_size _ rfl, rfl, rfl⟩, fpo, q⟩
    · exact ⟨_, _, _, _, H1, rfl, I2, turn_list a _, ⟨_, Heap.get?_push_size _ rfl, rfl, rfl⟩, fpo, q⟩
  · obtain ⟨t, rfl⟩ := r1
    refine wpAny_pyIter_strU ?_
    have I2 : Inv X pins σ H1 { s1 with heap := s1.heap.push { cls := .type (strIterType z), data := .fields #[.str z t, .int 0 0] } } := I1.kept (t' := s1.toks) fun c o q => Heap.get?_push_of_some _ q
    have fpo : ∀ c ∈ [s1.heap.objs.size], FpOk X pins H1 c := fun c hc => by
      rw [List.mem_singleton] at hc
      rw [hc]
      exact I1.fpOk (Nat.le_refl _) (I1.hok.fresh (Nat.le_refl _))
    have ht : strIterType z = "str_ascii_iterator" ∨ strIterType z = "str_iterator" := by
      unfold strIterType
      split
      · exact .inl rfl
      · exact .inr rfl
    exact ⟨_, _, _, _, H1, rfl, I2, turn_str _ z t _ ht, ⟨_, Heap.get?_push_size _ rfl, rfl, rfl⟩, fpo, q⟩
  · cases r1
    obtain ⟨es, ep, ho, hx, hdt, ent⟩ := dic_raw I1 hd
    have hsz : es.size = xs.length := by rw [← Array.length_toList]; exact paired_len ent
    refine iter_keys hsys ho hx hdt (pi_one (tk := s1.toks) I1 _ (turn_dic _ hdt) ⟨_, Heap.get?_push_size _ rfl, rfl, ?_⟩ q)
    rw [hsz] <;> rfl
end
section
variable {X : Cx} {g : Gi} {E : XK} {tg e a b : Expr} {m ma mb : Fr → M D} {p pos tpos : Pos} {elts : List Expr} {kk : Nat}
theorem Reps.walk {C : Cn} {W : Wd} {vs : List V} {ds : List D} (r : Reps C W vs ds) {i : Nat} {H H' : Hp} {x : V} (h : YAt vs i H x H') : YOK C W ds i H x H' := by
  obtain ⟨d, h1, h2⟩ := r.getV h.2
  exact ⟨d, h1, .inl ⟨h.1, h2⟩⟩
theorem str_items {C : Cn} {W : Wd} {z : Str} (hz : PyData.strOk z = true) {i : Nat} {H H' : Hp} {x : V} (h : H' = H ∧ ∃ c, z.cps[i]? = some c ∧ x = V.str ⟨#[c]⟩) : YOK C W (z.cps.toList.map fun c => .str ⟨#[c]⟩) i H x H' := by
  obtain ⟨rfl, c, hc, rfl⟩ := h
  refine ⟨.str ⟨#[c]⟩, ?_, .inl ⟨rfl, .str _ ?_ ?_⟩⟩
  · rw [List.getElem?_map, Array.getElem?_toList, hc]; rfl
  · show 1 ≤ sizeLine
    rw [sizeLine_eq]; decide
  · unfold PyData.strOk at *
    rw [Array.all_eq_true_iff_forall_mem] at hz
    have := hz c (Array.mem_of_getElem? hc)
    simpa using this
theorem Rep.tI {C : Cn} {W : Wd} {v : V} {ds : List D} (h : Rep C W v (.tup ds)) : ∃ a vs, v = V.ref a ∧ SqT C.K W.Hs a vs ∧ vs.length ≤ sizeLine ∧ Reps C W vs ds := by
  cases h with | tup h1 h2 h3 => exact ⟨_, _, rfl, h1, h2, h3⟩
theorem Rep.lI {C : Cn} {W : Wd} {v : V} {ds : List D} (h : Rep C W v (.lst ds)) : ∃ a vs, v = V.ref a ∧ W.Hs a = some (.lst vs) ∧ vs.length ≤ sizeLine ∧ Reps C W vs ds := by
  cases h with | lst h1 h2 h3 => exact ⟨_, _, rfl, h1, h2, h3⟩
theorem Rep.sI {C : Cn} {W : Wd} {v : V} {x : Str} (h : Rep C W v (.str x)) : v = V.str x ∧ x.length ≤ sizeLine ∧ PyData.strOk x = true := by
  cases h with | str _ h1 h2 => exact ⟨rfl, h1, h2⟩
theorem i_seq (he : PE X e (tE (cn X g) E m)) : PI X tg e (iS (cn X g) E fun ρ => bnd (m ρ) fun d => opt (itemsOf d)) := PI.imp (pi_any he) fun σ H R q => by
  obtain ⟨H0, ρ, S, W, fr, st, p⟩ := q
  refine ⟨H0, ρ, S, W, fr, st, (Pst.fst p).imp fun d S1 W1 H1 e1 s1 p1 v r => ?_⟩
  obtain ⟨ds, hd, p2⟩ := p1.opt
  have k := p2.okk s1
  cases d <;> first | (cases hd; done) | skip
  · rename_i x
    obtain ⟨rfl, h1, h2⟩ := r.sI
    · cases hd
      refine .inr (.inl ⟨_, rfl, k _ ?_⟩)
      have w := walk_str (z := x)
      have : (x.cps.toList.map fun c => (D.str ⟨#[c]⟩)).length = x.cps.size := by rw [List.length_map, Array.length_toList]
      unfold IterS
      rw [this]
      exact w.mono (fun _ _ => trivial) fun i H x H' _ _ y => str_items h2 y
  · obtain ⟨a, vs, rfl, h1, h2, h3⟩ := r.tI
    · cases hd
      refine .inl ⟨false, _, _, rfl, Same.sqT s1.sh h1, k _ ?_⟩
      have w := walk_tup (K := X.K) (a := a) (xs := vs)
      unfold IterS
      rw [← h3.length]
      exact w.mono (fun H' k => Same.sqT k h1) fun i H x H' _ _ y => h3.walk y
  · obtain ⟨a, vs, rfl, h1, h2, h3⟩ := r.lI
    · cases hd
      refine .inl ⟨true, _, _, rfl, SqL.of (s1.sh _ _ h1), k _ ?_⟩
      have w := walk_list (K := X.K) (a := a) (xs := vs)
      unfold IterS
      rw [← h3.length]
      exact w.mono (fun H' k => SqL.of (k _ _ h1)) fun i H x H' _ _ y => h3.walk y
  · cases hd
    cases r with
    | dct h1 h2 h3 h4 h5 h6 h7 => exact .inr (.inr ⟨_, _, _, rfl, h3, s1.sh _ _ h1, k _ (h6.walkQ fun H' hs => hs _ _ h1)⟩)
theorem i_seqB (he : PE X e (tB (cn X g) E m)) : PI X tg e (iB (cn X g) E fun ρ => bnd (m ρ) fun d => opt (itemsOf d)) := PI.imp (pi_any he) fun σ H R q => by
  obtain ⟨H0, ρ, S, W, fr, st, p⟩ := q
  refine ⟨H0, ρ, S, W, fr, st, (Pst.fst p).imp fun d S1 W1 H1 e1 s1 p1 v r => ?_⟩
  obtain ⟨ds, hd, p2⟩ := p1.opt
  have k := p2.okk s1
  have nl : ∀ b o, W1.Hs b = some o → W1.L ≠ some b := fun b o q z => by rw [(s1.tw b z).2] at q; cases q
  cases d <;> first | (cases hd; done) | skip
  · obtain ⟨rfl, h1, h2⟩ := r.str
    rename_i x
    cases hd
    refine .inr (.inl ⟨_, rfl, k _ ?_⟩)
    have w := walk_str (z := x)
    have : (x.cps.toList.map fun c => (D.str ⟨#[c]⟩)).length = x.cps.size := by rw [List.length_map, Array.length_toList]
    unfold IterB
    rw [this]
    exact w.mono (fun _ _ => trivial) fun i H x H' _ _ y => str_items h2 y
  · obtain ⟨a, vs, rfl, h1, h2, h3⟩ := (r.flat rfl).tI
    · cases hd
      refine .inl ⟨false, _, _, rfl, Same.sqT s1.sh h1, k _ ?_⟩
      have w := walk_tup (K := X.K) (a := a) (xs := vs)
      unfold IterB
      rw [← h3.length]
      exact w.mono (fun H' k => Same.sqT (fun b o q => k b o (s1.sh b o q) (nl b o q)) h1) fun i H x H' _ _ y => h3.walk y
  · have hb := r
    obtain ⟨a, vs, rfl, h1, h2, h3⟩ := r.lst s1.sh
    cases hd
    refine .inl ⟨true, _, _, rfl, SqL.of h1, k _ ?_⟩
    have w := walk_list (K := X.K) (a := a) (xs := vs)
    unfold IterB
    rw [← h3.length]
    refine w.mono (fun H' k => SqL.of (k _ _ h1 ?_)) fun i H x H' _ _ y => h3.walk y
    rcases hb with hb | ⟨a', z, _, _, h4⟩
    · cases hb with
      | lst g1 g2 g3 => exact nl _ _ g1
    · cases z; exact h4
  · have hb := r
    obtain ⟨a, o, xs, rfl, h1, h2, h3, h4, h5, h6, h7⟩ := r.dct s1.sh
    cases hd
    refine .inr (.inr ⟨_, _, _, rfl, h3, h1, k _ (h6.walkQ fun H' hs => hs _ _ h1 ?_)⟩)
    rcases hb with hb | ⟨a', z, _, _, h4⟩
    · cases hb with
      | dct g1 _ _ _ _ _ _ => exact nl _ _ g1
    · cases z; exact h4
theorem rng_items {C : Cn} {W : Wd} {lo : Int} {n i : Nat} {H H' : Hp} {x : V} (hi : i < n) (h : H' = H ∧ x = V.int (lo + i)) : YOK C W ((List.range n).map fun (k : Nat) => D.int (lo + (k : Int))) i H x H' := by
  obtain ⟨rfl, rfl⟩ := h
  exact ⟨.int (lo + i), by rw [List.getElem?_map, List.getElem?_range hi]; rfl, .inl ⟨rfl, .int _⟩⟩
theorem i_rng (hg : Gl X "range") (hm : X.mg "range" = none) (ha : PE X a (tE (cn X g) E ma)) (hs : starEach [a] X.env = [(false, eval a X.env)]) :
    PI X tg (.Call (.Name "range" p) [a] [] pos) (iS (cn X g) E fun ρ => bnd (ma ρ) fun x => match x with | .int n => opt (rngD 0 n) | _ => fail) := PI.imp (pi_range1 hg hm (pa_cons ha pa_nil hs) hs) fun σ H R q => by
  obtain ⟨H0, ρ, S, W, fr, st, p⟩ := q
  refine ⟨H0, ρ, S, W, fr, st, (Pst.fst p).imp fun d S1 W1 H1 e1 s1 p1 v r => ?_⟩
  cases d <;> first | exact p1.elim | skip
  rename_i n
  cases r
  obtain ⟨ds, hd, p2⟩ := p1.opt
  have k := p2.okk s1
  unfold rngD at hd
  split at hd
  · rename_i hb
    cases hd
    refine ⟨n, rfl, hb.2.2.1, hb.2.2.2.1, k _ ?_⟩
    unfold IterS
    have e0 : (n - 0).toNat = n.toNat := by rw [Int.sub_zero]
    rw [List.length_map, List.length_range, e0]
    exact (walk_range (lo := 0) (n := n.toNat)).mono (fun _ _ => trivial) fun i H x H' hi _ y => rng_items hi y
  · cases hd
theorem i_rng2 (hg : Gl X "range") (hm : X.mg "range" = none) (ha : PE X a (tE (cn X g) E ma)) (hb : PE X b (tE (cn X g) E mb)) (hs : starEach [a, b] X.env = [(false, eval a X.env), (false, eval b X.env)]) (hs2 : starEach [b] X.env = [(false, eval b X.env)]) :
    PI X tg (.Call (.Name "range" p) [a, b] [] pos) (iS (cn X g) E fun ρ => bnd (ma ρ) fun x => bnd (mb ρ) fun y => match x, y with | .int m, .int n => opt (rngD m n) | _, _ => fail) := PI.imp (pi_range2 hg hm (pa_cons ha (pa_cons hb pa_nil hs2) (by rw [hs, hs2])) hs hs2) fun σ H R q => by
  obtain ⟨H0, ρ, S, W, fr, st, p⟩ := q
  refine ⟨H0, ρ, S, W, fr, st, (Pst.fst p).imp fun d S1 W1 H1 e1 s1 p1 v r => ?_⟩
  refine ⟨H0, ρ, S1, W1, fr.ext e1, s1, (Pst.fst p1).imp fun d2 S2 W2 H2 e2 s2 p2 v2 r2 => ?_⟩
  cases d <;> first | exact p2.elim | skip
  cases d2 <;> first | exact p2.elim | skip
  cases r
  cases r2
  rename_i m n
  obtain ⟨ds, hd, p3⟩ := p2.opt
  have k := p3.okk s2
  unfold rngD at hd
  split at hd
  · rename_i hb
    cases hd
    refine ⟨m, n, rfl, ⟨hb.1, hb.2.1, hb.2.2.1, hb.2.2.2.1⟩, k _ ?_⟩
    unfold IterS
    rw [List.length_map, List.length_range]
    exact (walk_range (lo := m) (n := (n - m).toNat)).mono (fun _ _ => trivial) fun i H x H' hi _ y => rng_items hi y
  · cases hd
/-- a shared list or tuple -/
theorem seq_src {C : Cn} {W : Wd} {v : V} {d : D} {l : List D} (r : Rep C W v d) (h : seqOf d = some l) : ∃ b a vs, v = V.ref a ∧ SrcAt b C.K W.Hs a vs ∧ Reps C W vs l ∧ vs.length ≤ sizeLine := by
  cases d <;> first | (cases h; done) | skip
  · cases h
    cases r with
    | tup h1 h2 h3 => exact ⟨false, _, _, rfl, h1, h3, h2⟩
  · cases h
    cases r with
    | lst h1 h2 h3 => exact ⟨true, _, _, rfl, SqL.of h1, h3, h2⟩
theorem SrcAt.mono {b : Bool} {K : PySem.W.Frag} {H H' : Hp} {a : Addr} {xs : List V} (e : Same H H') (h : SrcAt b K H a xs) : SrcAt b K H' a xs := by
  cases b
  · exact Same.sqT e h
  · exact e.seq h
theorem enum_get : ∀ (l : List D) (k i : Nat) (d : D), l[i]? = some d → (enum k l)[i]? = some (.tup [.int ((k + i : Nat) : Int), d])
  | d :: l, k, 0, _, h => by simp at h; subst h; simp [enum]
  | d :: l, k, i + 1, e, h => by
    simp only [enum, List.getElem?_cons_succ] at h ⊢
    rw [enum_get l (k + 1) i e h]
    have : k + 1 + i = k + (i + 1) := by omega
    rw [this]
theorem enum_len : ∀ (l : List D) (k : Nat), (enum k l).length = l.length
  | [], _ => rfl
  | _ :: l, k => by simp [enum, enum_len l]
theorem i_enm (hg : Gl X "enumerate") (hm : X.mg "enumerate" = none) (ha : PE X a (tE (cn X g) E ma)) (hs : starEach [a] X.env = [(false, eval a X.env)]) :
    PI X (.Tuple elts kk tpos) (.Call (.Name "enumerate" p) [a] [] pos) (iS (cn X g) E fun ρ => bnd (ma ρ) fun x => bnd (opt (seqOf x)) fun l => ret (enum 0 l)) := PI.imp (pi_en hg hm (pa_cons ha pa_nil hs) hs) fun σ H R q => by
  obtain ⟨H0, ρ, S, W, fr, st, p⟩ := q
  refine ⟨H0, ρ, S, W, fr, st, (Pst.fst p).imp fun d S1 W1 H1 e1 s1 p1 v r => ?_⟩
  obtain ⟨l, hl, p2⟩ := (Pst.fst p1).opt
  have k := (p2.okk s1).okk s1
  obtain ⟨b, q, vs, rfl, h1, h2, h3⟩ := seq_src r hl
  refine ⟨b, q, vs, rfl, SrcAt.mono s1.sh h1, k _ ?_⟩
  unfold IterS
  rw [enum_len, ← h2.length]
  refine walk_T.mono (fun H' e => SrcAt.mono e h1) fun i H x H' hi _ y => ?_
  obtain ⟨T, us, rfl, hT, rfl, hz, x0, hx0, rfl⟩ := y
  obtain ⟨d0, hd0, r0⟩ := h2.getV hx0
  exact ⟨_, enum_get l 0 i d0 hd0, .inr ⟨T, _, _, rfl, hT, rfl, hz, rfl, .cons (by rw [Nat.zero_add]; exact .int _) (.cons r0 .nil)⟩⟩
theorem zipD_get : ∀ (l m : List D) (i : Nat) (d e : D), l[i]? = some d → m[i]? = some e → (zipD l m)[i]? = some (.tup [d, e])
  | d :: l, e :: m, 0, _, _, h1, h2 => by simp at h1 h2; subst h1 h2; simp [zipD]
  | d :: l, e :: m, i + 1, _, _, h1, h2 => by
    simp only [zipD, List.getElem?_cons_succ] at h1 h2 ⊢
    exact zipD_get l m i _ _ h1 h2
theorem zipD_len : ∀ l m : List D, (zipD l m).length = min l.length m.length
  | [], _ => by simp [zipD]
  | _ :: _, [] => by simp [zipD]
  | _ :: l, _ :: m => by simp [zipD, zipD_len l m]
theorem i_z2 (hg : Gl X "zip") (hm : X.mg "zip" = none) (ha : PE X a (tE (cn X g) E ma)) (hb : PE X b (tE (cn X g) E mb)) (hs : starEach [a, b] X.env = (false, eval a X.env) :: starEach [b] X.env) (hs2 : starEach [b] X.env = [(false, eval b X.env)]) (hs3 : (backTo pos (starEach [b] X.env)).any (·.1) = false) :
    PI X (.Tuple elts kk tpos) (.Call (.Name "zip" p) [a, b] [] pos) (iS (cn X g) E fun ρ => bnd (ma ρ) fun x => bnd (mb ρ) fun y => bnd (opt (seqOf x)) fun l => bnd (opt (seqOf y)) fun m => ret (zipD l m)) := PI.imp (pi_z2 hg hm (pa_cons ha (pa_cons hb pa_nil hs2) hs) hs hs3) fun σ H R q => by
  obtain ⟨H0, ρ, S, W, fr, st, p⟩ := q
  refine ⟨H0, ρ, S, W, fr, st, (Pst.fst p).imp fun d S1 W1 H1 e1 s1 p1 v r => ?_⟩
  refine ⟨H0, ρ, S1, W1, fr.ext e1, s1, (Pst.fst p1).imp fun d2 S2 W2 H2 e2 s2 p2 v2 r2 => ?_⟩
  obtain ⟨l, hl, p3⟩ := (Pst.fst p2).opt
  obtain ⟨m, hm', p4⟩ := (Pst.fst (p3.okk s2)).opt
  have k := (p4.okk s2).okk s2
  obtain ⟨b1, q1, vs, rfl, h1, h2, h3⟩ := seq_src (r.mono e2.le) hl
  obtain ⟨b2, q2, us, rfl, g1, g2, g3⟩ := seq_src r2 hm'
  refine ⟨b1, q1, vs, b2, q2, us, rfl, SrcAt.mono s2.sh h1, SrcAt.mono s2.sh g1, k _ ?_⟩
  unfold IterS
  rw [zipD_len, ← h2.length, ← g2.length]
  refine walk_T.mono (fun H' e => ⟨SrcAt.mono e h1, SrcAt.mono e g1⟩) fun i H x H' hi _ y => ?_
  obtain ⟨T, ws, rfl, hT, rfl, hz, x0, y0, hx0, hy0, rfl⟩ := y
  obtain ⟨d0, hd0, r0⟩ := h2.getV hx0
  obtain ⟨d1, hd1, r1⟩ := g2.getV hy0
  exact ⟨_, zipD_get l m i d0 d1 hd0 hd1, .inr ⟨T, _, _, rfl, hT, rfl, hz, rfl, .cons r0 (.cons r1 .nil)⟩⟩
end
end G
/-! G12: targets, comprehensions. -/
namespace G
open PySem L2
mutual
def gT (K : PySem.W.Frag) : Tg → TG
  | .nm i => gName i
  | .tp ts => gTup K ts.length (gTs K ts)
def gTs (K : PySem.W.Frag) : List Tg → TGs
  | [] => gNil
  | t :: ts => gCons (gT K t) (gTs K ts)
end
/-- only the slots vs were set -/
def SetIn (vs : List Nat) (σ σ' : L2.St) : Prop := σ'.length = σ.length ∧ ∀ j : Nat, j ∉ vs → σ'[j]? = σ[j]?
theorem SetIn.refl (vs : List Nat) (σ : L2.St) : SetIn vs σ σ := ⟨rfl, fun _ _ => rfl⟩
theorem SetIn.trans {vs us : List Nat} {σ σ1 σ2 : L2.St} (a : SetIn vs σ σ1) (b : SetIn us σ1 σ2) : SetIn (vs ++ us) σ σ2 :=
  ⟨b.1.trans a.1, fun j h => (b.2 j fun z => h (by simp [z])).trans (a.2 j fun z => h (by simp [z]))⟩
theorem SetIn.sub {vs us : List Nat} {σ σ1 : L2.St} (a : SetIn vs σ σ1) (h : ∀ j ∈ vs, j ∈ us) : SetIn us σ σ1 := ⟨a.1, fun j hj => a.2 j fun z => hj (h j z)⟩
section
variable {C : Cn} {H0 : Hp} {W : Wd} {ρ ρ' : Fr} {σ : L2.St} {H : Hp}
/-- a shared value into a slot -/
theorem Frm.set {i : Nat} {v : V} {d : D} (f : Frm C H0 W ρ σ H) (r : Rep C W v d) (hi : i < ρ.length) : Frm C H0 W (ρ.set i (some (.sh d))) (σ.set i (some v)) H := by
  have hiσ : i < σ.length := by rw [f.len]; exact hi
  refine ⟨by simp [f.len], fun j e h => ?_, fun j e h => ?_, fun j k e e' a hjk h1 h2 h3 => ?_⟩
  · by_cases hj : i = j
    · subst hj
      rw [List.getElem?_set_self hi] at h
      cases h
      exact ⟨v, by rw [List.getElem?_set_self hiσ], r⟩
    · rw [List.getElem?_set_ne hj] at h
      obtain ⟨u, h1, h2⟩ := f.sh j e h
      exact ⟨u, by rw [List.getElem?_set_ne hj]; exact h1, h2⟩
  · by_cases hj : i = j
    · subst hj
      rw [List.getElem?_set_self hi] at h
      cases h
    · rw [List.getElem?_set_ne hj] at h
      obtain ⟨u, h1, h2⟩ := f.ow j e h
      exact ⟨u, by rw [List.getElem?_set_ne hj]; exact h1, h2⟩
  · have n1 : i ≠ j := fun z => by
      subst z
      rw [List.getElem?_set_self hi] at h1; cases h1
    have n2 : i ≠ k := fun z => by
      subst z
      rw [List.getElem?_set_self hi] at h2; cases h2
    rw [List.getElem?_set_ne n1] at h1 h3
    rw [List.getElem?_set_ne n2] at h2 ⊢
    exact f.dj j k e e' a hjk h1 h2 h3
mutual
theorem gT_of (sh : Same W.Hs H) : ∀ (t : Tg) {ρ ρ' : Fr} {σ : L2.St} {v : V} {d : D} {Q : L2.St → Hp → Prop}, Frm C H0 W ρ σ H → Rep C W v d → asgT t ρ d = some ρ' → (∀ σ', Frm C H0 W ρ' σ' H → SetIn t.slots σ σ' → Q σ' H) → gT C.K t v σ H Q
  | .nm i, ρ, ρ', σ, v, d, Q, f, r, e, k => by
    simp only [asgT, setF] at e
    split at e
    · rename_i hi
      cases e
      refine k _ (f.set r hi) ⟨by simp, fun j hj => ?_⟩
      have : i ≠ j := fun z => hj (by simp [Tg.slots, z])
      rw [List.getElem?_set_ne this]
    · cases e
  | .tp ts, ρ, ρ', σ, v, d, Q, f, r, e, k => by
    cases d <;> simp only [asgT] at e <;> first | (cases e; done) | skip
    rename_i ds
    obtain ⟨a, vs, rfl, h1, h2, h3⟩ := r.tI
    have hl : ts.length = ds.length := asgTs_len ts e
    exact ⟨a, vs, rfl, Same.sqT sh h1, by rw [h3.length, hl], gTs_of sh ts f h3 e k⟩
theorem gTs_of (sh : Same W.Hs H) : ∀ (ts : List Tg) {ρ ρ' : Fr} {σ : L2.St} {vs : List V} {ds : List D} {Q : L2.St → Hp → Prop}, Frm C H0 W ρ σ H → Reps C W vs ds → asgTs ts ρ ds = some ρ' → (∀ σ', Frm C H0 W ρ' σ' H → SetIn (Tg.slotsL ts) σ σ' → Q σ' H) → gTs C.K ts vs σ H Q
  | [], ρ, ρ', σ, vs, ds, Q, f, r, e, k => by
    cases r with
    | nil =>
      cases e
      exact ⟨rfl, k _ f (SetIn.refl _ _)⟩
    | cons _ _ => cases e
  | t :: ts, ρ, ρ', σ, vs, ds, Q, f, r, e, k => by
    cases r with
    | nil => cases e
    | cons r rs =>
      simp only [asgTs] at e
      obtain ⟨ρ1, e1, e2⟩ := Option.bind_eq_some_iff.mp e
      exact ⟨_, _, rfl, gT_of sh t f r e1 fun σ1 f1 s1 => gTs_of sh ts f1 rs e2 fun σ2 f2 s2 => k σ2 f2 (s1.trans s2)⟩
theorem asgTs_len : ∀ (ts : List Tg) {ρ ρ' : Fr} {ds : List D}, asgTs ts ρ ds = some ρ' → ts.length = ds.length
  | [], _, _, ds, e => by cases ds <;> first | rfl | cases e
  | t :: ts, _, _, ds, e => by
    cases ds with
    | nil => cases e
    | cons d ds =>
      simp only [asgTs] at e
      obtain ⟨ρ1, e1, e2⟩ := Option.bind_eq_some_iff.mp e
      simp [asgTs_len ts e2]
end
theorem wipe_get (σ : L2.St) : ∀ (vs : List Nat) (j : Nat), (wipe σ vs)[j]? = if j ∈ vs ∧ j < σ.length then some none else σ[j]?
  | [], j => by simp [wipe]
  | v :: vs, j => by
    unfold wipe
    by_cases h : v = j
    · subst h
      by_cases hv : v < σ.length
      · rw [List.getElem?_set_self (by rw [wipe_length]; exact hv), if_pos ⟨by simp, hv⟩]
      · rw [if_neg (fun z => hv z.2), List.getElem?_eq_none (by simp [wipe_length]; omega), List.getElem?_eq_none (by omega)]
    · rw [List.getElem?_set_ne h, wipe_get σ vs j]
      have : (j ∈ v :: vs ∧ j < σ.length) ↔ (j ∈ vs ∧ j < σ.length) := by
        simp only [List.mem_cons]
        constructor
        · rintro ⟨z | z, q⟩
          · exact absurd z.symm h
          · exact ⟨z, q⟩
        · rintro ⟨z, q⟩
          exact ⟨.inr z, q⟩
      simp only [this]
theorem wipeF_get (ρ : Fr) : ∀ (vs : List Nat) (j : Nat), (wipeF ρ vs)[j]? = if j ∈ vs ∧ j < ρ.length then some none else ρ[j]?
  | [], j => by simp [wipeF]
  | v :: vs, j => by
    have hl : (wipeF ρ vs).length = ρ.length := by
      clear j
      induction vs with
      | nil => rfl
      | cons a b ih => simp [wipeF, ih]
    unfold wipeF
    by_cases h : v = j
    · subst h
      by_cases hv : v < ρ.length
      · rw [List.getElem?_set_self (by rw [hl]; exact hv), if_pos ⟨by simp, hv⟩]
      · rw [if_neg (fun z => hv z.2), List.getElem?_eq_none (by simp [hl]; omega), List.getElem?_eq_none (by omega)]
    · rw [List.getElem?_set_ne h, wipeF_get ρ vs j]
      have : (j ∈ v :: vs ∧ j < ρ.length) ↔ (j ∈ vs ∧ j < ρ.length) := by
        simp only [List.mem_cons]
        constructor
        · rintro ⟨z | z, q⟩
          · exact absurd z.symm h
          · exact ⟨z, q⟩
        · rintro ⟨z, q⟩
          exact ⟨.inr z, q⟩
      simp only [this]
theorem wipeF_length (ρ : Fr) : ∀ vs : List Nat, (wipeF ρ vs).length = ρ.length
  | [] => rfl
  | v :: vs => by simp [wipeF, wipeF_length ρ vs]
theorem SetIn.wipe {vs : List Nat} {σ σ' : L2.St} (h : SetIn vs (wipe σ vs) σ') : wipe σ' vs = wipe σ vs := by
  apply List.ext_getElem?
  intro j
  rw [wipe_get, wipe_get]
  have hl : σ'.length = σ.length := by rw [h.1, wipe_length]
  rw [hl]
  split
  · rfl
  · rename_i hn
    by_cases hj : j ∈ vs
    · have : ¬ j < σ.length := fun z => hn ⟨hj, z⟩
      rw [List.getElem?_eq_none (by omega), List.getElem?_eq_none (by omega)]
    · rw [h.2 j hj, wipe_get, if_neg hn]
theorem Frm.wipe (f : Frm C H0 W ρ σ H) (vs : List Nat) : Frm C H0 W (wipeF ρ vs) (L2.wipe σ vs) H := by
  have key : ∀ (j : Nat) (sl : Slot), (wipeF ρ vs)[j]? = some (some sl) → ρ[j]? = some (some sl) ∧ (L2.wipe σ vs)[j]? = σ[j]? := fun j sl h => by
    rw [wipeF_get] at h
    split at h
    · cases h
    · rename_i hn
      refine ⟨h, ?_⟩
      rw [wipe_get, f.len, if_neg hn]
  refine ⟨by rw [wipe_length, wipeF_length]; exact f.len, fun j e h => ?_, fun j e h => ?_, fun j k e e' a hjk h1 h2 h3 => ?_⟩
  · obtain ⟨h1, h2⟩ := key j _ h
    obtain ⟨v, g1, g2⟩ := f.sh j e h1
    exact ⟨v, by rw [h2]; exact g1, g2⟩
  · obtain ⟨h1, h2⟩ := key j _ h
    obtain ⟨v, g1, g2⟩ := f.ow j e h1
    exact ⟨v, by rw [h2]; exact g1, g2⟩
  · obtain ⟨a1, a2⟩ := key j _ h1
    obtain ⟨b1, b2⟩ := key k _ h2
    rw [a2] at h3
    rw [b2]
    exact f.dj j k e e' a hjk a1 b1 h3
end
section
variable {C : Cn} {E : XK} {α β γ : Type} {W W1 : Wd} {H H1 : Hp} {S : Sto}
theorem Pst.fst0 {m : M α} {f : α → M β} {k : β → Sto → Wd → Hp → Prop} (h : Pst C E W H (bnd m f S) k) (e : Ext W H W1 H1) : Pst C E W1 H1 (m S) (fun a S1 _ _ => Pst C E W H (f a S1) k) := by
  unfold bnd at h
  cases q : m S with
  | ok a S1 => rw [q] at h; exact fun H' W' e' s => h
  | exc c S1 => rw [q] at h; exact fun H' W' e' s => h H' W' (e.trans e') s
  | bad => rw [q] at h; exact h
theorem Pst.noexc {m : M α} {k : α → Sto → Wd → Hp → Prop} (h : Pst C E W H (G.noexc m S) k) (E' : XK) : Pst C E' W H (m S) k := by
  unfold G.noexc at h
  cases q : m S with
  | ok a S1 => rw [q] at h; exact h
  | exc c S1 => rw [q] at h; exact h.elim
  | bad => rw [q] at h; exact h
theorem bnd_assoc (m : M α) (f : α → M β) (h : β → M γ) : bnd (bnd m f) h = bnd m fun a => bnd (f a) h := by
  funext s
  unfold bnd
  cases m s <;> rfl
theorem bnd_ret (a : α) (f : α → M β) : bnd (ret a) f = f a := rfl
/-- an own object is written anew -/
theorem Ext.put {D : Addr} {o : HO} (e : Ext W H W1 H1) (hD : H D = none) : Ext W H W1 (upd H1 D o) := by
  refine ⟨e.le, e.nw, e.nl, fun a u h1 h2 => ?_, fun a h => ?_⟩
  · rw [upd_ne (ne_of_none h1 hD)]; exact e.kp a u h1 h2
  · by_cases ha : a = D
    · rw [ha, upd_same]; simp
    · rw [upd_ne ha]; exact e.al a h
end
end G
/-! G13: list comprehensions. -/
namespace G
open PySem L2
abbrev EF : XK := fun _ _ _ => False
def ttOf (C : Cn) (E : XK) : Option (Fr → M D) → TT
  | none => tYes
  | some mc => tT C E mc
def stepC (t : Tg) (ρ : Fr) (me : Fr → M D) (mc : Option (Fr → M D)) (d : D) : M (Option D) := bnd (opt (asgT t (wipeF ρ t.slots) d)) fun ρ' => match mc with
  | none => bnd (me ρ') fun x => ret (some x)
  | some mc => bnd (mc ρ') fun b => bnd (blD b) fun k => if k = true then bnd (me ρ') fun x => ret (some x) else ret none
def mComp (mi : Fr → M (List D)) (t : Tg) (me : Fr → M D) (mc : Option (Fr → M D)) : Fr → M D := fun ρ => bnd (mi ρ) fun ds => bnd (lenOk ds) fun ds => noexc (bnd (compL (stepC t ρ me mc) ds) fun l => ret (.lst l))
def optL (o : Option D) (r : List D) : List D := match o with | some x => x :: r | none => r
theorem compL_cons {step : D → M (Option D)} {d : D} {ds : List D} {F : List D → M D} : bnd (compL step (d :: ds)) F = bnd (step d) fun o => bnd (compL step ds) fun r => F (optL o r) := by
  show bnd (bnd (step d) fun o => bnd (compL step ds) fun r => ret _) F = _
  rw [bnd_assoc]
  congr 1
  funext o
  rw [bnd_assoc]
  rfl
section
variable {X : Cx} {g : Gi} {E : XK} {elt tg iter : Expr} {ifs : List Expr} {scope : Scope} {own : List (Str × Nat)} {pos : Pos} {mi : Fr → M (List D)} {t : Tg} {me : Fr → M D} {mc : Option (Fr → M D)}
theorem comp_of {σ : L2.St} {H : Hp} {Q : VK} (q : tF (cn X g) E (mComp mi t me mc) σ H Q) : tLc (iB (cn X g) E mi) (gT X.K t) (ttOf (cn X g) EF mc) (tE (cn X g) EF me) t.slots σ H Q := by
  obtain ⟨H0, ρ, S, W, fr, st, p⟩ := q
  refine ⟨H0, ρ, S, W, fr, st, (Pst.fst p).imp fun ds S1 W1 H1 e1 s1 p1 J hJ D hD => ?_⟩
  have hlen : ds.length ≤ 1000000 := by
    unfold lenOk at p1
    by_cases h : ds.length ≤ 1000000
    · exact h
    · rw [if_neg h] at p1; exact p1.elim
  have p2 : Pst (cn X g) E W1 H1 (noexc (bnd (compL (stepC t ρ me mc) ds) fun l => ret (.lst l)) S1) fun d _ W' H' => ∀ v, RepF (cn X g) W H W' H' v d → Q v H' := by
    unfold lenOk at p1
    rw [if_pos hlen] at p1
    exact p1
  have p3 := p2.noexc EF
  have hsD : W1.Hs D = none := s1.sh.free hD
  have hlD : W1.L ≠ some D := fun z => by rw [(s1.tw D z).1] at hD; cases hD
  have hHD : H D = none := by
    cases q : H D with
    | none => rfl
    | some o => exact absurd hD (e1.al D (by rw [q]; simp))
  have bigger : 1000000 < sizeLine := by rw [sizeLine_eq]; decide
  refine lc_it hJ (fun i H' => ∃ (W' : Wd) (S' : Sto) (acc : List V) (dacc : List G.D), Ext W1 H1 W' H' ∧ StoOk W' S' H' ∧ H' D = some (.lst acc) ∧ W'.Hs D = none ∧ W'.L ≠ some D ∧ Reps (cn X g) W' acc dacc ∧ acc.length ≤ i ∧
    Pst (cn X g) EF W1 H1 (bnd (compL (stepC t ρ me mc) (ds.drop i)) (fun l => ret (G.D.lst (dacc ++ l))) S') fun d _ W' H' => ∀ v, RepF (cn X g) W H W' H' v d → Q v H')
    ⟨W1, S1, [], [], Ext.own hD, s1.own hsD hlD, upd_same, hsD, hlD, .nil, Nat.le_refl _, p3⟩ (fun i H' _ ⟨W', S', acc, dacc, e2, _⟩ a o h1 h2 => e2.kp a o h1 h2) ?_ ?_
  · rintro i x H' H2 hi ⟨W', S', acc, dacc, e2, s2, hacc, hs2, hl2, r2, hz2, p4⟩ ⟨d, hd, hY⟩
    -- the item
    obtain ⟨W2, e3, s3, rx, hacc2, hs3, hl3⟩ : ∃ W2, Ext W' H' W2 H2 ∧ StoOk W2 S' H2 ∧ Rep (cn X g) W2 x d ∧ H2 D = some (.lst acc) ∧ W2.Hs D = none ∧ W2.L ≠ some D := by
      rcases hY with ⟨rfl, r⟩ | ⟨T, vs, es, rfl, hT, rfl, hz, rfl, r⟩
      · exact ⟨W', Ext.refl _ _, s2, r.mono e2.le, hacc, hs2, hl2⟩
      · have hne : D ≠ T := ne_of_none hacc hT
        exact ⟨⟨upd W'.Hs T (.tup vs), W'.L⟩, Ext.laid s2.sh hT, s2.laid hT, Rep.newT hT s2.sh hz (r.mono e2.le), by rw [upd_ne hne]; exact hacc, by show upd W'.Hs T _ D = none; rw [upd_ne hne]; exact hs2, hl2⟩
    have hdrop : ds.drop i = d :: ds.drop (i + 1) := by
      obtain ⟨hi', hd'⟩ := List.getElem?_eq_some_iff.mp hd
      rw [← hd']
      exact List.drop_eq_getElem_cons hi'
    rw [hdrop, compL_cons] at p4
    unfold stepC at p4
    rw [bnd_assoc] at p4
    obtain ⟨ρ', hρ', p5⟩ := (Pst.fst0 p4 (e2.trans e3)).opt
    have p6 := p5 H2 W2 (Ext.refl _ _) s3
    have fr2 : Frm (cn X g) H0 W2 (wipeF ρ t.slots) (L2.wipe σ t.slots) H2 := ((fr.ext e1).ext (e2.trans e3)).wipe t.slots
    refine gT_of (C := cn X g) s3.sh t fr2 rx hρ' fun σ2 fr3 hset => ⟨hset.wipe, ?_⟩
    -- the rest of a turn, once the element is there
    have fin : ∀ {S3 : Sto} {W3 : Wd} {H3 : Hp}, Ext W2 H2 W3 H3 → StoOk W3 S3 H3 →
        Pst (cn X g) EF W1 H1 (bnd (bnd (me ρ') fun x => ret (some x)) (fun o => bnd (compL (stepC t ρ me mc) (ds.drop (i + 1))) fun r => ret (G.D.lst (dacc ++ optL o r))) S3) (fun d _ W' H' => ∀ v, RepF (cn X g) W H W' H' v d → Q v H') →
        tE (cn X g) EF me σ2 H3 fun y H4 => ∃ acc, H4 D = some (.lst acc) ∧ acc.length < sizeLine ∧ ∃ (W' : Wd) (S' : Sto) (acc' : List V) (dacc : List G.D), Ext W1 H1 W' (upd H4 D (.lst (acc ++ [y]))) ∧ StoOk W' S' (upd H4 D (.lst (acc ++ [y]))) ∧ upd H4 D (.lst (acc ++ [y])) D = some (.lst acc') ∧ W'.Hs D = none ∧ W'.L ≠ some D ∧ Reps (cn X g) W' acc' dacc ∧ acc'.length ≤ i + 1 ∧
          Pst (cn X g) EF W1 H1 (bnd (compL (stepC t ρ me mc) (ds.drop (i + 1))) (fun l => ret (G.D.lst (dacc ++ l))) S') fun d _ W' H' => ∀ v, RepF (cn X g) W H W' H' v d → Q v H' := by
      intro S3 W3 H3 e4 s4 p7
      have hx1 := (e2.trans e3).trans e4
      rw [bnd_assoc] at p7
      refine ⟨H0, ρ', S3, W3, fr3.ext e4, s4, (Pst.fst0 p7 hx1).imp fun y S5 W5 H5 e5 s5 p8 u ru => ?_⟩
      have a3 : H3 D = some (.lst acc) := e4.kp D _ hacc2 hl3
      have h3s : W3.Hs D = none ∧ W3.L ≠ some D := by
        have := (RepB.ext (C := cn X g) (v := .ref D) (d := .lst dacc) (.inr ⟨D, rfl, ⟨acc, hacc2, by omega, r2.mono e3.le⟩, hs3, hl3⟩) e4)
        rcases this with z | ⟨a', za, zb, zc, zd⟩
        · exfalso
          obtain ⟨a', vs', z1, z2, _⟩ := z.lI
          cases z1
          exact absurd (e4.nw D hs3 (by rw [z2]; simp)) (by rw [hacc2]; simp)
        · cases za; exact ⟨zc, zd⟩
      have a5 : H5 D = some (.lst acc) := e5.kp D _ a3 h3s.2
      have h5s : W5.Hs D = none ∧ W5.L ≠ some D := by
        refine ⟨?_, fun z => ?_⟩
        · cases q : W5.Hs D with
          | none => rfl
          | some o => exact absurd (e5.nw D h3s.1 (by rw [q]; simp)) (by rw [a3]; simp)
        · rcases e5.le.lo with w | w
          · exact absurd (e5.nl D z w) (by rw [a3]; simp)
          · exact h3s.2 (w.symm.trans z)
      refine ⟨acc, a5, by omega, W5, S5, acc ++ [u], dacc ++ [y], (hx1.trans e5).put hD, s5.own h5s.1 h5s.2, upd_same, h5s.1, h5s.2, ((r2.mono e3.le).mono (e4.le.trans e5.le)).append (Reps.one ru), by simp; omega, ?_⟩
      rw [bnd_ret] at p8
      have ee : (fun r => ret (G.D.lst (dacc ++ optL (some y) r))) = fun l => ret (G.D.lst (dacc ++ [y] ++ l)) := by
        funext l
        show ret (G.D.lst (dacc ++ y :: l)) = _
        rw [List.append_assoc]; rfl
      rw [ee] at p8
      exact p8
    cases mc with
    | none =>
      show tE _ _ _ _ _ _
      exact fin (Ext.refl _ _) s3 p6
    | some mc =>
      dsimp only at p6
      rw [bnd_assoc] at p6
      refine ⟨H0, ρ', S', W2, fr3, s3, (Pst.fst0 p6 (e2.trans e3)).imp fun b S3 W3 H3 e4 s4 p7 => ?_⟩
      rw [bnd_assoc] at p7
      obtain ⟨k, rfl, p8⟩ := p7.bl
      refine ⟨k, rfl, ?_⟩
      cases k with
      | true => exact fin e4 s4 p8
      | false =>
        rw [if_neg (by simp), bnd_ret] at p8
        have a3 : H3 D = some (.lst acc) := e4.kp D _ hacc2 hl3
        refine ⟨W3, S3, acc, dacc, (e2.trans e3).trans e4, s4, a3, ?_, fun z => ?_, (r2.mono e3.le).mono e4.le, by omega, p8⟩
        · cases q : W3.Hs D with
          | none => rfl
          | some o => exact absurd (e4.nw D hs3 (by rw [q]; simp)) (by rw [hacc2]; simp)
        · rcases e4.le.lo with w | w
          · exact absurd (e4.nl D z w) (by rw [hacc2]; simp)
          · exact hl3 (w.symm.trans z)
  · rintro H' ⟨W', S', acc, dacc, e2, s2, hacc, hs2, hl2, r2, hz2, p4⟩
    rw [List.drop_length] at p4
    have p5 := p4 H' W' e2 s2
    rw [List.append_nil] at p5
    exact p5 _ ⟨D, rfl, ⟨acc, hacc, by omega, r2⟩, hs2, hl2, hHD⟩
theorem f_comp (hc : X.calm = true) (hN : X.N.Nodup) (hi : PI X tg iter (iB (cn X g) E mi)) (ok : BlkOk X.N X.env.scope scope own) (hown : own.map (·.2) = t.slots)
    (hg : ∀ (s : Shared) (H : Hp) (C : Addr) (cl : List (Str × Addr)) (fp : List Addr), PG (X.blk s H scope (compEnvC scope cl C X.env) fp) tg (gT X.K t))
    (ht : ∀ (s : Shared) (H : Hp) (C : Addr) (cl : List (Str × Addr)) (fp : List Addr), PTs (X.blk s H scope (compEnvC scope cl C X.env) fp) ifs (ttOf (cn X g) EF mc))
    (he : ∀ (s : Shared) (H : Hp) (C : Addr) (cl : List (Str × Addr)) (fp : List Addr), PE (X.blk s H scope (compEnvC scope cl C X.env) fp) elt (tE (cn X g) EF me)) (hs : ∀ x, foldedSetIterable iter X.env x = pure x) :
    PE X (.ListComp elt [⟨tg, iter, ifs, 0⟩] scope pos) (tF (cn X g) E (mComp mi t me mc)) :=
  PE.imp (pe_lc hc hN hi ok hg ht he hs) fun _ _ _ q => by rw [hown]; exact comp_of q
end
end G
/-! G14: statements. -/
namespace G
open PySem L2
def StS (C : Cn) (E : XK) (W0 : Wd) (H0 : Hp) (Wb : Wd) (D : Ends) (r : Res Flw) : Prop := match r with
  | .ok (.nx ρ) S => ∀ σ H W, WLe Wb W → Rel C W0 H0 W ρ S σ H → D.nx σ H
  | .ok (.ct ρ) S => ∀ σ H W, WLe Wb W → Rel C W0 H0 W ρ S σ H → D.ct σ H
  | .ok (.rt d) S => ∀ v H W, Ext W0 H0 W H → StoOk W S H → Rep C W v d → D.rt v H
  | .exc c S => ∀ H W, Ext W0 H0 W H → StoOk W S H → E (.ref (C.cls c)) none H
  | .bad => False
def tS (C : Cn) (E : XK) (m : Fr → M Flw) : TS := fun D σ H => ∃ (W0 : Wd) (H0 : Hp) (ρ : Fr) (S : Sto) (W : Wd), Rel C W0 H0 W ρ S σ H ∧ StS C E W0 H0 W D (m ρ S)
theorem PSs.imp {X : Cx} {e : List Stmt} {t t' : TS} (h : PSs X e t) (f : ∀ D σ H, t' D σ H → t D σ H) : PSs X e t' := ⟨fun pins s σ H D I q => h.run pins s σ H D I (f D σ H q)⟩
section
variable {C : Cn} {E : XK} {α : Type} {W0 W Wb : Wd} {H0 H : Hp} {D : Ends} {S : Sto} {ρ : Fr} {σ : L2.St}
theorem StS.up {r : Res Flw} (h : StS C E W0 H0 Wb D r) (le : WLe Wb W) : StS C E W0 H0 W D r := by
  cases r with
  | bad => exact h
  | exc c S => exact h
  | ok f S =>
    cases f with
    | nx ρ => exact fun σ H W' l r => h σ H W' (le.trans l) r
    | ct ρ => exact fun σ H W' l r => h σ H W' (le.trans l) r
    | rt d => exact h
/-- the expression of a statement -/
theorem StS.fst {m : M α} {f : α → M Flw} (h : StS C E W0 H0 Wb D (bnd m f S)) (e : Ext W0 H0 W H) : Pst C E W H (m S) fun a S1 _ _ => StS C E W0 H0 Wb D (f a S1) := by
  unfold bnd at h
  cases q : m S with
  | ok a S1 => rw [q] at h; exact fun _ _ _ _ => h
  | exc c S1 => rw [q] at h; exact fun H' W' e' s => h H' W' (e.trans e') s
  | bad => rw [q] at h; exact h
theorem StS.opt {o : Option α} {f : α → M Flw} (h : StS C E W0 H0 Wb D (bnd (G.opt o) f S)) : ∃ a, o = some a ∧ StS C E W0 H0 Wb D (f a S) := by
  cases o with
  | none => exact h.elim
  | some a => exact ⟨a, rfl, h⟩
theorem StS.bl {d : G.D} {f : Bool → M Flw} (h : StS C E W0 H0 Wb D (bnd (blD d) f S)) : ∃ b, d = .bl b ∧ StS C E W0 H0 Wb D (f b S) := by
  cases d <;> first | exact h.elim | skip
  exact ⟨_, rfl, h⟩
/-- an owned object into a slot -/
theorem Frm.setO {i : Nat} {a : Addr} {d : G.D} (f : Frm C H0 W ρ σ H) (ho : OwnAt C W H a d) (h1 : W.Hs a = none) (h2 : W.L ≠ some a) (h3 : H0 a = none) (hn : ∀ (j : Nat) (e : G.D), ρ[j]? = some (some (Slot.ow e)) → σ[j]? ≠ some (some (V.ref a))) (hi : i < ρ.length) :
    Frm C H0 W (ρ.set i (some (.ow d))) (σ.set i (some (.ref a))) H := by
  have hiσ : i < σ.length := by rw [f.len]; exact hi
  refine ⟨by simp [f.len], fun j e h => ?_, fun j e h => ?_, fun j k e e' b hjk g1 g2 g3 => ?_⟩
  · by_cases hj : i = j
    · subst hj
      rw [List.getElem?_set_self hi] at h
      cases h
    · rw [List.getElem?_set_ne hj] at h
      obtain ⟨u, q1, q2⟩ := f.sh j e h
      exact ⟨u, by rw [List.getElem?_set_ne hj]; exact q1, q2⟩
  · by_cases hj : i = j
    · subst hj
      rw [List.getElem?_set_self hi] at h
      cases h
      exact ⟨a, by rw [List.getElem?_set_self hiσ], ho, h1, h2, h3⟩
    · rw [List.getElem?_set_ne hj] at h
      obtain ⟨u, q1, q2⟩ := f.ow j e h
      exact ⟨u, by rw [List.getElem?_set_ne hj]; exact q1, q2⟩
  · by_cases z1 : i = j
    · subst z1
      rw [List.getElem?_set_self hiσ] at g3
      cases g3
      rw [List.getElem?_set_ne hjk] at g2 ⊢
      exact hn k e' g2
    · rw [List.getElem?_set_ne z1] at g1 g3
      by_cases z2 : i = k
      · subst z2
        rw [List.getElem?_set_self hiσ]
        intro q
        cases q
        exact hn j e g1 g3
      · rw [List.getElem?_set_ne z2] at g2 ⊢
        exact f.dj j k e e' b hjk g1 g2 g3
/-- the owned object at a is written -/
theorem Frm.put {i : Nat} {a : Addr} {d : G.D} {o : HO} (f : Frm C H0 W ρ σ H) (ha : ∃ e, ρ[i]? = some (some (Slot.ow e))) (hσ : σ[i]? = some (some (V.ref a))) (ho : OwnAt C W (upd H a o) a d) :
    Frm C H0 W (ρ.set i (some (.ow d))) σ (upd H a o) := by
  obtain ⟨e0, he0⟩ := ha
  have hi : i < ρ.length := (List.getElem?_eq_some_iff.mp he0).1
  obtain ⟨a', h1, h2, h3, h4, h5⟩ := f.ow i e0 he0
  rw [hσ] at h1
  cases h1
  refine ⟨by simp [f.len], fun j e h => ?_, fun j e h => ?_, fun j k e e' b hjk g1 g2 g3 => ?_⟩
  · by_cases hj : i = j
    · subst hj
      rw [List.getElem?_set_self hi] at h; cases h
    · rw [List.getElem?_set_ne hj] at h
      exact f.sh j e h
  · by_cases hj : i = j
    · subst hj
      rw [List.getElem?_set_self hi] at h
      cases h
      exact ⟨a, hσ, ho, h3, h4, h5⟩
    · rw [List.getElem?_set_ne hj] at h
      obtain ⟨u, q1, q2, q3⟩ := f.ow j e h
      have : u ≠ a := fun z => f.dj i j e0 e a hj he0 h hσ (by rw [q1, z])
      exact ⟨u, q1, q2.mono (WLe.refl _) fun o' ho' => by rw [upd_ne this]; exact ho', q3⟩
  · have old : ∀ (j : Nat) (e : G.D), (ρ.set i (some (.ow d)))[j]? = some (some (Slot.ow e)) → ∃ e', ρ[j]? = some (some (Slot.ow e')) := fun j e h => by
      by_cases hj : i = j
      · subst hj; exact ⟨e0, he0⟩
      · rw [List.getElem?_set_ne hj] at h; exact ⟨e, h⟩
    obtain ⟨x1, y1⟩ := old j e g1
    obtain ⟨x2, y2⟩ := old k e' g2
    exact f.dj j k x1 x2 b hjk y1 y2 g3
/-- an owned slot becomes shared -/
theorem Rel.frz {i : Nat} {d : G.D} (r : Rel C W0 H0 W ρ S σ H) (h : ρ[i]? = some (some (Slot.ow d))) : ∃ W', WLe W W' ∧ Rel C W0 H0 W' (ρ.set i (some (.sh d))) S σ H := by
  obtain ⟨a, h1, h2, h3, h4, h5⟩ := r.fr.ow i d h
  obtain ⟨o, ho, hr⟩ := h2.freeze h3
  have hi : i < ρ.length := (List.getElem?_eq_some_iff.mp h).1
  have le : WLe W ⟨upd W.Hs a o, W.L⟩ := ⟨fun b u q => by
    show upd W.Hs a o b = some u
    rw [upd_ne (ne_of_none q h3)]; exact q, .inr rfl⟩
  refine ⟨⟨upd W.Hs a o, W.L⟩, le, ⟨by simp [r.fr.len], fun j e q => ?_, fun j e q => ?_, fun j k e e' b hjk g1 g2 g3 => ?_⟩, r.st.freeze ho h4, r.ex.freeze h5 h3⟩
  · by_cases hj : i = j
    · subst hj
      rw [List.getElem?_set_self hi] at q
      cases q
      exact ⟨_, h1, hr⟩
    · rw [List.getElem?_set_ne hj] at q
      obtain ⟨v, q1, q2⟩ := r.fr.sh j e q
      exact ⟨v, q1, q2.mono le⟩
  · by_cases hj : i = j
    · subst hj
      rw [List.getElem?_set_self hi] at q; cases q
    · rw [List.getElem?_set_ne hj] at q
      obtain ⟨u, q1, q2, q3, q4, q5⟩ := r.fr.ow j e q
      have ne : u ≠ a := fun z => r.fr.dj i j d e a hj h q h1 (by rw [q1, z])
      exact ⟨u, q1, q2.mono le fun o' z => z, by show upd W.Hs a o u = none; rw [upd_ne ne]; exact q3, q4, q5⟩
  · have old : ∀ (j : Nat) (e : G.D), (ρ.set i (some (.sh d)))[j]? = some (some (Slot.ow e)) → ρ[j]? = some (some (Slot.ow e)) := fun j e q => by
      by_cases hj : i = j
      · subst hj; rw [List.getElem?_set_self hi] at q; cases q
      · rw [List.getElem?_set_ne hj] at q; exact q
    exact r.fr.dj j k e e' b hjk (old j e g1) (old k e' g2) g3
end
section
variable {X : Cx} {g : Gi} {E : XK} {pos pos' p : Pos} {e tg c iter : Expr} {st : Stmt} {sts a b body : List Stmt} {m mc : Fr → M D} {ma mb : Fr → M Flw} {mi : Fr → M (List D)} {i : Nat} {x : Str} {t : Tg}
theorem ss_nil : PSs X [] (tS (cn X g) E fun ρ => ret (.nx ρ)) := PSs.imp pss_nil fun D σ H q => by
  obtain ⟨W0, H0, ρ, S, W, r, k⟩ := q
  exact k σ H W (WLe.refl _) r
theorem ss_cons (h1 : PS X st (tS (cn X g) E ma)) (h2 : PSs X sts (tS (cn X g) E mb)) : PSs X (st :: sts) (tS (cn X g) E fun ρ => bnd (ma ρ) fun f => match f with | .nx ρ' => mb ρ' | .ct ρ' => ret (.ct ρ') | .rt d => ret (.rt d)) := PSs.imp (pss_cons h1 h2) fun D σ H q => by
  obtain ⟨W0, H0, ρ, S, W, r, k⟩ := q
  refine ⟨W0, H0, ρ, S, W, r, ?_⟩
  unfold bnd at k
  dsimp only at k
  cases hm : ma ρ S with
  | bad => rw [hm] at k; exact k
  | exc c S1 => rw [hm] at k; exact k
  | ok f S1 =>
    rw [hm] at k
    cases f with
    | nx ρ' => exact fun σ' H' W' le r' => ⟨W0, H0, ρ', S1, W', r', k.up le⟩
    | ct ρ' => exact k
    | rt d => exact k
/-- freezing: nothing is run -/
theorem ss_frz (h2 : PSs X sts (tS (cn X g) E mb)) : PSs X sts (tS (cn X g) E fun ρ => bnd (match ρ[i]? with | some (some (.ow d)) => ret (Flw.nx (ρ.set i (some (.sh d)))) | some (some (.sh _)) => ret (Flw.nx ρ) | _ => fail) fun f => match f with | .nx ρ' => mb ρ' | .ct ρ' => ret (.ct ρ') | .rt d => ret (.rt d)) := PSs.imp h2 fun D σ H q => by
  obtain ⟨W0, H0, ρ, S, W, r, k⟩ := q
  cases hh : ρ[i]? with
  | none => simp only [hh] at k; exact k.elim
  | some o =>
    cases o with
    | none => simp only [hh] at k; exact k.elim
    | some sl =>
      cases sl with
      | ow d =>
        simp only [hh] at k
        obtain ⟨W', le, r'⟩ := r.frz hh
        exact ⟨W0, H0, _, S, W', r', StS.up k le⟩
      | sh d =>
        simp only [hh] at k
        exact ⟨W0, H0, ρ, S, W, r, k⟩
theorem s_nev : PS X st (tS (cn X g) E fun _ => fail) := ⟨fun pins s σ H D I q => by
  obtain ⟨W0, H0, ρ, S, W, r, k⟩ := q
  exact k.elim⟩
theorem s_asg (he : PE X e (tE (cn X g) E m)) (hg : PG X tg (gT X.K t)) (hs : swapsWithSole [tg] e pos.line X.env = pure false) (hw : swappedStores [tg] e X.env = pure none) (h1 : (assignEach [tg] X.env).map (·.2) = [assign tg X.env]) :
    PS X (.Assign [tg] e pos) (tS (cn X g) E fun ρ => bnd (m ρ) fun d => bnd (opt (asgT t ρ d)) fun ρ' => ret (.nx ρ')) := PS.imp (ps_asg he hg hs hw h1) fun D σ H q => by
  obtain ⟨W0, H0, ρ, S, W, r, k⟩ := q
  refine ⟨H0, ρ, S, W, r.fr, r.st, (k.fst r.ex).imp fun d S1 W1 H1 e1 s1 k1 v rv => ?_⟩
  obtain ⟨ρ', hρ, k2⟩ := k1.opt
  exact gT_of (C := cn X g) s1.sh t (r.fr.ext e1) rv hρ fun σ' f' _ => k2 σ' H1 W1 e1.le ⟨f', s1, r.ex.trans e1⟩
/-- the same, from any reading of the assignment -/
theorem s_own (hs : PS X (.Assign [.Name x pos'] e pos) (tAsg (tF (cn X g) E m) (gName i))) :
    PS X (.Assign [.Name x pos'] e pos) (tS (cn X g) E fun ρ => bnd (m ρ) fun d => bnd (opt (setF ρ i (some (.ow d)))) fun ρ' => ret (.nx ρ')) := PS.imp hs fun D σ H q => by
  obtain ⟨W0, H0, ρ, S, W, r, k⟩ := q
  refine ⟨H0, ρ, S, W, r.fr, r.st, (k.fst r.ex).imp fun d S1 W1 H1 e1 s1 k1 v rv => ?_⟩
  obtain ⟨ρ', hρ, k2⟩ := k1.opt
  unfold setF at hρ
  split at hρ
  · rename_i hi
    cases hρ
    obtain ⟨a, rfl, h1, h2, h3, h4⟩ := rv
    refine k2 _ H1 W1 e1.le ⟨(r.fr.ext e1).setO h1 h2 h3 ?_ (fun j e' hj q => ?_) hi, s1, r.ex.trans e1⟩
    · cases q : H0 a with
      | none => rfl
      | some o => exact absurd h4 (r.ex.al a (by rw [q]; simp))
    · obtain ⟨u, q1, q2, _⟩ := r.fr.ow j e' hj
      rw [q] at q1
      cases q1
      obtain ⟨o, ho⟩ := q2.there
      rw [h4] at ho; cases ho
  · cases hρ
/-- name = e, by one of the two rules, shared -/
theorem s_set (hs : PS X (.Assign [.Name x pos'] e pos) (tAsg (tE (cn X g) E m) (gName i))) :
    PS X (.Assign [.Name x pos'] e pos) (tS (cn X g) E fun ρ => bnd (m ρ) fun d => bnd (opt (asgT (.nm i) ρ d)) fun ρ' => ret (.nx ρ')) := PS.imp hs fun D σ H q => by
  obtain ⟨W0, H0, ρ, S, W, r, k⟩ := q
  refine ⟨H0, ρ, S, W, r.fr, r.st, (k.fst r.ex).imp fun d S1 W1 H1 e1 s1 k1 v rv => ?_⟩
  obtain ⟨ρ', hρ, k2⟩ := k1.opt
  exact gT_of (C := cn X g) s1.sh (.nm i) (r.fr.ext e1) rv hρ fun σ' f' _ => k2 σ' H1 W1 e1.le ⟨f', s1, r.ex.trans e1⟩
theorem PS.ofF (hs : PS X st (tAsg (tF (cn X g) E m) (gName i))) : PS X st (tAsg (tE (cn X g) E m) (gName i)) := PS.imp hs fun D σ H q => by
  obtain ⟨H0, ρ, S, W, fr, st, p⟩ := q
  refine ⟨H0, ρ, S, W, fr, st, ?_⟩
  cases r : m ρ S with
  | bad => rw [r] at p; exact p
  | exc c S1 => rw [r] at p; exact p
  | ok d S1 =>
    rw [r] at p
    intro H' W' e1 s1 v ⟨a, h1, h2, h3, h4, h5⟩
    obtain ⟨o, ho, hr⟩ := h2.freeze h3
    rw [h1]
    exact p H' _ (e1.freeze h5 h3) (s1.freeze ho h4) _ hr
theorem s_ret (he : PE X e (tE (cn X g) E m)) : PS X (.Return (some e) pos) (tS (cn X g) E fun ρ => bnd (m ρ) fun d => ret (.rt d)) := PS.imp (ps_ret he) fun D σ H q => by
  obtain ⟨W0, H0, ρ, S, W, r, k⟩ := q
  exact ⟨H0, ρ, S, W, r.fr, r.st, (k.fst r.ex).imp fun d S1 W1 H1 e1 s1 k1 v rv => k1 v H1 W1 (r.ex.trans e1) s1 rv⟩
theorem s_exp (he : PE X e (tE (cn X g) E m)) (hs : swapsWith e none pos.line X.env = pure false) : PS X (.Expr e pos) (tS (cn X g) E fun ρ => bnd (m ρ) fun _ => ret (.nx ρ)) := PS.imp (ps_expr he hs) fun D σ H q => by
  obtain ⟨W0, H0, ρ, S, W, r, k⟩ := q
  exact ⟨H0, ρ, S, W, r.fr, r.st, (k.fst r.ex).imp fun d S1 W1 H1 e1 s1 k1 v rv => k1 σ H1 W1 e1.le (r.ext e1 s1)⟩
theorem s_ite (hc : PT X c (tT (cn X g) E mc)) (ha : PSs X a (tS (cn X g) E ma)) (hb : PSs X b (tS (cn X g) E mb)) : PS X (.If c a b pos) (tS (cn X g) E fun ρ => bnd (mc ρ) fun x => bnd (blD x) fun k => if k = true then ma ρ else mb ρ) := PS.imp (ps_if hc ha hb) fun D σ H q => by
  obtain ⟨W0, H0, ρ, S, W, r, k⟩ := q
  refine ⟨H0, ρ, S, W, r.fr, r.st, (k.fst r.ex).imp fun d S1 W1 H1 e1 s1 k1 => ?_⟩
  obtain ⟨b, rfl, k2⟩ := k1.bl
  refine ⟨b, rfl, ?_⟩
  cases b with
  | true => exact ⟨W0, H0, ρ, S1, W1, r.ext e1 s1, k2.up e1.le⟩
  | false => exact ⟨W0, H0, ρ, S1, W1, r.ext e1 s1, k2.up e1.le⟩
theorem s_cont : PS X (.Continue pos) (tS (cn X g) E fun ρ => ret (.ct ρ)) := PS.imp ps_continue fun D σ H q => by
  obtain ⟨W0, H0, ρ, S, W, r, k⟩ := q
  exact k σ H W (WLe.refl _) r
/-- for -/
theorem s_for (hp : PassesOwn (model X.prog X.w) X.A X.env X.xe) (hc : X.calm = true) (hi : PI X tg iter (iS (cn X g) E mi)) (hg : PG X tg (gT X.K t)) (hb : PSs X body (tS (cn X g) E mb)) (hs : ∀ x, foldedSetIterable iter X.env x = pure x) :
    PS X (.For tg iter body [] pos) (tS (cn X g) E fun ρ => bnd (mi ρ) fun ds => forL (fun ρ d => bnd (opt (asgT t ρ d)) fun ρ' => mb ρ') ds ρ) := PS.imp (ps_for hp hc hi hg hb hs) fun D σ H q => by
  obtain ⟨W0, H0, ρ, S, W, r, k⟩ := q
  refine ⟨H0, ρ, S, W, r.fr, r.st, (k.fst r.ex).imp fun ds S1 W1 H1 e1 s1 k1 J hJ => ?_⟩
  refine for_it hJ (fun i σ' H' => ∃ (W' : Wd) (ρ' : Fr) (S' : Sto), Rel (cn X g) W0 H0 W' ρ' S' σ' H' ∧ WLe W1 W' ∧ StS (cn X g) E W0 H0 W D (forL (fun ρ d => bnd (opt (asgT t ρ d)) fun ρ' => mb ρ') (ds.drop i) ρ' S'))
    ⟨W1, ρ, S1, r.ext e1 s1, WLe.refl _, k1⟩ (fun i σ' H' _ ⟨W', ρ', S', r', le, _⟩ => le.sh.trans r'.st.sh) ?_ ?_
  · rintro i x σ' H' H2 hi ⟨W', ρ', S', r', le, k2⟩ ⟨d, hd, hY⟩
    obtain ⟨W2, e3, s3, rx⟩ : ∃ W2, Ext W' H' W2 H2 ∧ StoOk W2 S' H2 ∧ Rep (cn X g) W2 x d := by
      rcases hY with ⟨rfl, r⟩ | ⟨T, vs, es, rfl, hT, rfl, hz, rfl, r⟩
      · exact ⟨W', Ext.refl _ _, r'.st, r.mono le⟩
      · exact ⟨⟨upd W'.Hs T (.tup vs), W'.L⟩, Ext.laid r'.st.sh hT, r'.st.laid hT, Rep.newT hT r'.st.sh hz (r.mono le)⟩
    have hdrop : ds.drop i = d :: ds.drop (i + 1) := by
      obtain ⟨hi', hd'⟩ := List.getElem?_eq_some_iff.mp hd
      rw [← hd']
      exact List.drop_eq_getElem_cons hi'
    rw [hdrop] at k2
    unfold forL at k2
    rw [bnd_assoc] at k2
    obtain ⟨ρ2, hρ2, k3⟩ := k2.opt
    have r2 : Rel (cn X g) W0 H0 W2 ρ' S' σ' H2 := r'.ext e3 s3
    refine gT_of (C := cn X g) s3.sh t r2.fr rx hρ2 fun σ2 f2 _ => ⟨W0, H0, ρ2, S', W2, ⟨f2, s3, r2.ex⟩, ?_⟩
    have le2 : WLe W1 W2 := le.trans e3.le
    unfold bnd at k3
    cases hm : mb ρ2 S' with
    | bad => rw [hm] at k3; exact k3
    | exc c S3 => rw [hm] at k3; exact k3
    | ok f S3 =>
      rw [hm] at k3
      cases f with
      | nx ρ3 => exact fun σ3 H3 W3 l3 r3 => ⟨W3, ρ3, S3, r3, le2.trans l3, k3⟩
      | ct ρ3 => exact fun σ3 H3 W3 l3 r3 => ⟨W3, ρ3, S3, r3, le2.trans l3, k3⟩
      | rt d => exact k3
  · rintro σ' H' ⟨W', ρ', S', r', le, k2⟩
    rw [List.drop_length] at k2
    exact k2 σ' H' W' (e1.le.trans le) r'
end
end G
/-! G15: lists that grow, the draws' list, raise. -/
namespace G
open PySem L2
section
variable {X : Cx} {g : Gi} {E : XK} {pos apos cpos p : Pos} {e : Expr} {m : Fr → M D} {i : Nat} {x : Str}
/-- what pe_bm asks beside the parts -/
theorem ownL {C : Cn} {W : Wd} {H : Hp} {a : Addr} {l : List D} (h : OwnAt C W H a (.lst l)) : ∃ vs, H a = some (.lst vs) ∧ vs.length ≤ sizeLine ∧ Reps C W vs l := h
theorem s_app (hN : X.N[i]? = some x) (hv : Vis X.env.scope x) (hd : (x == ("__debug__" : Str)) = false) (hcd : (x == ("__classdict__" : Str)) = false) (he : PE X e (tE (cn X g) E m)) (mc : MCall X (.Name x p) e apos cpos "append") :
    PS X (.Expr (.Call (.Attribute (.Name x p) "append" apos) [e] [] cpos) pos) (tS (cn X g) E fun ρ => match ρ[i]? with
      | some (some (.ow (.lst l))) => bnd (m ρ) fun d => if l.length < sizeLine then ret (.nx (ρ.set i (some (.ow (.lst (l ++ [d])))))) else fail
      | _ => fail) := by
  refine PS.imp (ps_expr (pe_bm PySem.F.plainAttrs_list PySem.F.slot_list_append PySem.F.type_list_append mt_append (pe_var hN hv hd hcd) (pa_cons he pa_nil mc.star) mc.base mc.few mc.line mc.star rfl) rfl) fun D σ H q => ?_
  obtain ⟨W0, H0, ρ, S, W, r, k⟩ := q
  cases hh : ρ[i]? with
  | none => simp only [hh] at k; exact k.elim
  | some o =>
    cases o with
    | none => simp only [hh] at k; exact k.elim
    | some sl =>
      cases sl with
      | sh d => simp only [hh] at k; exact k.elim
      | ow d =>
        cases d with
        | lst l =>
          simp only [hh] at k
          obtain ⟨a, h1, h2, h3, h4, h5⟩ := r.fr.ow i _ hh
          obtain ⟨vs, g1, g2, g3⟩ := ownL h2
          refine ⟨_, h1, .inl ⟨rfl, vs, SqL.of g1⟩, H0, ρ, S, W, r.fr, r.st, (k.fst r.ex).imp fun d S1 W1 H1 e1 s1 k1 v rv => ?_⟩
          have gz : H1 a = some (.lst vs) := e1.kp a _ g1 h4
          split at k1
          · rename_i hz
            have hz' : vs.length < sizeLine := by rw [g3.length]; exact hz
            have f1 := r.fr.ext e1
            obtain ⟨a', q1, q2, q3, q4, q5⟩ := f1.ow i _ hh
            rw [h1] at q1
            cases q1
            refine ⟨a, vs, v, rfl, rfl, gz, hz', k1 σ _ W1 e1.le ⟨f1.put ⟨_, hh⟩ h1 ⟨vs ++ [v], upd_same, ?_, (g3.mono e1.le).append (Reps.one rv)⟩, s1.own q3 q4, (r.ex.trans e1).put h5⟩⟩
            rw [List.length_append]; exact hz'
          · exact k1.elim
        | _ => simp only [hh] at k; exact k.elim
theorem s_ext (hN : X.N[i]? = some x) (hv : Vis X.env.scope x) (hd : (x == ("__debug__" : Str)) = false) (hcd : (x == ("__classdict__" : Str)) = false) (he : PE X e (tE (cn X g) E m)) (mc : MCall X (.Name x p) e apos cpos "extend") :
    PS X (.Expr (.Call (.Attribute (.Name x p) "extend" apos) [e] [] cpos) pos) (tS (cn X g) E fun ρ => match ρ[i]? with
      | some (some (.ow (.lst l))) => bnd (m ρ) fun d => match d with
        | .lst z => if l.length + z.length ≤ sizeLine then ret (.nx (ρ.set i (some (.ow (.lst (l ++ z)))))) else fail
        | _ => fail
      | _ => fail) := by
  refine PS.imp (ps_expr (pe_bm PySem.F.plainAttrs_list PySem.F.slot_list_extend PySem.F.type_list_extend mt_extend (pe_var hN hv hd hcd) (pa_cons he pa_nil mc.star) mc.base mc.few mc.line mc.star rfl) rfl) fun D σ H q => ?_
  obtain ⟨W0, H0, ρ, S, W, r, k⟩ := q
  cases hh : ρ[i]? with
  | none => simp only [hh] at k; exact k.elim
  | some o =>
    cases o with
    | none => simp only [hh] at k; exact k.elim
    | some sl =>
      cases sl with
      | sh d => simp only [hh] at k; exact k.elim
      | ow d =>
        cases d with
        | lst l =>
          simp only [hh] at k
          obtain ⟨a, h1, h2, h3, h4, h5⟩ := r.fr.ow i _ hh
          obtain ⟨vs, g1, g2, g3⟩ := ownL h2
          refine ⟨_, h1, .inl ⟨rfl, vs, SqL.of g1⟩, H0, ρ, S, W, r.fr, r.st, (k.fst r.ex).imp fun d S1 W1 H1 e1 s1 k1 v rv => ?_⟩
          have gz : H1 a = some (.lst vs) := e1.kp a _ g1 h4
          cases d with
          | lst z =>
            dsimp only at k1
            split at k1
            · rename_i hz
              obtain ⟨b, us, rfl, u1, u2, u3⟩ := rv.lI
              have hz' : vs.length + us.length ≤ sizeLine := by rw [g3.length, u3.length]; exact hz
              have f1 := r.fr.ext e1
              obtain ⟨a', q1, q2, q3, q4, q5⟩ := f1.ow i _ hh
              rw [h1] at q1
              cases q1
              refine ⟨a, b, vs, us, rfl, rfl, gz, s1.sh _ _ u1, hz', k1 σ _ W1 e1.le ⟨f1.put ⟨_, hh⟩ h1 ⟨vs ++ us, upd_same, ?_, (g3.mono e1.le).append u3⟩, s1.own q3 q4, (r.ex.trans e1).put h5⟩⟩
              rw [List.length_append]; exact hz'
            · exact k1.elim
          | _ => exact k1.elim
        | _ => simp only [hh] at k; exact k.elim
/-- town = [] -/
theorem s_town (hs : PS X (.Assign [.Name x p] (.List [] apos) pos) (tAsg (tLst tNil) (gName i))) :
    PS X (.Assign [.Name x p] (.List [] apos) pos) (tS (cn X g) E fun ρ => bnd (opt (setF ρ i (some (.sh .town)))) fun ρ' => fun s => match s with | none => .ok (.nx ρ') (some 0) | some _ => .bad) := PS.imp hs fun D σ H q => by
  obtain ⟨W0, H0, ρ, S, W, r, k⟩ := q
  obtain ⟨ρ', hρ, k2⟩ := k.opt
  cases S with
  | some n => exact k2.elim
  | none =>
    have hL := r.st.sn rfl
    refine ⟨(by show 0 ≤ sizeLine; exact Nat.zero_le _), fun a ha => ?_⟩
    have hs0 : W.Hs a = none := r.st.sh.free ha
    have hHa : H0 a = none := by
      cases q : H0 a with
      | none => rfl
      | some o => exact absurd ha (r.ex.al a (by rw [q]; simp))
    have ex1 : Ext W H ⟨W.Hs, some a⟩ (upd H a (.lst [])) := by
      refine ⟨⟨Same.refl _, .inl hL⟩, fun b h1 h2 => absurd h1 h2, fun b h1 _ => ?_, fun b u h1 h2 => ?_, fun b h => ?_⟩
      · have h1 : some a = some b := h1
        cases h1; exact ha
      · rw [upd_ne (ne_of_none h1 ha)]; exact h1
      · by_cases hb : b = a
        · rw [hb, upd_same]; simp
        · rw [upd_ne hb]; exact h
    have st1 : StoOk ⟨W.Hs, some a⟩ (some 0) (upd H a (.lst [])) := by
      refine ⟨fun b u h => ?_, fun b h => ?_, fun h => nomatch h⟩
      · have h : W.Hs b = some u := h
        rw [upd_ne (ne_of_none h hs0)]; exact r.st.sh b u h
      · have h : some a = some b := h
        cases h
        exact ⟨upd_same, hs0⟩
    have f1 := r.fr.ext ex1
    unfold setF at hρ
    split at hρ
    · rename_i hi
      cases hρ
      exact k2 _ _ _ ex1.le ⟨f1.set (.town rfl) hi, st1, r.ex.trans ex1⟩
    · cases hρ
/-- town.append(0) -/
theorem s_tick (hN : X.N[i]? = some x) (hv : Vis X.env.scope x) (hd : (x == ("__debug__" : Str)) = false) (hcd : (x == ("__classdict__" : Str)) = false) {j : Nat} {p2 : Pos} (mc : MCall X (.Name x p) (.Constant (.int 0) j p2) apos cpos "append") :
    PS X (.Expr (.Call (.Attribute (.Name x p) "append" apos) [.Constant (.int 0) j p2] [] cpos) pos) (tS (cn X g) E fun ρ => match ρ[i]? with
      | some (some (.sh .town)) => fun s => if s.getD 0 < sizeLine then .ok (.nx ρ) (some (s.getD 0 + 1)) else .bad
      | _ => fail) := by
  refine PS.imp (ps_expr (pe_bm PySem.F.plainAttrs_list PySem.F.slot_list_append PySem.F.type_list_append mt_append (pe_var hN hv hd hcd) (pa_cons pe_int pa_nil mc.star) mc.base mc.few mc.line mc.star rfl) rfl) fun D σ H q => ?_
  obtain ⟨W0, H0, ρ, S, W, r, k⟩ := q
  cases hh : ρ[i]? with
  | none => simp only [hh] at k; exact k.elim
  | some o =>
    cases o with
    | none => simp only [hh] at k; exact k.elim
    | some sl =>
      cases sl with
      | ow d => simp only [hh] at k; exact k.elim
      | sh d =>
        cases d with
        | town =>
          simp only [hh] at k
          obtain ⟨v, h1, h2⟩ := r.fr.sh i _ hh
          cases h2 with
          | town hL =>
            rename_i a
            obtain ⟨t1, t2⟩ := r.st.tw a hL
            refine ⟨_, h1, .inl ⟨rfl, _, SqL.of t1⟩, a, _, _, rfl, rfl, t1, ?_, ?_⟩
            · split at k
              · rename_i hz; rw [List.length_replicate]; exact hz
              · exact k.elim
            · split at k
              · rename_i hz
                have e1 : List.replicate (S.getD 0) (V.int 0) ++ [V.int 0] = List.replicate (S.getD 0 + 1) (V.int 0) := by rw [List.replicate_succ']
                rw [e1]
                have ex1 : Ext W H W (upd H a (.lst (List.replicate (S.getD 0 + 1) (V.int 0)))) := by
                  refine ⟨WLe.refl _, fun b h1 h2 => absurd h1 h2, fun b h1 h2 => ?_, fun b u h1 h2 => ?_, fun b h => ?_⟩
                  · rw [h2] at h1; cases h1
                  · have : b ≠ a := fun z => h2 (by rw [z]; exact hL)
                    rw [upd_ne this]; exact h1
                  · by_cases hb : b = a
                    · rw [hb, upd_same]; simp
                    · rw [upd_ne hb]; exact h
                refine k σ _ W (WLe.refl _) ⟨r.fr.ext ex1, ⟨fun b u h => ?_, fun b h => ?_, fun h => nomatch h⟩, r.ex.trans ex1⟩
                · rw [upd_ne (ne_of_none h t2)]; exact r.st.sh b u h
                · rw [hL] at h
                  cases h
                  exact ⟨upd_same, t2⟩
              · exact k.elim
        | _ => simp only [hh] at k; exact k.elim
/-- len(town) -/
theorem q_tlen (hg : Gl X "len") (hm : X.mg "len" = none) (he : PE X e (tE (cn X g) E m)) (hs : starEach [e] X.env = (false, eval e X.env) :: starEach [] X.env) :
    PE X (.Call (.Name "len" p) [e] [] pos) (tE (cn X g) E fun ρ => bnd (m ρ) fun x => match x with | .town => fun s => .ok (.int (s.getD 0 : Nat)) s | _ => fail) := by
  refine PE.imp (pe_callB call_len hg hm boot_len (pa_cons he pa_nil hs) (by decide) (by decide) hs rfl) fun σ H Q q => ?_
  obtain ⟨H0, ρ, S, W, fr, st, pp⟩ := q
  refine ⟨H0, ρ, S, W, fr, st, (Pst.fst pp).imp fun d S1 W1 H1 e1 s1 p1 v r => ?_⟩
  cases d with
  | town =>
    cases r with
    | town hL =>
      obtain ⟨t1, t2⟩ := s1.tw _ hL
      have := p1.okk s1 (.int (S1.getD 0 : Nat)) (.int _)
      exact ⟨_, _, rfl, .inl ⟨_, SqL.of t1, rfl⟩, by rw [List.length_replicate]; exact this⟩
  | _ => exact p1.elim
/-- raise X('..') -/
theorem s_raise {j c : Nat} {msg : Str} {p1 p2 : Pos} {bmB : List Value} {B newId initId : String} (hc : X.calm = true) (tk : Takes X fun c d _ H => E c d H) (F : ExcBaseFacts B newId initId bmB) (q : PySem.W.excIn X.K (g.cls c) bmB newId = true) (gC : X.mg x = some (.ref (g.cls c)))
    (kC : PySem.W.keepIn X.K (.ref (g.cls c)) = true) (r : Raises X (.ref (g.cls c))) (hg : Gl X x) (hdb : (x == ("__debug__" : Str)) = false) :
    PS X (.Raise (some (.Call (.Name x p) [.Constant (.str msg) j p2] [] p1)) none pos) (tS (cn X g) E fun _ => fun s => .exc c s) := PS.imp (ps_raise hc tk (pmk_own F q gC kC r hg hdb)) fun D σ H q => by
  obtain ⟨W0, H0, ρ, S, W, r, k⟩ := q
  exact k H W r.ex r.st
end
end G
/-! GH: a caught error, the def that is asked which it is. -/
namespace G
open PySem PySem.Spec PyProof.Rows L2
mutual
/-- plain data: no matter which error is held -/
theorem Rep.plain {C C' : Cn} {W : Wd} (hK : C.K = C'.K) : ∀ {v : V} {d : D}, Rep C W v d → d.plain = true → Rep C' W v d
  | _, _, .non, _ => .non
  | _, _, .bl b, _ => .bl b
  | _, _, .int i, _ => .int i
  | _, _, .str x h h2, _ => .str x h h2
  | _, _, .tup h l r, e => .tup (by rw [← hK]; exact h) l (Reps.plain hK r e)
  | _, _, .lst h l r, e => .lst h l (Reps.plain hK r e)
  | _, _, .scr h l, e => nomatch e
  | _, _, .fn h, e => nomatch e
  | _, _, .town h, e => nomatch e
  | _, _, .exn h, e => nomatch e
  | _, _, .dct _ _ _ _ _ _ _, e => nomatch e
theorem Reps.plain {C C' : Cn} {W : Wd} (hK : C.K = C'.K) : ∀ {vs : List V} {ds : List D}, Reps C W vs ds → D.plains ds = true → Reps C' W vs ds
  | _, _, .nil, _ => .nil
  | _, _, .cons h t, e => .cons (Rep.plain hK h (Bool.and_eq_true_iff.mp e).1) (Reps.plain hK t (Bool.and_eq_true_iff.mp e).2)
end
/-- what a def promises where an error is held -/
structure FnW (P : Program) (w : World) (K : PySem.W.Frag) (mg : Str → Option Value) (base : Heap) (k : Nat) (f : Addr) (fd : FuncData) (ps : List Str) (p : Addr × Obj) (sp : Sp) : Prop where
  len : ∀ vs H Q E, sp vs H Q E → vs.length = ps.length
  run : ∀ (A : Around) (outer : List Env) (s : Shared) (H : Hp) (args : Args) (us : List Value) (vs : List V) (Q : VK) (E : XK), L2H.RoomH k A → L2H.PinOk outer H s p → Env0 P w K mg base A outer s H → BindsTo s fd args (ps.zip us) → Vals vs us → sp vs H Q E →
    codeAny (model P w) A (.call (.ref f) args) (CR (CX P w) outer P w H s Q E) s
theorem FnW.imp {P : Program} {w : World} {K : PySem.W.Frag} {mg : Str → Option Value} {base : Heap} {k : Nat} {f : Addr} {fd : FuncData} {ps : List Str} {p : Addr × Obj} {sp sp' : Sp} (F : FnW P w K mg base k f fd ps p sp) (h : ∀ vs H Q E, sp' vs H Q E → sp vs H Q E) : FnW P w K mg base k f fd ps p sp' :=
  ⟨fun vs H Q E z => F.len vs H Q E (h vs H Q E z), fun A outer s H args us vs Q E a b c d e z => F.run A outer s H args us vs Q E a b c d e (h vs H Q E z)⟩
theorem fn_ofW {P : Program} {w : World} {K : PySem.W.Frag} {mg : Str → Option Value} {base : Heap} {k : Nat} {f : Addr} {name qual : Str} {params : Arguments} {body : List Stmt} {scope : Scope} {dV kV doc pm cdv ct oc : Value} {an od : Option Addr}
    {osl : Array (Option Value)} {N ps : List Str} {sp : Sp} {p : Addr × Obj} (lk : K.lookup f = some ⟨oc, od, .func (PySem.W.fnOf name qual params body scope dV kV doc pm an cdv ct), osl⟩) (hcd : PySem.W.codeIn K cdv qual = true) (S : FnScope N ps scope)
    (len : ∀ vs H Q E, sp vs H Q E → vs.length = ps.length)
    (hbody : ∀ (A : Around) (outer : List Env) (s : Shared) (H : Hp) (vs : List V) (Q : VK) (E : XK), L2H.RoomH k (A.deeper (envOfC qual scope s.heap.objs.size f cdv)) → sp vs H Q E →
      ∃ t, PSs (L2H.cxH (CX P w) P w K mg base N qual scope f cdv A outer s H E p) body t ∧ t { nx := fun _ H' => Q .non H', rt := Q } (L2.start N vs) H) :
    FnW P w K mg base (k + 1) f (PySem.W.fnOf name qual params body scope dV kV doc pm an cdv ct) ps p sp := by
  refine ⟨len, fun A outer s H args us vs Q E hr hpin e0 hb r hsp => ?_⟩
  have hl := len _ _ _ _ hsp
  have KX : K.In s.heap := e0.mod.kin.keeps fun b o e => (e0.bs b o e).1
  have lim : s.heap.NoLimit := e0.mod.nolimit.keeps fun b o e => (e0.bs b o e).1
  have hkind : ∀ y ∈ ps.zip us, scope.names.lookup y.1 = some .local ∨ (scope.names.lookup y.1 = some .cell ∧ ((cellsFrom (s.heap.objs.size + 1) scope.names []).lookup y.1).isSome = true) := fun ⟨n, v⟩ hy => by
    rcases S.par n (List.of_mem_zip hy).1 with q | q
    · exact .inl q
    · exact .inr ⟨q, PySem.W.cellsFrom_some _ _ _ (.inl q)⟩
  refine codeAny_call_function hr.depth (KX _ _ lk) rfl S.co S.gen rfl (PySem.W.codeRec_of KX hcd) (hb _ _ _ _ ?_)
  refine wpAny_newFunctionEnv_cells S.kind hkind fun env he s1 x => ?_
  subst he
  refine ⟨lim.keeps x.toInCall.keep, codeAny_func ?_⟩
  obtain ⟨t, ht, hq⟩ := hbody A outer s H vs Q E (hr.deeper _) hsp
  have I : Inv (L2H.cxH (CX P w) P w K mg base N qual scope f cdv A outer s H E p) [] (L2.start N vs) H s1 := L2H.inv_startH S hpin e0 hl r x
  refine wpAny_mono (ht.run [] s1 (L2.start N vs) H _ I hq) (fun fl s' hs => ?_) fun e s' hs => hs
  have fin : ∀ {σ' : L2.St} {H' : Hp} {v : V} {u : Value}, Inv (L2H.cxH (CX P w) P w K mg base N qual scope f cdv A outer s H E p) [] σ' H' s' → RelV v u → Q v H' → CE outer P w H s Q u s' :=
    fun {σ' H' v u} J rv q => ⟨v, H', J.os, J.bare, J.base, J.hok, rv, q⟩
  cases fl with
  | ret u =>
    obtain ⟨v, σ', H', J, rv, q⟩ := hs
    exact fin J rv q
  | next =>
    obtain ⟨σ', H', J, q⟩ := hs
    exact fin (v := V.non) (u := Value.none) J rfl q
  | brk =>
    obtain ⟨_, _, _, q⟩ := hs
    exact False.elim q
  | cont =>
    obtain ⟨_, _, _, q⟩ := hs
    exact False.elim q
section
variable {X : Cx} {k : Nat} {f : Addr} {fd : FuncData} {ps : List Str} {sp : Sp} {x n : Str} {q pos : Pos} {e : Expr} {es : List Expr} {t : TA} {p : Addr × Obj} {i : Nat}
theorem run_fnW {pins : List (Addr × Obj)} {σ : L2.St} {H : Hp} {s : Shared} {Q : VK} {us : List Value} {vs : List V} (F : FnW X.prog X.w X.K X.mg X.base k f fd ps p sp) (hr : L2H.RoomH k X.A) (hp : p ∈ X.pn) (hb : Binds X.K fd ps [])
    (I : Inv X pins σ H s) (r : Vals vs us) (h : sp vs H Q EF) : wpAny (model X.prog X.w) X.A (call (.ref f) us) (EP X pins σ Q) X.xe s := by
  have hl : us.length = ps.length := by rw [← r.length]; exact F.len _ _ _ _ h
  have b := hb s us I.kIn (by rw [List.append_nil]; exact hl)
  rw [List.append_nil] at b
  have P1 := I.pin p (List.mem_append_left _ hp)
  have hpin : L2H.PinOk X.stack H s p := ⟨P1.1, P1.2.1, fun hm => (List.mem_cons.mp (I.stkSub p.1 hm)).elim P1.2.2.1 P1.2.2.2.1, P1.2.2.2.2⟩
  refine wpAny_call (codeAny_mono (F.run X.A X.stack s H ⟨us, []⟩ us vs Q EF hr hpin I.env0 b r h) fun r s' hq => ?_)
  cases r with
  | error e =>
    obtain ⟨a, B, H', cls, d, _, _, _, _, _, _, _, z⟩ := hq
    exact z.elim
  | ok fl =>
    cases fl with
    | ret u => exact I.after hq
    | next => exact False.elim hq
    | brk => exact False.elim hq
    | cont => exact False.elim hq
/-- return which(e), in the suite -/
theorem s_which (F : FnW X.prog X.w X.K X.mg X.base k f fd ps p sp) (hr : L2H.RoomH k X.A) (hp : p ∈ X.pn) (hb : Binds X.K fd ps []) (hg : Gl X x) (hm : X.mg x = some (.ref f)) (hk : PySem.W.keepIn X.K (.ref f) = true) (hdb : (x == ("__debug__" : Str)) = false)
    (hN : X.N[i]? = some n) (hv : Vis X.env.scope n) (hd : (n == ("__debug__" : Str)) = false) (hcd : (n == ("__classdict__" : Str)) = false) {q2 q3 : Pos} :
    PSs X [.Return (some (.Call (.Name x q) [.Name n q2] [] pos)) q3] (fun D σ H => ∃ v, σ[i]? = some (some v) ∧ sp [v] H D.rt EF) := by
  have hc : PE X (.Call (.Name x q) [.Name n q2] [] pos) (fun σ H Q => ∃ v, σ[i]? = some (some v) ∧ sp [v] H Q EF) := by
    refine ⟨fun pins s σ H Q I h => ?_⟩
    obtain ⟨v, hv1, h⟩ := h
    refine wpAny_Call_Name_kw (ld_glob I hg hm ?_ hdb)
    refine PySem.W.callWith_K (h₀ := X.base) I.ok.mod.kin hk (thn ((pa_cons (pe_var (pos := q2) hN hv hd hcd) pa_nil rfl).run pos pins s σ H (fun vs H1 => vs = [v] ∧ H1 = H) I ⟨v, hv1, rfl, rfl⟩) fun us s1 ⟨vs, H1, I1, r, q⟩ => ⟨I1.kIn, ?_⟩) rfl rfl
    obtain ⟨rfl, rfl⟩ := q
    exact run_fnW F hr hp hb I1 r h
  exact PSs.imp (pss_cons (ps_ret hc) pss_nil) fun D σ H q => q
end
/-- an exception in the air: the frame's slots are as many as its names -/
theorem takes_len {X : Cx} {W W' : WX} (t : Takes X W) (h : ∀ c d σ H, σ.length = X.N.length → W' c d σ H → W c d σ H) : Takes X W' := fun u s' ⟨a, B, sI, pins, σ, H, cls, d, e, I, nb, up, sky, na, os, ag, w⟩ =>
  t u s' ⟨a, B, sI, pins, σ, H, cls, d, e, I, nb, up, sky, na, os, ag, h _ _ _ _ I.len w⟩
/-! ### the classes of errors, held against one another -/
/-- C, the number c, is an own class of errors under G; of the classes l it is just itself -/
def xcIn (K : PySem.W.Frag) (c : Nat) (C G : Addr) (l : List (Nat × Addr)) : Bool :=
  PySem.W.findIn K (.ref C) "__getattribute__" == some (some (.builtin "BaseException.__getattribute__")) && PySem.W.findIn K (.ref C) "__getattr__" == some none &&
  PySem.W.subIn K (.ref C) (.type "BaseException") == some true && PySem.W.hasDictIn K C && PySem.W.findIn K (.ref C) "__class__" == some (some (.builtin "object.__class__")) &&
  PySem.W.specialIn K (.builtin "object.__class__") "__get__" == some (some (.builtin "getset_descriptor.__get__")) && PySem.W.takesIn K (.builtin "object.__class__") == some true && PySem.W.mroIn K C (.type "object") == some true &&
  PySem.W.kitOne K (.ref C) (.type "ValueError") == some true && PySem.W.exmOne K (.ref C) (.ref G) == some true && l.all fun q => PySem.W.kitOne K (.ref C) (.ref q.2) == some (c == q.1)
structure XC (K : PySem.W.Frag) (c : Nat) (C G : Addr) (l : List (Nat × Addr)) : Prop where
  ec : ExcC K C
  iv : PySem.W.kitOne K (.ref C) (.type "ValueError") = some true
  ex : PySem.W.exmOne K (.ref C) (.ref G) = some true
  is : ∀ q ∈ l, PySem.W.kitOne K (.ref C) (.ref q.2) = some (c == q.1)
theorem xc_of {K : PySem.W.Frag} {c : Nat} {C G : Addr} {l : List (Nat × Addr)} (h : xcIn K c C G l = true) : XC K c C G l := by
  unfold xcIn at h
  simp only [Bool.and_eq_true, beq_iff_eq, List.all_eq_true] at h
  obtain ⟨⟨⟨⟨⟨⟨⟨⟨⟨⟨h1, h2⟩, h3⟩, h4⟩, h5⟩, h6⟩, h7⟩, h8⟩, h9⟩, h10⟩, h11⟩ := h
  exact ⟨⟨h1, h2, h3, h4, h5, h6, h7, h8⟩, h9, h10, h11⟩
/-- isinstance(e, c), e the error that is held -/
theorem call_isW {X : Cx} {a D : Addr} {oe : Obj} (C : ExcC X.K D) (hp : (a, oe) ∈ X.pn) (hz : Zc (.ref D) none oe) (hf : ∃ vs, oe.data = .fields vs) : CallR X (.builtin "isinstance") (rIsE X.K D a) := by
  intro pins s σ H xs us Q I r h
  obtain ⟨c, cv, b, rfl, hcv, e, q⟩ := h
  cases r with
  | cons rx rr =>
    cases rr with
    | cons rt rr =>
      cases rr
      cases rx
      have ec := hcv _ rt
      subst ec
      obtain ⟨hget, _⟩ := I.pin (a, oe) (List.mem_append.mpr (.inl hp))
      obtain ⟨vs, hv⟩ := hf
      have J : PySem.W.InstAt s.heap a oe D none := by
        obtain ⟨oc, od, oda, osl⟩ := oe
        obtain ⟨h1, h2⟩ := hz
        dsimp only at h1 h2 hv
        subst h1 h2 hv
        exact ⟨hget, rfl, rfl, trivial⟩
      exact PySem.W.kia_one (PySem.W.handS_kitx_exc C.hg C.hk C.hs C.hd C.ha C.hn C.ht C.hm) I.kIn J e (fun z => nomatch z) fun tk => ⟨.bl b, H, I.kept (t' := tk) fun _ _ z => z, rfl, q⟩
section
variable {X : Cx} {g : Gi} {E : XK} {a : Expr} {m : Fr → M D} {p p2 pos : Pos} {y : Str} {oe : Obj} {ad C : Addr} {ce c : Nat}
theorem q_isx (he : g.ex = some (ad, ce)) (ec : ExcC X.K (g.cls ce)) (hp : (ad, oe) ∈ X.pn) (hz : Zc (.ref (g.cls ce)) none oe) (hf : ∃ vs, oe.data = .fields vs) (hki : PySem.W.kitOne X.K (.ref (g.cls ce)) (.ref C) = some (ce == c))
    (hg : Gl X "isinstance") (hm : X.mg "isinstance" = none) (hg2 : Gl X y) (hm2 : X.mg y = some (.ref C)) (hd2 : (y == ("__debug__" : Str)) = false) (ha : PE X a (tB (cn X g) E m)) (hs : starEach [a, .Name y p2] X.env = (false, eval a X.env) :: starEach [.Name y p2] X.env) :
    PE X (.Call (.Name "isinstance" p) [a, .Name y p2] [] pos) (tE (cn X g) E fun ρ => bnd (m ρ) fun d => opt (dIsx c d)) := by
  have hT : PE X (.Name y p2) (tC (.ref C)) := pe_glob hg2 hm2 rfl hd2
  refine PE.imp (pe_callB (call_isW ec hp hz hf) hg hm (by decide +kernel) (pa_cons ha (pa_cons hT pa_nil rfl) hs) (by decide) (by decide) hs rfl) fun σ H Q q => ?_
  obtain ⟨H0, ρ, S, W, fr, st, pp⟩ := q
  refine ⟨H0, ρ, S, W, fr, st, (Pst.fst pp).imp fun d S1 W1 H1 e1 s1 p1 v r => ?_⟩
  obtain ⟨d', hd', p2⟩ := p1.opt
  cases d <;> first | (cases hd'; done) | skip
  cases hd'
  cases r.flat rfl with
  | exn hx =>
    have hx : g.ex = some _ := hx
    rw [he] at hx
    cases hx
    exact ⟨.ref C, .ref C, _, rfl, (fun u z => z), hki, p2.okk s1 _ (.bl _)⟩
theorem q_isv (he : g.ex = some (ad, ce)) (ec : ExcC X.K (g.cls ce)) (hp : (ad, oe) ∈ X.pn) (hz : Zc (.ref (g.cls ce)) none oe) (hf : ∃ vs, oe.data = .fields vs) (hki : PySem.W.kitOne X.K (.ref (g.cls ce)) (.type "ValueError") = some true)
    (hg : Gl X "isinstance") (hm : X.mg "isinstance" = none) (hg2 : Gl X "ValueError") (hm2 : X.mg "ValueError" = none) (ha : PE X a (tB (cn X g) E m)) (hs : starEach [a, .Name "ValueError" p2] X.env = (false, eval a X.env) :: starEach [.Name "ValueError" p2] X.env) :
    PE X (.Call (.Name "isinstance" p) [a, .Name "ValueError" p2] [] pos) (tE (cn X g) E fun ρ => bnd (m ρ) fun d => opt (dIsv d)) := by
  have hT : PE X (.Name "ValueError" p2) (tC (.ty "ValueError")) := pe_bltn hg2 hm2 (by decide +kernel) rfl (by decide) (by decide)
  refine PE.imp (pe_callB (call_isW ec hp hz hf) hg hm (by decide +kernel) (pa_cons ha (pa_cons hT pa_nil rfl) hs) (by decide) (by decide) hs rfl) fun σ H Q q => ?_
  obtain ⟨H0, ρ, S, W, fr, st, pp⟩ := q
  refine ⟨H0, ρ, S, W, fr, st, (Pst.fst pp).imp fun d S1 W1 H1 e1 s1 p1 v r => ?_⟩
  obtain ⟨d', hd', p2⟩ := p1.opt
  cases d <;> first | (cases hd'; done) | skip
  cases hd'
  cases r.flat rfl with
  | exn hx =>
    have hx : g.ex = some _ := hx
    rw [he] at hx
    cases hx
    exact ⟨.ty "ValueError", .type "ValueError", _, rfl, (fun u z => z), hki, p2.okk s1 _ (.bl _)⟩
end
/-! ### try .. except GapError as e: return which(e) -/
def mTry (n : Nat) (mb : Fr → M Flw) (mw : Nat → M D) : Fr → M Flw := fun ρ s => match mb ρ s with
  | .ok f s' => .ok f s'
  | .exc c s' => if c < n then bnd (noexc (mw c)) (fun d => if d.plain = true then ret (.rt d) else fail) s' else .bad
  | .bad => .bad
theorem s_try {X : Cx} {g : Gi} {E : XK} {i n : Nat} {G : Addr} {nm wn : Str} {body : List Stmt} {np p1 p2 p3 p4 pos pos' : Pos} {mb : Fr → M Flw} {mw : Nat → M D} {k : Nat} {f : Addr} {fd : FuncData} {ps : List Str}
    (hst : X.stack = X.env :: X.outer) (hfr : X.env.frame = some X.env.locals) (hN : X.N.Nodup) (hi : X.N[i]? = some nm) (hln : X.env.kindOf nm = some .local) (hd : (nm == ("__debug__" : Str)) = false) (hcd : (nm == ("__classdict__" : Str)) = false) (hc : Names X "GapError" (.ref G))
    (tk : Takes X fun c d _ H => E c d H) (hr : Room k X.A) (hb : Binds X.K fd ps []) (hg : Gl X wn) (hm : X.mg wn = some (.ref f)) (hk : PySem.W.keepIn X.K (.ref f) = true) (hdb : (wn == ("__debug__" : Str)) = false)
    (hx : ∀ c, c < n → PySem.W.exmOne X.K (.ref (g.cls c)) (.ref G) = some true)
    (hw : ∀ (p : Addr × Obj) (c : Nat), c < n → Zc (.ref (g.cls c)) none p.2 → (∃ vs, p.2.data = .fields vs) → FnW X.prog X.w X.K X.mg X.base k f fd ps p (spF ⟨X.K, g.fa, g.cls, some (p.1, c), X.w⟩ 1 fun ds => match ds with | [.exn c'] => mw c' | _ => fail))
    (hbody : ∀ (E' : XK) (pn : List (Addr × Obj)) (xe : Value → Shared → Prop), Takes (X.tr pn xe) (fun c d _ H => E' c d H) → PassesOwn (model X.prog X.w) X.A X.env xe → PSs (X.tr pn xe) body (tS (cn X g) E' mb)) :
    PS X (.Try body [.ExceptHandler (some (.Name "GapError" np)) (some nm) [.Return (some (.Call (.Name wn p1) [.Name nm p2] [] p3)) p4] pos'] [] [] pos) (tS (cn X g) E (mTry n mb mw)) := by
  have hv : Vis X.env.scope nm := .inl hln
  have hil : i < X.N.length := (List.getElem?_eq_some_iff.mp hi).1
  refine PS.imp (ps_try_as (i := i) (Wout := fun c d _ H => E c d H) (tb := fun W => tS (cn X g) (fun c d H => ∀ σ : L2.St, σ.length = X.N.length → W c d σ H) mb)
    (ts := fun a cls d => fun D σ H => ∃ c, c < n ∧ cls = .ref (g.cls c) ∧ d = none ∧ ∃ v, σ[i]? = some (some v) ∧ spF ⟨X.K, g.fa, g.cls, some (a, c), X.w⟩ 1 (fun ds => match ds with | [.exn c'] => mw c' | _ => fail) [v] H D.rt EF)
    hst hfr hN hi hln hc tk (fun W pn xe t po => ?_) (fun a oe cls d pn hz hf => ?_)) fun D σ H q => ?_
  · exact hbody _ pn xe (takes_len t fun c d σ H hl h => h σ hl) po
  · refine ⟨fun pins s σ H D I h => ?_⟩
    obtain ⟨c, hcn, rfl, rfl, v, h1, h2⟩ := h
    exact (s_which (X := X.suite a ((a, oe) :: pn)) (p := (a, oe)) (hw (a, oe) c hcn hz hf) ⟨hr.dp, hr.un⟩ List.mem_cons_self hb hg hm hk hdb hi hv hd hcd).run pins s σ H D I ⟨v, h1, h2⟩
  · obtain ⟨W0, H0, ρ, S, W, r, h⟩ := q
    refine ⟨W0, H0, ρ, S, W, r, ?_⟩
    unfold mTry at h
    cases hm : mb ρ S with
    | bad => rw [hm] at h; exact h
    | ok fl S1 => rw [hm] at h; cases fl <;> exact h
    | exc c S1 =>
      rw [hm] at h
      dsimp only at h
      split at h
      · rename_i hcn
        intro H' W' ex st σ' hl
        refine ⟨true, hx c hcn, fun _ a ha => ⟨c, hcn, rfl, rfl, .ref a, ?_, W', S1, [.exn c], st, .cons (.exn rfl) .nil, rfl, ?_⟩, fun z => nomatch z⟩
        · rw [List.getElem?_set_self (by rw [hl]; exact hil)]
        · show Pst _ EF W' H' (mw c S1) _
          unfold bnd noexc at h
          cases hq : mw c S1 with
          | bad => rw [hq] at h; exact h
          | exc c2 S2 => rw [hq] at h; exact (show False from h).elim
          | ok d S2 =>
            rw [hq] at h
            dsimp only at h
            split at h
            · rename_i hp
              intro H2 W2 e2 s2 v rv
              exact h v H2 W2 (ex.trans e2) s2 (Rep.plain (C := ⟨X.K, g.fa, g.cls, some (a, c), X.w⟩) (C' := cn X g) rfl rv hp)
            · exact h.elim
      · exact h.elim
end G
/-! GX1: while, pop, item stores, dicts made. -/
namespace G
open PySem L2
section
variable {X : Cx} {g : Gi} {E : XK} {pos pos' p p2 apos cpos : Pos} {e a k v c : Expr} {body : List Stmt} {m ma me mk mv mc : Fr → M D} {mb : Fr → M Flw} {i j : Nat} {x y : Str}
theorem s_whl {n : Nat} (hp : PassesOwn (model X.prog X.w) X.A X.env X.xe) (hc : PT X c (tT (cn X g) E mc)) (hb : PSs X body (tS (cn X g) E mb)) : PS X (.While c body [] pos) (tS (cn X g) E fun ρ => whlL (fun ρ => bnd (mc ρ) blD) mb n ρ) := PS.imp (ps_while hp hc hb) fun D σ H q => by
  obtain ⟨W0, H0, ρ, S, W, r, k⟩ := q
  refine ⟨fun m σ' H' => ∃ (W' : Wd) (ρ' : Fr) (S' : Sto), Rel (cn X g) W0 H0 W' ρ' S' σ' H' ∧ WLe W W' ∧ StS (cn X g) E W0 H0 W D (whlL (fun ρ => bnd (mc ρ) blD) mb m ρ' S'), ⟨n, W, ρ, S, r, WLe.refl _, k⟩, ?_⟩
  rintro m σ' H' ⟨W', ρ', S', r', le, k2⟩
  cases m with
  | zero => exact k2.elim
  | succ m =>
    unfold whlL at k2
    rw [bnd_assoc] at k2
    refine ⟨H0, ρ', S', W', r'.fr, r'.st, (k2.fst r'.ex).imp fun d S1 W1 H1 e1 s1 k3 => ?_⟩
    obtain ⟨b, rfl, k4⟩ := k3.bl
    refine ⟨b, rfl, ?_⟩
    cases b with
    | false =>
      rw [if_neg (by decide)] at k4 ⊢
      exact k4 σ' H1 W1 (le.trans e1.le) (r'.ext e1 s1)
    | true =>
      rw [if_pos rfl] at k4 ⊢
      refine ⟨fun σ2 H2 => ∃ (W' : Wd) (ρ' : Fr) (S' : Sto), Rel (cn X g) W0 H0 W' ρ' S' σ2 H2 ∧ WLe W W' ∧ StS (cn X g) E W0 H0 W D (whlL (fun ρ => bnd (mc ρ) blD) mb m ρ' S'), fun σ2 H2 q => ⟨m, Nat.lt_succ_self _, q⟩, W0, H0, ρ', S1, W1, r'.ext e1 s1, ?_⟩
      unfold bnd at k4
      cases hm : mb ρ' S1 with
      | bad => rw [hm] at k4; exact k4
      | exc c S3 => rw [hm] at k4; exact k4
      | ok f S3 =>
        rw [hm] at k4
        cases f with
        | nx ρ3 => exact fun σ3 H3 W3 l3 r3 => ⟨W3, ρ3, S3, r3, (le.trans e1.le).trans l3, k4⟩
        | ct ρ3 => exact fun σ3 H3 W3 l3 r3 => ⟨W3, ρ3, S3, r3, (le.trans e1.le).trans l3, k4⟩
        | rt d => exact k4
theorem last_rep {C : Cn} {W : Wd} {vs : List V} {l : List D} {d : D} (r : Reps C W vs l) (h : l.getLast? = some d) : ∃ y, vs[vs.length - 1]? = some y ∧ Rep C W y d := by
  rw [List.getLast?_eq_getElem?] at h
  obtain ⟨y, h1, h2⟩ := r.get h
  exact ⟨y, by rw [r.length]; exact h1, h2⟩
theorem Reps.dropLast {C : Cn} {W : Wd} {vs : List V} {l : List D} (r : Reps C W vs l) : Reps C W vs.dropLast l.dropLast := by
  rw [List.dropLast_eq_take, List.dropLast_eq_take, r.length]
  exact r.take _
theorem s_pop (hN : X.N[i]? = some x) (hv : Vis X.env.scope x) (hd : (x == ("__debug__" : Str)) = false) (hcd : (x == ("__classdict__" : Str)) = false) (hnd : X.N.Nodup) (hNy : X.N[j]? = some y) (hly : Loc X.env.scope y) (hfy : X.fn y = true ∨ X.env.scope.names.lookup y = some .local) (hline : (apos.endLine == cpos.line) = true) :
    PS X (.Assign [.Name y p2] (.Call (.Attribute (.Name x p) "pop" apos) [] [] cpos) pos) (tS (cn X g) E fun ρ => match ρ[i]? with
      | some (some (.ow (.lst l))) => bnd (opt l.getLast?) fun d => bnd (opt (setF (ρ.set i (some (.ow (.lst l.dropLast)))) j (some (.sh d)))) fun ρ' => ret (.nx ρ')
      | _ => fail) := by
  refine PS.imp (ps_set hnd hNy hly (pe_bm0 PySem.F.plainAttrs_list PySem.F.slot_list_pop PySem.F.type_list_pop mt_pop (pe_var hN hv hd hcd) rfl hline) rfl hfy) fun D σ H q => ?_
  obtain ⟨W0, H0, ρ, S, W, r, k⟩ := q
  cases hh : ρ[i]? with
  | none => simp only [hh] at k; exact k.elim
  | some o =>
    cases o with
    | none => simp only [hh] at k; exact k.elim
    | some sl =>
      cases sl with
      | sh d => simp only [hh] at k; exact k.elim
      | ow d =>
        cases d with
        | lst l =>
          simp only [hh] at k
          obtain ⟨d, hd, k1⟩ := k.opt
          obtain ⟨ρ', hρ, k2⟩ := k1.opt
          obtain ⟨b, h1, h2, h3, h4, h5⟩ := r.fr.ow i _ hh
          obtain ⟨vs, g1, g2, g3⟩ := ownL h2
          obtain ⟨z, hz, rz⟩ := last_rep g3 hd
          refine ⟨_, h1, .inl ⟨rfl, vs, SqL.of g1⟩, b, vs, z, rfl, rfl, g1, hz, ?_⟩
          have f1 := r.fr.put ⟨_, hh⟩ h1 (d := .lst l.dropLast) (o := .lst vs.dropLast) ⟨vs.dropLast, upd_same, Nat.le_trans (by simp) g2, g3.dropLast⟩
          have s1 : StoOk W S (upd H b (.lst vs.dropLast)) := r.st.own h3 h4
          exact gT_of (C := cn X g) s1.sh (.nm j) f1 rz hρ fun σ' f' _ => k2 σ' _ W (WLe.refl _) ⟨f', s1, r.ex.put h5⟩
        | _ => simp only [hh] at k; exact k.elim
/-- x[k] = v in a list -/
theorem setItem_at {prog : Program} {w : World} {A : Around} {F : Value → Shared → Prop} {s : Shared} {l : Addr} {ob : Obj} {its : Array Value} {n : Nat} {k : Int} {t : Tok} {u : Value} {Q : Unit → Shared → Prop} (ho : s.heap.get? l = some ob) (hc : ob.cls = .type "list") (hdt : ob.data = .seq its n) (h0 : 0 ≤ k) (hfit : k < 2 ^ 63) (hn : k < its.size)
    (hQ : Q () { s with heap := s.heap.update l (Obj.mapSeq (·.setIfInBounds k.toNat u)) }) : wpAny (model prog w) A (setItem (.ref l) (.int k t) u) Q F s := by
  have hT : s.TypeIs (.ref l) "list" := ⟨_, ho, hc⟩
  unfold setItem
  with_reducible refine wpAny_holding ?_
  refine wpAny_bind (wpAny_sequenceKey hT (by decide) ?_)
  refine wpAny_bind (wpAny_callSpecial?_slot (name := Str.ofString "__setitem__") hT slot_list_setitem (wpAny_call_entry slot_list_setitem hT entry_list_setitem ?_ (args_list_setitem _ _ _)))
  show wpAny _ _ ((Builtin.List.listSubscript? (.int k t)) >>= _) _ _ s
  refine wpAny_bind (wpAny_listSubscript_int (fitsIndex_of h0 hfit) ?_)
  clear hfit
  obtain ⟨j, rfl⟩ := Int.eq_ofNat_of_zero_le h0
  have hj : j < its.size := by omega
  have hx : its[j]? = some its[j] := Array.getElem?_eq_getElem hj
  show wpAny _ _ ((seqItemAt l j >>= fun z => pure (z.map (j, ·))) >>= _) _ _ s
  refine wpAny_bind (wpAny_bind (wpAny_seqItemAt ho hdt (wpAny_pure ?_)))
  rw [hx]
  show wpAny _ _ ((setSeqItemAt l j u) >>= _) _ _ s
  refine wpAny_bind (wpAny_setSeqItemAt ho hdt ?_)
  first | exact wpAny_bind (wpAny_pure (wpAny_pure ⟨_, rfl, wpAny_pure hQ⟩)) | exact wpAny_pure ⟨_, rfl, wpAny_pure hQ⟩
theorem Reps.set {C : Cn} {W : Wd} {v : V} {d : D} (h : Rep C W v d) : ∀ {vs : List V} {ds : List D} (n : Nat), Reps C W vs ds → Reps C W (vs.set n v) (ds.set n d)
  | _, _, _, .nil => .nil
  | _, _, 0, .cons _ t => .cons h t
  | _, _, n + 1, .cons q t => .cons q (Reps.set h n t)
theorem PE.go {ρ : Fr} {S : Sto} {W : Wd} {H0 H : Hp} {σ : L2.St} {s : Shared} {pins : List (Addr × Obj)} {K : D → Sto → Wd → Hp → Prop} (h : PE X e (tE (cn X g) E m)) (I : Inv X pins σ H s) (fr : Frm (cn X g) H0 W ρ σ H) (st : StoOk W S H) (p : Pst (cn X g) E W H (m ρ S) K) :
    wpAny (model X.prog X.w) X.A (eval e X.env) (fun u s' => ∃ (v : V) (d : D) (S' : Sto) (W' : Wd) (H' : Hp), Inv X pins σ H' s' ∧ RelV v u ∧ Ext W H W' H' ∧ StoOk W' S' H' ∧ Rep (cn X g) W' v d ∧ K d S' W' H') X.xe s := by
  refine thn (h.run pins s σ H (fun v H' => ∃ (d : D) (S' : Sto) (W' : Wd), Ext W H W' H' ∧ StoOk W' S' H' ∧ Rep (cn X g) W' v d ∧ K d S' W' H') I ⟨H0, ρ, S, W, fr, st, p.imp fun d S1 W1 H1 e1 s1 k v r => ⟨d, S1, W1, e1, s1, r, k⟩⟩) ?_
  rintro u s' ⟨v, H', I', r, d, S', W', q⟩
  exact ⟨v, d, S', W', H', I', r, q.1, q.2.1, q.2.2.1, q.2.2.2⟩
theorem s_put (hu : X.A.units + 64 < cLine) (hN : X.N[i]? = some x) (hv : Vis X.env.scope x) (hd : (x == ("__debug__" : Str)) = false) (hcd : (x == ("__classdict__" : Str)) = false) (he : PE X e (tE (cn X g) E me)) (ha : PE X a (tE (cn X g) E ma)) (hs : swapsWith e (some (.Subscript (.Name x p) a pos')) pos.line X.env = pure false) :
    PS X (.Assign [.Subscript (.Name x p) a pos'] e pos) (tS (cn X g) E fun ρ => match ρ[i]? with
      | some (some (.ow (.lst l))) => bnd (me ρ) fun v => bnd (ma ρ) fun k => match k with
        | .int j => if 0 ≤ j ∧ j < (l.length : Int) then ret (.nx (ρ.set i (some (.ow (.lst (l.set j.toNat v)))))) else fail
        | _ => fail
      | some (some (.ow (.dct l))) => bnd (me ρ) fun v => bnd (ma ρ) fun k => if keyOkB l k = true ∧ l.length < sizeLine then ret (.nx (ρ.set i (some (.ow (.dct (putD l k v)))))) else fail
      | _ => fail) := by
  refine ⟨fun pins s σ H D I q => ?_⟩
  obtain ⟨W0, H0, ρ, S, W, r, k⟩ := q
  cases hh : ρ[i]? with
  | none => simp only [hh] at k; exact k.elim
  | some o =>
    cases o with
    | none => simp only [hh] at k; exact k.elim
    | some sl =>
      cases sl with
      | sh d => simp only [hh] at k; exact k.elim
      | ow d =>
        obtain ⟨b, h1, h2, h3, h4, h5⟩ := r.fr.ow i _ hh
        cases d with
        | lst l =>
          simp only [hh] at k
          refine wpAny_Assign_Subscript (thn (PE.go he I r.fr r.st (k.fst r.ex)) fun u s1 ⟨v, dv, S1, W1, H1, I1, ru, e1, st1, rv, k1⟩ => thn ((pe_var hN hv hd hcd).run pins s1 σ H1 (fun z H2 => z = .ref b ∧ H2 = H1) I1 ⟨_, h1, rfl, rfl⟩) fun u2 s2 ⟨z, H2, I2, rz, ez, eH⟩ => ?_) hs
          subst ez eH
          cases (show u2 = Value.ref b from rz)
          have r1 := r.ext e1 st1
          refine thn (PE.go ha I2 r1.fr r1.st (k1.fst r1.ex)) fun u3 s3 ⟨y, dk, S2, W2, H3, I3, ry, e2, st2, rk, k2⟩ => ?_
          cases dk <;> first | exact k2.elim | skip
          rename_i jj
          dsimp only at k2
          split at k2
          · rename_i hj
            obtain ⟨j0, rfl⟩ := Int.eq_ofNat_of_zero_le hj.1
            cases rk
            obtain ⟨t, rfl⟩ := ry
            have r2 := r1.ext e2 st2
            obtain ⟨b', q1, q2, q3, q4, q5⟩ := r2.fr.ow i _ hh
            rw [h1] at q1
            cases q1
            obtain ⟨vs, g1, g2, g3⟩ := ownL q2
            obtain ⟨z, its, n, rv', hl, eo⟩ := I3.lstM g1
            have hj2 : j0 < its.length := by
              have := g3.length
              omega
            refine setItem_at eo rfl rfl (Int.natCast_nonneg j0) (by rw [sizeLine_eq] at z; omega) (by rw [List.size_toArray]; omega) ⟨σ, upd H3 b (.lst (vs.set j0 v)), I3.lset (its' := its.set j0 u) g1 eo (by simp) (Vals.set ru _ rv') (by rw [List.length_set]; exact g2), ?_⟩
            refine k2 σ _ W2 (e1.le.trans e2.le) ⟨r2.fr.put ⟨_, hh⟩ h1 ⟨vs.set j0 v, upd_same, by rw [List.length_set]; exact g2, ?_⟩, r2.st.own q3 q4, r2.ex.put q5⟩
            exact Reps.set (rv.mono e2.le) _ g3
          · exact k2.elim
        | dct l =>
          simp only [hh] at k
          refine wpAny_Assign_Subscript (thn (PE.go he I r.fr r.st (k.fst r.ex)) fun u s1 ⟨v, dv, S1, W1, H1, I1, ru, e1, st1, rv, k1⟩ => thn ((pe_var hN hv hd hcd).run pins s1 σ H1 (fun z H2 => z = .ref b ∧ H2 = H1) I1 ⟨_, h1, rfl, rfl⟩) fun u2 s2 ⟨z, H2, I2, rz, ez, eH⟩ => ?_) hs
          subst ez eH
          cases (show u2 = Value.ref b from rz)
          have r1 := r.ext e1 st1
          refine thn (PE.go ha I2 r1.fr r1.st (k1.fst r1.ex)) fun u3 s3 ⟨y, dk, S2, W2, H3, I3, ry, e2, st2, rk, k2⟩ => ?_
          split at k2
          · rename_i hj
            have r2 := r1.ext e2 st2
            obtain ⟨b', q1, q2, q3, q4, q5⟩ := r2.fr.ow i _ hh
            rw [h1] at q1
            cases q1
            refine dic_put hu I3 st2 q2 q3 q4 (.inl rk) (rv.mono e2.le) ry ru hj.1 hj.2 fun s' ob xs I4 ow => ⟨σ, _, I4, ?_⟩
            exact k2 σ _ W2 (e1.le.trans e2.le) ⟨r2.fr.put ⟨_, hh⟩ h1 ow, r2.st.own q3 q4, r2.ex.put q5⟩
          · exact k2.elim
        | _ => simp only [hh] at k; exact k.elim
end
end G
/-! GX2: lists and dicts made anew, looked up; two names at once. -/
namespace G
open PySem L2
section
variable {X : Cx} {g : Gi} {E : XK} {pos pos' p p2 apos cpos : Pos} {e a b k v c : Expr} {m ma mb me mk mv mx : Fr → M D} {ms : Fr → M (List D)} {i j : Nat} {x y : Str}
theorem fresh_lst {W : Wd} {S : Sto} {H H1 : Hp} {W1 : Wd} {vs : List V} {ds : List D} {q : Addr} (e1 : Ext W H W1 H1) (s1 : StoOk W1 S H1) (hq : H1 q = none) (hz : vs.length ≤ sizeLine) (rs : Reps (cn X g) W1 vs ds) :
    Ext W1 H1 W1 (upd H1 q (.lst vs)) ∧ StoOk W1 S (upd H1 q (.lst vs)) ∧ RepF (cn X g) W H W1 (upd H1 q (.lst vs)) (.ref q) (.lst ds) := by
  have hl : W1.L ≠ some q := fun z => by rw [(s1.tw q z).1] at hq; cases hq
  refine ⟨Ext.own hq, s1.own (s1.sh.free hq) hl, q, rfl, ⟨vs, upd_same, hz, rs⟩, s1.sh.free hq, hl, ?_⟩
  cases q' : H q with
  | none => rfl
  | some o => exact absurd hq (e1.al q (by rw [q']; simp))
/-- list(x) of a dict, too -/
theorem call_listQ (hc : X.calm = true) : CallR X (.type "list") (fun xs H Q => ∃ (W : Wd) (S : Sto) (l : List (D × D)) (v : V), xs = [v] ∧ StoOk W S H ∧ RepB (cn X g) W H v (.dct l) ∧ ∀ p vs, H p = none → vs.length ≤ sizeLine → Reps (cn X g) W vs (l.map (·.1)) → Q (.ref p) (upd H p (.lst vs))) := by
  intro pins s σ H xs us Q I r ⟨W, S, l, v, exs, st, rb, k⟩
  subst exs
  obtain ⟨a, es, ep, rfl, hsys, h1, h2, raw, vs, rv, rs⟩ := dic_keys I st.sh rb
  rw [Vals.ref1 r]
  refine PySem.W.kdl_call (PySem.KdlSrc.rawDict (prog := X.prog) (w := X.w) hsys) (I.ok.hd hc) raw h2 fun h' tk acc c' kp hat hit => ?_
  have hacc : acc.toList = es.toList.map (·.key) := by
    obtain ⟨n1, n2⟩ := hit
    refine List.ext_getElem? fun i => ?_
    rw [List.getElem?_map, Array.getElem?_toList, Array.getElem?_toList]
    by_cases hi : i < es.size
    · have hi2 : i < acc.size := by omega
      obtain ⟨hi', e⟩ := n2 i acc[i] (Array.getElem?_eq_getElem hi2)
      rw [Array.getElem?_eq_getElem hi2, Array.getElem?_eq_getElem hi', e]
      rfl
    · rw [Array.getElem?_eq_none (by omega), Array.getElem?_eq_none (by omega)]
      rfl
  have hz : vs.length ≤ sizeLine := by
    have := rs.length
    rw [List.length_map] at this
    omega
  have hn : H s.heap.objs.size = none := I.hok.fresh (Nat.le_refl _)
  refine ⟨.ref _, upd H s.heap.objs.size (.lst vs), I.laid (t' := tk) kp (Nat.le_refl _) ⟨hz, acc.toList, c', ?_, ?_⟩, rfl, k _ vs hn hz rs⟩
  · rw [hacc]; exact rv
  · rw [Array.toArray_toList]; exact hat
theorem cg_lst (hc : X.calm = true) : CallR X (.type "list") (rGc (cn X g) (un dLst)) := by
  intro pins s σ H vs us Q I r ⟨W, S, ds, d, st, rs, hf, k⟩
  obtain ⟨a, e0, hf2⟩ := un_inv hf
  subst e0
  by_cases hb : ∃ l, a = .dct l
  · obtain ⟨l, rfl⟩ := hb
    cases hf2
    obtain ⟨v, rfl, ra⟩ := rs.inv1
    exact call_listQ (g := g) hc pins s σ H _ us Q I r ⟨W, S, l, v, rfl, st, ra, fun p vs hp hz rs => k _ _ _ (Ext.laid st.sh hp) (st.laid hp) (Rep.newL hp st.sh hz rs)⟩
  · have e : dLst a = dLst0 a := by
      cases a <;> first | rfl | exact absurd ⟨_, rfl⟩ hb
    exact cg_lst0 pins s σ H vs us Q I r ⟨W, S, _, d, st, rs, by show dLst0 a = some d; rw [← e]; exact hf2, k⟩
/-- list(x), of its own -/
theorem f_list (hc : X.calm = true) (hg : Gl X "list") (hm : X.mg "list" = none) (ha : PA X [e] (tAB (cn X g) E ms)) (he : starEach [e] X.env = (false, eval e X.env) :: starEach [] X.env) :
    PE X (.Call (.Name "list" p) [e] [] pos) (tF (cn X g) E fun ρ => bnd (ms ρ) fun ds => opt (un dLst ds)) := by
  refine PE.imp (pe_callTy (T := "list") (r := fun xs H Q => (∃ p ys, xs = [.ref p] ∧ (SqL X.K H p ys ∨ SqT X.K H p ys) ∧ ∀ l, H l = none → Q (.ref l) (upd H l (.lst ys))) ∨ ∃ (W : Wd) (S : Sto) (l : List (D × D)) (v : V), xs = [v] ∧ StoOk W S H ∧ RepB (cn X g) W H v (.dct l) ∧ ∀ p vs, H p = none → vs.length ≤ sizeLine → Reps (cn X g) W vs (l.map (·.1)) → Q (.ref p) (upd H p (.lst vs)))
    (fun pins s σ H vs us Q I r h => h.elim (fun h => call_list_of pins s σ H vs us Q I r h) fun h => call_listQ (g := g) hc pins s σ H vs us Q I r h) hg hm (by decide +kernel) ha (by decide) (by decide) he rfl) fun σ H Q q => ?_
  obtain ⟨H0, ρ, S, W, fr, st, pp⟩ := q
  refine ⟨H0, ρ, S, W, fr, st, (Pst.fst pp).imp fun ds S1 W1 H1 e1 s1 p1 vs rs => ?_⟩
  obtain ⟨d, hd, p2⟩ := p1.opt
  obtain ⟨a, e0, hf2⟩ := un_inv hd
  subst e0
  obtain ⟨v, rfl, ra⟩ := rs.inv1
  by_cases hb : ∃ l, a = .dct l
  · obtain ⟨l, rfl⟩ := hb
    cases hf2
    refine .inr ⟨W1, S1, l, v, rfl, s1, ra, fun q vs hq hz rs => ?_⟩
    obtain ⟨f1, f2, f3⟩ := fresh_lst e1 s1 hq hz rs
    exact p2 _ W1 f1 f2 _ f3
  · cases a <;> first | (cases hf2; done) | exact absurd ⟨_, rfl⟩ hb | skip
    all_goals cases hf2
    · obtain ⟨q0, vs, rfl, hq, hz, r1⟩ := ra.tup s1.sh
      refine .inl ⟨q0, vs, rfl, .inr hq, fun q hq => ?_⟩
      obtain ⟨f1, f2, f3⟩ := fresh_lst e1 s1 hq hz r1
      exact p2 _ W1 f1 f2 _ f3
    · obtain ⟨q0, vs, rfl, hq, hz, r1⟩ := ra.lst s1.sh
      refine .inl ⟨q0, vs, rfl, .inl (SqL.of hq), fun q hq => ?_⟩
      obtain ⟨f1, f2, f3⟩ := fresh_lst e1 s1 hq hz r1
      exact p2 _ W1 f1 f2 _ f3
theorem f_cat (ha : PE X a (tB (cn X g) E ma)) (hb : PE X b (tB (cn X g) E mb)) : PE X (.BinOp a .Add b pos) (tF (cn X g) E fun ρ => bnd (ma ρ) fun x => bnd (mb ρ) fun y => opt (dCat x y)) := by
  refine PE.imp (pe_op op_cat ha hb) fun σ H Q q => ?_
  obtain ⟨H0, ρ, S, W, fr, st, pp⟩ := q
  refine ⟨H0, ρ, S, W, fr, st, (Pst.fst pp).imp fun x S1 W1 H1 e1 s1 p1 v r => ?_⟩
  refine ⟨H0, ρ, S1, W1, fr.ext e1, s1, (Pst.fst p1).imp fun y S2 W2 H2 e2 s2 p2 u q => ?_⟩
  obtain ⟨d, hd, p3⟩ := p2.opt
  have rx := r.ext e2
  cases x <;> cases y <;> first | (cases hd; done) | skip
  simp only [dCat] at hd
  split at hd
  · rename_i hz
    cases hd
    obtain ⟨a1, vs, rfl, hq, _, r1⟩ := rx.lst s2.sh
    obtain ⟨a2, us, rfl, hq2, _, r2⟩ := q.lst s2.sh
    rw [← r1.length, ← r2.length] at hz
    refine ⟨a1, a2, vs, us, rfl, rfl, hq, hq2, hz, fun q hq => ?_⟩
    obtain ⟨f1, f2, f3⟩ := fresh_lst (e1.trans e2) s2 hq (by rw [List.length_append]; exact hz) (r1.append r2)
    exact p3 _ W2 f1 f2 _ f3
  · cases hd
/-! ### dicts -/
theorem fresh_dct {W : Wd} {S : Sto} {H : Hp} {W1 : Wd} {q : Addr} {ob : Obj} {xs : List (NestedKey × V × V)} {l : List (D × D)} (s1 : StoOk W1 S H) (hq : H q = none) (hz : xs.length ≤ sizeLine) (hsys : (q == sysModules) = false) (hk : keysOk (l.map (·.1))) (rows : Paired (RowR (cn X g) W1) l xs) :
    Ext W1 H W1 (upd H q (dicO X.w q ob xs)) ∧ StoOk W1 S (upd H q (dicO X.w q ob xs)) ∧ RepF (cn X g) W H W1 (upd H q (dicO X.w q ob xs)) (.ref q) (.dct l) := by
  have hl : W1.L ≠ some q := fun z => by rw [(s1.tw q z).1] at hq; cases hq
  obtain ⟨r1, r2, r3⟩ := rows_to rows
  exact ⟨Ext.own hq, s1.own (s1.sh.free hq) hl, q, rfl, ⟨ob, xs, upd_same, hz, hsys, hk, r1, r2, r3⟩, s1.sh.free hq, hl, hq⟩
theorem keysOk_nil : keysOk [] := ⟨(fun _ m => nomatch m), .inl fun _ m => (nomatch m), List.nodup_nil⟩
theorem new_sys {pins : List (Addr × Obj)} {s : Shared} {σ : L2.St} {H : Hp} (I : Inv X pins σ H s) : (s.heap.objs.size == sysModules) = false := beq_eq_false_iff_ne.mpr (Ne.symm (Nat.ne_of_lt I.big))
theorem f_dnew : PE X (.Dict [] [] pos) (tF (cn X g) E fun _ => ret (.dct [])) := ⟨fun pins s σ H Q I q => by
  obtain ⟨H0, ρ, S, W, fr, st, pp⟩ := q
  have hn := I.hok.fresh (Nat.le_refl s.heap.objs.size)
  obtain ⟨f1, f2, f3⟩ := fresh_dct (g := g) (W := W) (ob := { cls := .type "dict", data := .dict #[] }) st hn (Nat.zero_le _) (new_sys I) (l := []) keysOk_nil .nil
  exact wpAny_Dict_empty ⟨.ref s.heap.objs.size, _, I.laid (a := s.heap.objs.size) (t' := s.toks) (fun _ _ q => Heap.get?_push_of_some _ q) (Nat.le_refl _) (dicO_new (Heap.get?_push_size _ rfl) ⟨rfl, rfl, rfl⟩ rfl .nil), rfl, pp _ W f1 f2 _ f3⟩⟩
theorem q_dget2 (hu : X.A.units + 64 < cLine) (hd : PE X e (tB (cn X g) E me)) (hk : PE X k (tE (cn X g) E mk)) (hv : PE X v (tE (cn X g) E mv)) (m2 : M2 X e "get" apos k v cpos) :
    PE X (.Call (.Attribute e "get" apos) [k, v] [] cpos) (tE (cn X g) E fun ρ => bnd (me ρ) fun a => match a with | .dct l => bnd (mk ρ) fun b => bnd (mv ρ) fun c => if keyOkB l b = true then ret ((lookD l b).getD c) else fail | _ => fail) := by
  refine ⟨fun pins s σ H Q I q => ?_⟩
  obtain ⟨H0, ρ, S, W, fr, st, pp⟩ := q
  refine wpAny_Call_method m2.base m2.few m2.line PySem.F.plainAttrs_dict PySem.F.slot_dict_get PySem.F.type_dict_get (thn (hd.run pins s σ H (fun x H1 => ∃ (d : D) (S1 : Sto) (W1 : Wd), Ext W H W1 H1 ∧ StoOk W1 S1 H1 ∧ RepB (cn X g) W1 H1 x d ∧ Pst (cn X g) E W1 H1 ((match d with | .dct l => bnd (mk ρ) fun b => bnd (mv ρ) fun c => if keyOkB l b = true then ret ((lookD l b).getD c) else fail | _ => fail) S1) fun d _ W' H' => ∀ v, Rep (cn X g) W' v d → Q v H') I
    ⟨H0, ρ, S, W, fr, st, (Pst.fst pp).imp fun d S1 W1 H1 e1 s1 p1 v r => ⟨d, S1, W1, e1, s1, r, p1⟩⟩) fun u s1 ⟨x, H1, I1, rx, d, S1, W1, e1, st1, rb, p1⟩ => ?_)
  match d, rb, p1 with
  | .dct l, rb, p1 =>
    obtain ⟨a, es, ep, rfl, hsys, _, _, ⟨o, ho, hx, hdt⟩, _⟩ := dic_keys I1 st1.sh rb
    cases (show u = Value.ref a from rx)
    have hT : s1.TypeIs (.ref a) "dict" := ⟨o, ho, hx.1⟩
    refine ⟨hT, fun b eb => ⟨o, by cases eb; exact ho, hx.2.1⟩, ?_⟩
    rw [m2.trees]
    refine Calls.callWith_builtin rfl (Calls.evalArgs_plain (Calls.spliced_cons (thn (PE.go hk I1 (fr.ext e1) st1 (Pst.fst p1)) fun u2 s2 ⟨y, dk, S2, W2, H2, I2, ry, e2, st2, rk, p2⟩ => Calls.spliced_cons (thn (PE.go hv I2 ((fr.ext e1).ext e2) st2 (Pst.fst p2)) fun u3 s3 ⟨z, dz, S3, W3, H3, I3, rz, e3, st3, rz', p3⟩ => Calls.spliced_nil ?_))))
    by_cases ok : keyOkB l dk = true
    · rw [if_pos ok] at p3
      exact dic_get2 hu I3 st3 ((rb.ext e2).ext e3) (.inl (rk.mono e3.le)) rz' rfl ry rz ok fun v r => p3 H3 W3 (Ext.refl _ _) st3 v r
    · rw [if_neg ok] at p3
      exact p3.elim
  | .non, _, p1 => exact p1.elim
  | .bl _, _, p1 => exact p1.elim
  | .int _, _, p1 => exact p1.elim
  | .str _, _, p1 => exact p1.elim
  | .tup _, _, p1 => exact p1.elim
  | .lst _, _, p1 => exact p1.elim
  | .fn _, _, p1 => exact p1.elim
  | .town, _, p1 => exact p1.elim
  | .scr _, _, p1 => exact p1.elim
  | .exn _, _, p1 => exact p1.elim
/-- {k: v} -/
theorem f_dic1 (hu : X.A.units + 64 < cLine) (hk : PE X k (tE (cn X g) E mk)) (hv : PE X v (tE (cn X g) E mv)) : PE X (.Dict [some k] [v] pos) (tF (cn X g) E fun ρ => bnd (mk ρ) fun x => bnd (mv ρ) fun y => if (x.topB && !x.strB) = true then ret (.dct [(x, y)]) else fail) := by
  refine ⟨fun pins s σ H Q I q => ?_⟩
  obtain ⟨H0, ρ, S, W, fr, st, pp⟩ := q
  have hn := I.hok.fresh (Nat.le_refl s.heap.objs.size)
  have hl : W.L ≠ some s.heap.objs.size := fun z => by rw [(st.tw _ z).1] at hn; cases hn
  have I1 := I.laid (a := s.heap.objs.size) (o := dicO X.w s.heap.objs.size { cls := .type "dict", data := .dict #[] } []) (h' := s.heap.push { cls := .type "dict", data := .dict #[] }) (t' := s.toks) (fun _ _ q => Heap.get?_push_of_some _ q) (Nat.le_refl _) (dicO_new (Heap.get?_push_size _ rfl) ⟨rfl, rfl, rfl⟩ rfl .nil)
  have e0 : Ext W H W (upd H s.heap.objs.size (dicO X.w s.heap.objs.size { cls := .type "dict", data := .dict #[] } [])) := Ext.own hn
  have st0 := st.own (o := dicO X.w s.heap.objs.size { cls := .type "dict", data := .dict #[] } []) (st.sh.free hn) hl
  have hz := zip_pairTrees [some k] [v] X.env pos rfl rfl
  have hlen := pairTrees_length [some k] [v] X.env pos rfl rfl
  rw [arm_eval_Dict, hz, dictDisplay_pairs (pairTrees [some k] [v] X.env pos) (fun z => by rw [z] at hlen; cases hlen) (by rw [hlen]; show 1 < 17; decide)]
  refine wpAny_bind (wpAny_standAt (wpAny_bind (wpAny_subDictH (knd := nestedKind X.prog X.w) (by show X.A.units + 8 < cLine; omega) (by rw [hlen]; show 1 ≤ 15; decide) ?_)))
  refine pairTrees_cons_walk (thn (PE.go hk I1 (fr.ext e0) st0 (Pst.fst0 pp e0)) fun u1 s1 ⟨y, dk, S1, W1, H1, J1, ry, e1, st1, rk, p1⟩ => thn (PE.go hv J1 ((fr.ext e0).ext e1) st1 (Pst.fst0 p1 (e0.trans e1))) fun u2 s2 ⟨z, dv, S2, W2, H2, J2, rz, e2, st2, rv, p2⟩ => pairTrees_nil_walk ?_)
  have rk2 := rk.mono e2.le
  by_cases ok : (dk.topB && !dk.strB) = true
  case neg => rw [if_neg ok] at p2; exact p2.elim
  rw [if_pos ok] at p2
  obtain ⟨o1, o2⟩ := Bool.and_eq_true_iff.mp ok
  have o2 : dk.strB = false := by simpa using o2
  obtain ⟨b, hb⟩ := rep_tup rk2 o1 o2
  subst hb
  cases (show u1 = Value.ref b from ry)
  have hH2 : H2 s.heap.objs.size = some (dicO X.w s.heap.objs.size { cls := .type "dict", data := .dict #[] } []) := e2.kp _ _ (e1.kp _ _ upd_same hl) fun z => by
    rcases e1.le.lo with w | w
    · have := e1.nl _ z w
      rw [show (upd H s.heap.objs.size (dicO X.w s.heap.objs.size { cls := .type "dict", data := .dict #[] } [])) s.heap.objs.size = _ from upd_same] at this
      cases this
    · exact hl (w.symm.trans z)
  obtain ⟨es, ep, ho, hx, hdt, _⟩ := dic_raw J2 hH2
  refine ⟨[(dk.nk, b, u2)], ⟨rfl, rfl, key_is J2 st2.sh o1 rk2, trivial⟩, ⟨_, es, ep, ho, hx, hdt, ?_, (fun _ m => nomatch m), List.nodup_nil⟩, fun h' tk dd hsb => wpAny_pure ?_⟩
  · cases hdt; rfl
  · obtain ⟨o', es', ep', q1, q2, q3, q4, _, _⟩ := dd
    obtain ⟨xs, r1, r2⟩ := tup_back (X := X) (g := g) (W := W2) (l := [(dk, dv)]) (ys := [(dk.nk, b, u2)]) (.cons ⟨rfl, rk2, z, rv, rz⟩ .nil)
    have q4' : es'.toList = [(dk.nk, b, u2)].map (entryOfKey (nestedKind X.prog X.w)) := q4
    rw [← q4'] at r2
    have J3 := d_write (t' := tk) J2 (by rw [hH2]; exact True.intro) hsb ⟨o', q1⟩ (dicO_new (o := o') q1 q2 q3 r2)
    have hW2 : W2.Hs s.heap.objs.size = none := by
      cases w : W2.Hs s.heap.objs.size with
      | none => rfl
      | some u =>
        have hw : W.Hs s.heap.objs.size = none := st.sh.free hn
        have := (e1.trans e2).nw _ hw (by rw [w]; simp)
        rw [show (upd H s.heap.objs.size (dicO X.w s.heap.objs.size { cls := .type "dict", data := .dict #[] } [])) s.heap.objs.size = _ from upd_same] at this
        cases this
    have hL2 : W2.L ≠ some s.heap.objs.size := fun z => by
      rcases (e1.trans e2).le.lo with w | w
      · have := (e1.trans e2).nl _ z w
        rw [show (upd H s.heap.objs.size (dicO X.w s.heap.objs.size { cls := .type "dict", data := .dict #[] } [])) s.heap.objs.size = _ from upd_same] at this
        cases this
      · exact hl (w.symm.trans z)
    obtain ⟨t1, t2, t3⟩ := rows_to r1
    have key1 : keysOk [dk] := ⟨fun d m => by cases List.mem_singleton.mp m; exact o1, .inr fun d m => by cases List.mem_singleton.mp m; exact o2, by simp⟩
    have hlx : xs.length = 1 := paired_len r1
    refine ⟨.ref s.heap.objs.size, _, J3, rfl, ?_⟩
    exact p2 _ W2 (((e0.trans e1).trans e2).put hn) (st2.own hW2 hL2) _ ⟨_, rfl, ⟨o', xs, upd_same, by rw [hlx, sizeLine_eq]; decide, new_sys I, key1, t1, t2, t3⟩, hW2, hL2, hn⟩
end
end G
/-! GX3: dict(rows). -/
namespace G
open PySem L2
inductive PutP : List (D × D) → List (D × D) → List (D × D) → Prop
  | nil {l : List (D × D)} : PutP l [] l
  | cons {l r prs : List (D × D)} {p : D × D} : keyOkB l p.1 = true → PutP (putD l p.1 p.2) prs r → PutP l (p :: prs) r
theorem putAll_inv : ∀ {ds : List D} {l r : List (D × D)}, putAll l ds = some r → ∃ prs : List (D × D), ds = prs.map (fun p => D.tup [p.1, p.2]) ∧ PutP l prs r
  | [], l, r, h => by
    cases h
    exact ⟨[], rfl, .nil⟩
  | d :: ds, l, r, h => by
    obtain ⟨p, hp, h2⟩ := Option.bind_eq_some_iff.mp (show ((pairOf d).bind fun p => if keyOkB l p.1 = true then putAll (putD l p.1 p.2) ds else none) = some r from h)
    by_cases ok : keyOkB l p.1 = true
    · rw [if_pos ok] at h2
      obtain ⟨prs, e, hr⟩ := putAll_inv h2
      refine ⟨p :: prs, ?_, .cons ok hr⟩
      rw [List.map_cons, ← e]
      congr 1
      match d, hp with
      | .tup [k, v], hp => cases hp; rfl
    · rw [if_neg ok] at h2; cases h2
theorem put_mem {l : List (D × D)} {k v : D} {d : D} (h : d ∈ (putD l k v).map (·.1)) : d ∈ l.map (·.1) ∨ d = k := by
  unfold putD at h
  split at h
  · rw [List.map_map] at h
    obtain ⟨p, mp, e⟩ := List.mem_map.mp h
    left
    refine List.mem_map.mpr ⟨p, mp, ?_⟩
    rw [← e]
    show p.1 = (if p.1.eqb k = true then (p.1, v) else p).1
    split <;> rfl
  · rw [List.map_append] at h
    rcases List.mem_append.mp h with h | h
    · exact .inl h
    · exact .inr (by simpa using h)
theorem put_ne {l : List (D × D)} {k v : D} : putD l k v ≠ [] := by
  unfold putD
  split
  · rename_i h
    intro z
    rw [List.map_eq_nil_iff] at z
    subst z
    cases h
  · simp
theorem PutP.kinds {b : Bool} : ∀ {prs l r : List (D × D)}, PutP l prs r → l ≠ [] → (∀ d ∈ l.map (·.1), d.strB = b) → ∀ p ∈ prs, p.1.strB = b
  | _, _, _, .nil, _, _, _, m => nomatch m
  | _, l, _, .cons ok t, hl, hb, q, m => by
    have e : ∀ p : D × D, keyOkB l p.1 = true → p.1.strB = b := fun p ok => by
      match l, hl, hb, ok with
      | a :: l, _, hb, ok => rw [← (keyOk_iff ok).2 a.1 List.mem_cons_self]; exact hb a.1 List.mem_cons_self
    rcases List.mem_cons.mp m with rfl | m
    · exact e _ ok
    · refine PutP.kinds t put_ne (fun d md => ?_) q m
      rcases put_mem md with md | rfl
      · exact hb d md
      · exact e _ ok
theorem PutP.kind {prs r : List (D × D)} (h : PutP [] prs r) : (∀ p ∈ prs, p.1.strB = true) ∨ ∀ p ∈ prs, p.1.strB = false := by
  cases h with
  | nil => exact .inl fun _ m => nomatch m
  | @cons _ _ prs p ok t =>
    have := PutP.kinds (b := p.1.strB) t put_ne fun d md => by
      rcases put_mem md with md | rfl
      · cases md
      · rfl
    cases hb : p.1.strB with
    | true =>
      refine .inl fun q m => ?_
      rcases List.mem_cons.mp m with rfl | m
      · exact hb
      · rw [this q m, hb]
    | false =>
      refine .inr fun q m => ?_
      rcases List.mem_cons.mp m with rfl | m
      · exact hb
      · rw [this q m, hb]
theorem PutP.keys : ∀ {prs l r : List (D × D)}, PutP l prs r → keysOk (l.map (·.1)) → keysOk (r.map (·.1))
  | _, _, _, .nil, h => h
  | _, _, _, .cons ok t, h => t.keys (put_keys h ok)
theorem PutP.len : ∀ {prs l r : List (D × D)}, PutP l prs r → r.length ≤ l.length + prs.length
  | _, _, _, .nil => Nat.le_refl _
  | _, l, _, .cons (p := p) ok t => by
    have := t.len
    have := put_len l p.1 p.2
    rw [List.length_cons]
    omega
/-- a row and the pair that stands for it -/
def PrR (C : Cn) (W : Wd) (h : Heap) (p : D × D) (q : Addr × Value × Value) : Prop := PairAt h q.1 q.2.1 q.2.2 ∧ (∃ kv, Rep C W kv p.1 ∧ RelV kv q.2.1) ∧ ∃ vv, Rep C W vv p.2 ∧ RelV vv q.2.2
section
variable {X : Cx} {g : Gi} {pins : List (Addr × Obj)} {σ : L2.St} {H : Hp} {s : Shared} {W : Wd}
theorem pr_rows (I : Inv X pins σ H s) (sh : Same W.Hs H) : ∀ {prs : List (D × D)} {vs : List V} {its : List Value}, Reps (cn X g) W vs (prs.map fun p => D.tup [p.1, p.2]) → Vals vs its → ∃ qs : List (Addr × Value × Value), its = qs.map (fun q => Value.ref q.1) ∧ Paired (PrR (cn X g) W s.heap) prs qs
  | [], _, _, .nil, .nil => ⟨[], rfl, .nil⟩
  | p :: prs, _, _, .cons h t, .cons r rs => by
    obtain ⟨qs, e, pq⟩ := pr_rows I sh t rs
    cases h with
    | @tup a _ _ h1 h2 h3 =>
      obtain ⟨kv, vv, rfl, r1, r2⟩ := h3.inv2
      obtain ⟨us, ru, hl, _⟩ := I.tuple (Same.sqT sh h1)
      obtain ⟨ku, vu, rfl, q1, q2⟩ := Vals.two ru
      cases (show _ = Value.ref a from r)
      refine ⟨(a, ku, vu) :: qs, by rw [e]; rfl, .cons ⟨.inl ?_, ⟨kv, r1, q1⟩, vv, r2, q2⟩ pq⟩
      obtain ⟨o, ho, hc, n, hd⟩ := hl
      exact ⟨o, ho, hc, n, by simpa using hd⟩
theorem str_all : ∀ {prs l r : List (D × D)} {qs : List (Addr × Value × Value)} {ys : List (Str × Value)}, PutP l prs r → Paired (PrR (cn X g) W s.heap) prs qs → (∀ p ∈ prs, p.1.strB = true) → Paired (StrR (cn X g) W) l ys →
    ∃ zs : List (Str × Value), zs.length = qs.length ∧ (∀ (i : Nat) (q : Addr × Value × Value), qs[i]? = some q → ∃ k, zs[i]? = some (k, q.2.2) ∧ (strKind X.prog X.w).is k q.2.1 = true) ∧ Paired (StrR (cn X g) W) r (merged ys zs)
  | _, _, _, _, ys, .nil, .nil, _, h => ⟨[], rfl, (fun i q e => by simp at e), h⟩
  | p :: prs, l, r, q :: qs, ys, .cons ok t, .cons ⟨_, ⟨kv, r1, q1⟩, vv, r2, q2⟩ pq, hs, h => by
    obtain ⟨x, hx⟩ := top_str (hs p List.mem_cons_self)
    rw [hx] at r1
    cases r1 with
    | str _ l1 l2 =>
      obtain ⟨tk, hk⟩ := q1
      have h' := put_str (x := x) h ⟨l1, l2⟩ r2 q2
      rw [← hx] at h'
      obtain ⟨zs, z1, z2, z3⟩ := str_all t pq (fun p m => hs p (List.mem_cons_of_mem _ m)) h'
      refine ⟨(x, q.2.2) :: zs, by simp [z1], fun i q' e => ?_, z3⟩
      cases i with
      | zero =>
        simp at e
        subst e
        refine ⟨x, rfl, ?_⟩
        rw [hk]
        show Value.isStrOf x (.str x tk) = true
        simp [Value.isStrOf]
      | succ i => exact z2 i q' (by simpa using e)
theorem tup_all (I : Inv X pins σ H s) (sh : Same W.Hs H) : ∀ {prs l r : List (D × D)} {qs : List (Addr × Value × Value)} {ys : List (NestedKey × Addr × Value)}, PutP l prs r → Paired (PrR (cn X g) W s.heap) prs qs → (∀ p ∈ prs, p.1.strB = false) → keysOk (l.map (·.1)) → Paired (TupR (cn X g) W) l ys →
    ∃ zs : List (NestedKey × Addr × Value), zs.length = qs.length ∧ (∀ (i : Nat) (q : Addr × Value × Value), qs[i]? = some q → ∃ k b, zs[i]? = some (k, b, q.2.2) ∧ q.2.1 = .ref b) ∧ (∀ z ∈ zs, (nestedKind X.prog X.w).is s.heap z.1 z.2.1) ∧ Paired (TupR (cn X g) W) r (storedAllH ys zs)
  | _, _, _, _, ys, .nil, .nil, _, _, h => ⟨[], rfl, (fun i q e => by simp at e), (fun _ m => nomatch m), h⟩
  | p :: prs, l, r, q :: qs, ys, .cons ok t, .cons ⟨_, ⟨kv, r1, q1⟩, vv, r2, q2⟩ pq, hs, hk, h => by
    have ht := (keyOk_iff ok).1
    obtain ⟨b, hb⟩ := rep_tup r1 ht (hs p List.mem_cons_self)
    subst hb
    have q1 : q.2.1 = Value.ref b := q1
    have h' := put_tup h hk.1 ht r1 r2 q2
    obtain ⟨zs, z1, z2, z3, z4⟩ := tup_all I sh t pq (fun p m => hs p (List.mem_cons_of_mem _ m)) (put_keys hk ok) h'
    refine ⟨(p.1.nk, b, q.2.2) :: zs, by simp [z1], fun i q' e => ?_, fun z m => ?_, z4⟩
    · cases i with
      | zero =>
        simp at e
        subst e
        exact ⟨_, b, rfl, q1⟩
      | succ i => exact z2 i q' (by simpa using e)
    · rcases List.mem_cons.mp m with rfl | m
      · exact key_is I sh ht r1
      · exact z3 z m
theorem pair_items {prs : List (D × D)} {qs : List (Addr × Value × Value)} {its : Array Value} (h : Paired (PrR (cn X g) W s.heap) prs qs) (e : its.toList = qs.map fun q => Value.ref q.1) : PairItems s.heap its (fun j => ((qs[j]?).map (·.1)).getD 0) (qs.map fun q => (q.2.1, q.2.2)) := by
  have hs : its.size = qs.length := by rw [← Array.length_toList, e, List.length_map]
  refine ⟨by rw [List.length_map, hs], fun j k v hj => ?_⟩
  rw [List.getElem?_map] at hj
  obtain ⟨q, hq, e2⟩ := Option.map_eq_some_iff.mp hj
  cases e2
  have eT : ((qs[j]?).map (·.1)).getD 0 = q.1 := by rw [hq]; rfl
  show its[j]? = some (.ref (((qs[j]?).map (·.1)).getD 0)) ∧ PairAt s.heap (((qs[j]?).map (·.1)).getD 0) _ _
  rw [eT]
  refine ⟨?_, ?_⟩
  · rw [← Array.getElem?_toList, e, List.getElem?_map, hq]; rfl
  · have go : ∀ {prs : List (D × D)} {qs : List (Addr × Value × Value)} {j : Nat}, Paired (PrR (cn X g) W s.heap) prs qs → qs[j]? = some q → PairAt s.heap q.1 q.2.1 q.2.2 := by
      intro prs qs j h
      induction h generalizing j with
      | nil => exact fun e => by simp at e
      | cons r _ ih =>
        intro e
        cases j with
        | zero => simp at e; subst e; exact r.1
        | succ j => exact ih (by simpa using e)
    exact go h hq
theorem cg_dic (hc : X.calm = true) (hu : X.A.units + 64 < cLine) : CallR X (.type "dict") (rGc (cn X g) (un dDic)) := by
  intro pins s σ H vs us Q I r ⟨W, S, ds, d, st, rs, hf, k⟩
  obtain ⟨a, e0, hf2⟩ := un_inv hf
  subst e0
  clear hf
  obtain ⟨v, rfl, ra⟩ := rs.inv1
  obtain ⟨l, rfl, hf3⟩ : ∃ l, a = .lst l ∧ (if l.length ≤ 1000000 then (putAll [] l).map D.dct else none) = some d := by
    cases a <;> first | (cases hf2; done) | exact ⟨_, rfl, hf2⟩
  by_cases hz : l.length ≤ 1000000
  case neg => rw [if_neg hz] at hf3; cases hf3
  rw [if_pos hz] at hf3
  obtain ⟨rr, hp, rfl⟩ := Option.map_eq_some_iff.mp hf3
  obtain ⟨prs, rfl, pp⟩ := putAll_inv hp
  obtain ⟨p, vs, rfl, hq, _, r1⟩ := ra.lst st.sh
  rw [Vals.ref1 r]
  rw [List.length_map] at hz
  have big : ∀ n : Nat, n ≤ 1000000 → n ≤ sizeLine := fun n h => by rw [sizeLine_eq]; omega
  obtain ⟨its0, rv0, ⟨o, n, ho, hcl, hdn, hdt⟩, _⟩ := I.list (SqL.of (K := X.K) hq)
  obtain ⟨its, hdt, rv⟩ : ∃ its : Array Value, o.data = .seq its n ∧ Vals vs its.toList := ⟨its0.toArray, hdt, by simpa using rv0⟩
  obtain ⟨qs, eq, pq⟩ := pr_rows I st.sh r1 rv
  have hql : qs.length = prs.length := paired_len pq
  have items := pair_items pq eq
  have hn : H s.heap.objs.size = none := I.hok.fresh (Nat.le_refl _)
  have fin : ∀ (h' : Heap) (tk : Nat) (xs : List (NestedKey × V × V)) (ob : Obj) (es : Array DictEntry) (ep : Nat), (∀ b o, s.heap.get? b = some o → h'.get? b = some o) → h'.get? s.heap.objs.size = some ob → ob.ExactDict → ob.data = .dict es ep → Paired (RowR (cn X g) W) rr xs → Paired (EntR X.w) xs es.toList → EP X pins σ Q (.ref s.heap.objs.size) { s with heap := h', toks := tk } := by
    intro h' tk xs ob es ep kp q1 q2 q3 q4 q5
    obtain ⟨t1, t2, t3⟩ := rows_to q4
    have hlen := pp.len
    have hxl : xs.length = rr.length := paired_len q4
    refine ⟨.ref _, upd H s.heap.objs.size (dicO X.w s.heap.objs.size ob xs), I.laid (t' := tk) kp (Nat.le_refl _) (dicO_new q1 q2 q3 q5), rfl, k _ _ _ (Ext.laid st.sh hn) (st.laid hn) ?_⟩
    have le := (Ext.laid (o := dicO X.w s.heap.objs.size ob xs) st.sh hn).le
    exact .dct upd_same (by rw [hxl]; exact big _ (by simp at hlen; omega)) (new_sys I) (pp.keys keysOk_nil) t1 (t2.mono le) (t3.mono le)
  have PA := PairArg.list (prog := X.prog) (w := X.w) p its (fun j => ((qs[j]?).map (·.1)).getD 0) (qs.map fun q => (q.2.1, q.2.2))
  have ok : PlainSeq "list" s.heap p its ∧ PairItems s.heap its (fun j => ((qs[j]?).map (·.1)).getD 0) (qs.map fun q => (q.2.1, q.2.2)) := ⟨⟨o, n, ho, hcl, hdn, hdt⟩, items⟩
  rcases pp.kind with hs | hs
  · obtain ⟨zs, z1, z2, z3⟩ := str_all (X := X) (g := g) (s := s) (ys := []) pp pq hs .nil
    refine call_dict_pairs (knd := strKind X.prog X.w) (kvs := zs) PA (I.ok.hd hc) ok ⟨by rw [List.length_map]; exact z1, fun i key v hr => ?_⟩ (by rw [List.length_map, hql]; exact big _ hz) fun h' tk dd kp => ?_
    · have hr : (qs.map fun q => (q.2.1, q.2.2))[i]? = some (key, v) := hr
      rw [List.getElem?_map] at hr
      obtain ⟨q, hq, e2⟩ := Option.map_eq_some_iff.mp hr
      cases e2
      exact z2 i q hq
    · obtain ⟨ob, es, ep, q1, q2, q3, q4, q5, _⟩ := dd
      obtain ⟨xs, w1, w2⟩ := str_back z3 (fun e m => q4 e (Array.mem_toList_iff.mp m)) q5
      exact fin h' tk xs ob es ep (fun b o e => kp b o (by simp) e) q1 q2 q3 w1 w2
  · obtain ⟨zs, z1, z2, z3, z4⟩ := tup_all I st.sh (ys := []) pp pq hs keysOk_nil .nil
    refine call_dict_pairsH (knd := nestedKind X.prog X.w) (ps := zs) PA (I.ok.hd hc) (by show X.A.units + 1 + 1 + 8 < cLine; omega) ok ⟨by rw [List.length_map]; exact z1, fun i key v hr => ?_⟩ (fun h' kp z m => ?_) (by rw [List.length_map, hql]; exact big _ hz) fun h' tk dd kp => ?_
    · have hr : (qs.map fun q => (q.2.1, q.2.2))[i]? = some (key, v) := hr
      rw [List.getElem?_map] at hr
      obtain ⟨q, hq, e2⟩ := Option.map_eq_some_iff.mp hr
      cases e2
      exact z2 i q hq
    · refine nestedKind_stays.stays (fun b o vs n hb _ => kp b o (Nat.ne_of_lt (Heap.lt_size hb)) (by simp) hb) (z3 z m)
    · obtain ⟨ob, es, ep, q1, q2, q3, q4, _, _⟩ := dd
      obtain ⟨xs, w1, w2⟩ := tup_back (X := X) z4
      rw [← q4] at w2
      exact fin h' tk xs ob es ep (fun b o e => kp b o (by simp) e) q1 q2 q3 w1 w2
end
end G
/-! GX4: two names at once; three lists side by side. -/
namespace G
open PySem L2
def parB (sc : Scope) : Expr → Expr → Bool
  | .Tuple [.Name x px, .Name y py] _ _, .Tuple [a, b] _ _ => (match sc.names.lookup x with | some .local => true | _ => false) && (match sc.names.lookup y with | some .local => true | _ => false) && (py.line == px.line) && !(y == x) &&
      !([a, b].any fun | .Starred .. => true | _ => false) && !([a, b].all (foldedForSure 8)) && !([a, b].all (constantsAlone 8))
  | _, _ => false
section
variable {X : Cx} {g : Gi} {E : XK} {pos px py pt pt2 : Pos} {a b : Expr} {m ma mb : Fr → M D} {ms : Fr → M (List D)} {i j kt k2 : Nat} {x y : Str}
theorem par_inv {sc : Scope} {t v : Expr} (h : parB sc t v = true) : ∃ x px y py kt pt a b k2 pt2, t = .Tuple [.Name x px, .Name y py] kt pt ∧ v = .Tuple [a, b] k2 pt2 ∧ sc.names.lookup x = some .local ∧ sc.names.lookup y = some .local ∧ (py.line == px.line) = true ∧ (y == x) = false ∧
    ([a, b].any fun | .Starred .. => true | _ => false) = false ∧ ([a, b].all (foldedForSure 8)) = false ∧ ([a, b].all (constantsAlone 8)) = false := by
  unfold parB at h
  split at h
  · simp only [Bool.and_eq_true, Bool.not_eq_true'] at h
    obtain ⟨⟨⟨⟨⟨⟨h1, h2⟩, h3⟩, h4⟩, h5⟩, h6⟩, h7⟩ := h
    refine ⟨_, _, _, _, _, _, _, _, _, _, rfl, rfl, ?_, ?_, h3, h4, h5, h6, h7⟩
    · split at h1
      · assumption
      · cases h1
    · split at h2
      · assumption
      · cases h2
  · cases h
theorem swap_two (hk : X.env.scope.kind = .function) (hx : X.env.scope.names.lookup x = some .local) (hy : X.env.scope.names.lookup y = some .local) (hl : (py.line == px.line) = true) (hne : (y == x) = false) (h5 : ([a, b].any fun | .Starred .. => true | _ => false) = false) (h6 : ([a, b].all (foldedForSure 8)) = false) (h7 : ([a, b].all (constantsAlone 8)) = false) :
    swappedStores [.Tuple [.Name x px, .Name y py] kt pt] (.Tuple [a, b] k2 pt2) X.env = pure (some [x, y]) := by
  have hb : X.env.blockKind = .function := by unfold Env.blockKind; rw [hk]; rfl
  have e1 : (X.env.kindOf x == some NameKind.local) = true := by unfold Env.kindOf; rw [hx]; rfl
  have e2 : (X.env.kindOf y == some NameKind.local) = true := by unfold Env.kindOf; rw [hy]; rfl
  have e3 : [x, y].eraseDups = [x, y] := by
    rw [List.eraseDups_cons, List.filter_cons]
    simp [hne, List.eraseDups_cons]
  unfold swappedStores
  simp only [hb, List.length_cons, List.length_nil, List.filterMap_cons, List.filterMap_nil, List.head?_cons, Option.map_some, Option.getD_some, Expr.pos, e1, e2, hl, beq_self_eq_true, Bool.and_true, if_true, e3, h6, h7]
  refine (if_neg (by decide)).trans ((if_neg fun z => ?_).trans ((if_neg (by decide)).trans ((if_neg (by decide)).trans (if_neg (by decide)))))
  have z' : ([a, b].any fun | .Starred .. => true | _ => false) = true := z
  rw [h5] at z'
  cases z'
theorem Reps.rg {C : Cn} {W : Wd} (m : Int) : ∀ l : List Nat, Reps C W (l.map fun i => V.int (m + (i : Nat))) (l.map fun (i : Nat) => D.int (m + (i : Int)))
  | [] => .nil
  | i :: l => .cons (.int _) (Reps.rg m l)
theorem q_lrng {p q : Pos} (hc : X.calm = true) (hg : Gl X "list") (hm : X.mg "list" = none) (hg2 : Gl X "range") (hm2 : X.mg "range" = none) (ha : PE X a (tE (cn X g) E ma)) (hb : PE X b (tE (cn X g) E mb)) (na : starEach [a, b] X.env = (false, eval a X.env) :: starEach [b] X.env) (nb : starEach [b] X.env = (false, eval b X.env) :: starEach [] X.env) (hp : (backTo q (starEach [b] X.env)).any (·.1) = false) :
    PE X (.Call (.Name "list" p) [.Call (.Name "range" px) [a, b] [] q] [] pos) (tE (cn X g) E fun ρ => bnd (ma ρ) fun x => bnd (mb ρ) fun y => match x, y with | .int m, .int n => bnd (opt (rngD m n)) fun l => ret (.lst l) | _, _ => fail) := PE.imp (pe_listRg hc hg hm (prg_2 hg2 hm2 ha hb na nb hp) rfl) fun σ H Q z => by
  obtain ⟨H0, ρ, S, W, fr, st, pp⟩ := z
  refine ⟨H0, ρ, S, W, fr, st, (Pst.fst pp).imp fun x S1 W1 H1 e1 s1 p1 v r => ?_⟩
  refine ⟨H0, ρ, S1, W1, fr.ext e1, s1, (Pst.fst p1).imp fun y S2 W2 H2 e2 s2 p2 v2 r2 => ?_⟩
  cases x <;> first | exact p2.elim | skip
  cases y <;> first | exact p2.elim | skip
  cases r
  cases r2
  rename_i m n
  obtain ⟨l, hl, p3⟩ := (Pst.fst p2).opt
  have p3 := p3.okk s2
  unfold rngD at hl
  split at hl
  · rename_i hb
    cases hl
    refine ⟨m, n, rfl, rfl, ⟨hb.1, hb.2.1, hb.2.2.1, hb.2.2.2.1, by omega⟩, fun q hq => p3 _ _ (Ext.laid s2.sh hq) (s2.laid hq) _ (Rep.newL hq s2.sh ?_ (Reps.rg m _))⟩
    rw [rgV_length, sizeLine_eq]; omega
  · cases hl
theorem s_par (hc : X.calm = true) (hN : X.N.Nodup) (hi : X.N[i]? = some x) (hj : X.N[j]? = some y) (hij : i ≠ j) (hx : X.env.scope.names.lookup x = some .local) (hy : X.env.scope.names.lookup y = some .local)
    (hw : swappedStores [.Tuple [.Name x px, .Name y py] kt pt] (.Tuple [a, b] k2 pt2) X.env = pure (some [x, y])) (hv : PA X [a, b] (tA (cn X g) E fun ρ => bnd (ma ρ) fun u => bnd (bnd (mb ρ) fun w => bnd (ret []) fun r => ret (w :: r)) fun r => ret (u :: r))) :
    PS X (.Assign [.Tuple [.Name x px, .Name y py] kt pt] (.Tuple [a, b] k2 pt2) pos) (tS (cn X g) E fun ρ => bnd (ma ρ) fun u => bnd (mb ρ) fun w => bnd (opt (setF ρ i (some (.sh u)))) fun ρ1 => bnd (opt (setF ρ1 j (some (.sh w)))) fun ρ2 => ret (.nx ρ2)) := PS.imp (ps_par hc hN hi hj hij hx hy hv hw) fun D σ H q => by
  obtain ⟨W0, H0, ρ, S, W, r, k⟩ := q
  have k' : StS (cn X g) E W0 H0 W D (bnd (bnd (ma ρ) fun u => bnd (bnd (mb ρ) fun w => bnd (ret []) fun r => ret (w :: r)) fun r => ret (u :: r)) (fun l => match l with | [u, w] => bnd (opt (setF ρ i (some (.sh u)))) fun ρ1 => bnd (opt (setF ρ1 j (some (.sh w)))) fun ρ2 => ret (.nx ρ2) | _ => fail) S) := by
    have e : (bnd (bnd (ma ρ) fun u => bnd (bnd (mb ρ) fun w => bnd (ret []) fun r => ret (w :: r)) fun r => ret (u :: r)) (fun l => match l with | [u, w] => bnd (opt (setF ρ i (some (.sh u)))) fun ρ1 => bnd (opt (setF ρ1 j (some (.sh w)))) fun ρ2 => ret (Flw.nx ρ2) | _ => fail)) = bnd (ma ρ) fun u => bnd (mb ρ) fun w => bnd (opt (setF ρ i (some (.sh u)))) fun ρ1 => bnd (opt (setF ρ1 j (some (.sh w)))) fun ρ2 => ret (.nx ρ2) := by
      simp only [bnd_assoc, bnd_ret]
    rw [e]
    exact k
  refine ⟨H0, ρ, S, W, r.fr, r.st, (k'.fst r.ex).imp fun ds S1 W1 H1 e1 s1 k1 vs rs => ?_⟩
  match ds, k1, rs with
  | [u, w], k1, rs =>
    obtain ⟨v1, v2, rfl, r1, r2⟩ := rs.inv2
    obtain ⟨ρ1, hρ1, k2⟩ := k1.opt
    obtain ⟨ρ2, hρ2, k3⟩ := k2.opt
    refine ⟨v1, v2, rfl, ?_⟩
    have f0 := r.fr.ext e1
    unfold setF at hρ1
    split at hρ1
    · rename_i hil
      cases hρ1
      have f1 := f0.set r1 hil
      unfold setF at hρ2
      split at hρ2
      · rename_i hjl
        cases hρ2
        have f2 := f1.set r2 hjl
        exact k3 _ H1 W1 e1.le ⟨f2, s1, r.ex.trans e1⟩
      · cases hρ2
    · cases hρ1
  | [], k1, _ => exact k1.elim
  | [_], k1, _ => exact k1.elim
  | _ :: _ :: _ :: _, k1, _ => exact k1.elim
end
end G
/-! G16: the look at a text: is the small program the one of the text? -/
namespace G
open PySem L2
/-- a text's defs, classes of exceptions, constants: by name -/
structure Tab where
  fns : List (Str × Nat)
  cls : List (Str × Nat)
  gls : List (Str × GV)
  hot : List (Str × Nat) := []
def visB (sc : Scope) (x : Str) : Bool := match sc.names.lookup x with
  | some .local => true
  | some .cell => true
  | some .free => true
  | _ => false
def locB (sc : Scope) (x : Str) : Bool := match sc.names.lookup x with
  | some .local => true
  | some .cell => true
  | _ => false
def glB (sc : Scope) (x : Str) : Bool := match sc.names.lookup x with
  | some .globalImplicit => true
  | _ => false
def nameB (x : Str) : Bool := !(x == ("__debug__" : Str)) && !(x == ("__classdict__" : Str)) && decide (x ≠ "__name__")
def varB (N : List Str) (sc : Scope) (i : Nat) (x : Str) : Bool := decide (N[i]? = some x) && visB sc x && nameB x
def starB : Expr → Bool
  | .Starred _ _ => true
  | _ => false
def nostar (es : List Expr) : Bool := es.all fun e => !starB e
def plainB : Expr → Bool
  | .Slice _ _ _ _ => false
  | _ => true
def baseB : Expr → Bool
  | .Call _ [] [] _ => false
  | _ => true
def setB : Expr → Bool
  | .Set _ _ _ => false
  | _ => true
/-- as a test it is looked at by its value -/
def valB : Expr → Bool
  | .UnaryOp .Not _ _ => false
  | .BoolOp _ _ _ => false
  | .IfExp _ _ _ _ => false
  | .Compare _ _ _ _ => false
  | _ => true
def BOp.op : BOp → Operator
  | .add => .Add | .sub => .Sub | .mul => .Mult | .mod => .Mod | .pow => .Pow
def COp.op : COp → CmpOp
  | .eq => .Eq | .ne => .NotEq | .lt => .Lt | .le => .LtE | .gt => .Gt | .ge => .GtE | .isin => .In | .notin => .NotIn | .is => .Is | .isnot => .IsNot
def cstB : D → Expr → Bool
  | .int k, .Constant (.int k') _ _ => decide (k = k')
  | .int k, .UnaryOp .USub (.Constant (.int k') _ _) _ => decide (k = -k')
  | .str s, .Constant (.str s') _ _ => decide (s = s') && decide (s.length ≤ 1000) && PyData.strOk s
  | .bl b, .Constant (.bool b') _ _ => b == b'
  | .non, .Constant .none _ _ => true
  | _, _ => false
/-- a built-in function or class by its name -/
def Prim.fn : Prim → Option Str
  | .len => some "len" | .tpl => some "tuple" | .lst => some "list" | .all => some "all" | .any => some "any" | .max2 => some "max" | .min2 => some "min" | .toInt => some "int" | .sum => some "sum" | .srt => some "sorted" | .mn => some "min" | .dic => some "dict"
def Mt.nm : Mt → Str
  | .strip => "strip" | .cnt => "count" | .idx => "index"
def Ty.nm : Ty → Str
  | .int => "int" | .bool => "bool" | .str => "str" | .tuple => "tuple" | .list => "list"
mutual
def chkTg (N : List Str) (sc : Scope) : Tg → Expr → Bool
  | .nm i, .Name x _ => decide (N[i]? = some x) && locB sc x
  | .tp ts, .Tuple es _ _ => chkTgs N sc ts es
  | _, _ => false
def chkTgs (N : List Str) (sc : Scope) : List Tg → List Expr → Bool
  | [], [] => true
  | t :: ts, e :: es => chkTg N sc t e && chkTgs N sc ts es
  | _, _ => false
end
def ownOf (N : List Str) (t : Tg) : List (Str × Nat) := t.slots.map fun i => (N.getD i Str.empty, i)
inductive Md where
  | val | tst | brw
def Md.isB : Md → Bool
  | .brw => true
  | _ => false
def Md.isT : Md → Bool
  | .tst => true
  | _ => false
def Md.sub : Md → Md
  | .tst => .tst
  | _ => .val
/-- the sizes of parts, written out -/
def szB : List (Option Expr) → List Expr → Bool
  | [some (.Constant (.str a) _ _), some (.Constant (.str b) _ _), some (.Constant (.str c) _ _)], [.Constant (.int x) _ _, .Constant (.int y) _ _, .Constant (.int z) _ _] => decide (a = "word") && decide (b = "one") && decide (c = "some") && decide (x = 2) && decide (y = 3) && decide (z = 4)
  | _, _ => false
theorem szB_inv {ks : List (Option Expr)} {vs : List Expr} (h : szB ks vs = true) : ∃ j1 j2 j3 p1 p2 p3 i1 i2 i3 q1 q2 q3, ks = [some (.Constant (.str "word") j1 p1), some (.Constant (.str "one") j2 p2), some (.Constant (.str "some") j3 p3)] ∧ vs = [.Constant (.int 2) i1 q1, .Constant (.int 3) i2 q2, .Constant (.int 4) i3 q3] := by
  unfold szB at h
  split at h
  · simp only [Bool.and_eq_true, decide_eq_true_eq] at h
    obtain ⟨⟨⟨⟨⟨rfl, rfl⟩, rfl⟩, rfl⟩, rfl⟩, rfl⟩ := h
    exact ⟨_, _, _, _, _, _, _, _, _, _, _, _, rfl, rfl⟩
  · cases h
/-- -1, written -/
def neg1B : Expr → Bool
  | .UnaryOp .USub (.Constant (.int z) _ _) _ => decide (z = 1)
  | _ => false
theorem neg1B_inv {e : Expr} (h : neg1B e = true) : ∃ k p1 p2, e = .UnaryOp .USub (.Constant (.int 1) k p1) p2 := by
  unfold neg1B at h
  split at h
  · cases of_decide_eq_true h
    exact ⟨_, _, _, rfl⟩
  · cases h
section
variable (T : Tab) (Δ : Nat → Option FDef) (ht : Bool) (N : List Str)
def arB (f : Nat) (n : Nat) : Bool := match Δ f with
  | some F => F.ar == n
  | none => false
mutual
/-- the small expression is that of the text: as a value, as a test, or where it is only looked at -/
def chk : Md → E → Scope → Expr → Bool
  | _, .var i, sc, .Name x _ => varB N sc i x
  | md, .brw i, sc, .Name x _ => md.isB && varB N sc i x
  | _, .cst d, _, e => cstB d e && valB e
  | _, .gl x v, sc, .Name y _ => decide (x = y) && glB sc x && nameB x && decide (T.gls.lookup x = some v)
  | _, .fn f, sc, .Name y _ => !ht && glB sc y && nameB y && decide (T.fns.lookup y = some f)
  | _, .tup es, sc, .Tuple es' _ _ => chks .val es sc es' && nostar es' && decide (es.length ≤ 1000)
  | _, .lst es, sc, .List es' _ => chks .val es sc es' && nostar es' && decide (es.length ≤ 1000)
  | _, .bin o a b, sc, .BinOp a' o' b' _ => decide (o.op = o') && chk .brw a sc a' && chk .brw b sc b'
  | _, .cmp o a b, sc, .Compare a' [o'] [b'] _ => decide (o.op = o') && chk .brw a sc a' && chk .brw b sc b' && setB b'
  | _, .chn o1 o2 a b c, sc, .Compare a' [p1, p2] [b', c'] _ => decide (o1.op = p1) && decide (o2.op = p2) && chk .brw a sc a' && chk .brw b sc b' && chk .brw c sc c' && setB b' && setB c'
  | md, .not a, sc, .UnaryOp .Not a' _ => chk md.sub a sc a'
  | md, .and a b, sc, .BoolOp .And [x, y] _ => chk md.sub a sc x && chk md.sub b sc y
  | md, .and a b, sc, .BoolOp .And (x :: y :: z :: r) p => chk md.sub a sc x && chk md.sub b sc (.BoolOp .And (y :: z :: r) p)
  | md, .or a b, sc, .BoolOp .Or [x, y] _ => chk md.sub a sc x && chk md.sub b sc y
  | md, .or a b, sc, .BoolOp .Or (x :: y :: z :: r) p => chk md.sub a sc x && chk md.sub b sc (.BoolOp .Or (y :: z :: r) p)
  | md, .ife c a b, sc, .IfExp c' a' b' _ => !md.isT && chk .tst c sc c' && chk .val a sc a' && chk .val b sc b'
  | _, .call f es, sc, .Call (.Name x _) (e' :: es') [] _ => !ht && glB sc x && nameB x && decide (T.fns.lookup x = some f) && arB Δ f es.length && nostar (e' :: es') && chks .val es sc (e' :: es')
  | _, .callv e es, sc, .Call (.Subscript a' b' q') (e' :: es') [] _ => !ht && nostar (e' :: es') && chk .val e sc (.Subscript a' b' q') && chks .val es sc (e' :: es')
  | _, .isx c a, sc, .Call (.Name x _) [a', .Name y _] [] _ => ht && decide (x = "isinstance") && glB sc x && decide (T.cls.lookup y = some c) && glB sc y && nameB y && nostar [a'] && chk .brw a sc a'
  | _, .isv a, sc, .Call (.Name x _) [a', .Name y _] [] _ => ht && decide (x = "isinstance") && glB sc x && decide (y = "ValueError") && glB sc y && nostar [a'] && chk .brw a sc a'
  | _, .isi t a, sc, .Call (.Name x _) [a', .Name y _] [] _ => decide (x = "isinstance") && glB sc x && decide (y = t.nm) && glB sc y && nostar [a'] && chk .brw a sc a'
  | _, .mth p o a, sc, .Call (.Attribute o' m ap) [a'] [] cp => decide (m = p.nm) && baseB o' && nostar [a'] && (ap.endLine == cp.line) && chk .brw o sc o' && chk .brw a sc a'
  | _, .sget a, sc, .Call (.Attribute (.Name x _) m ap) [a', .Constant (.int z) _ _] [] cp => decide (x = "SIZES") && decide (m = "get") && decide (z = 0) && glB sc x && nostar [a'] && (ap.endLine == cp.line) && chk .brw a sc a'
  | _, .sget a, sc, .Call (.Attribute (.Dict ks vs _) m ap) [a', .Constant (.int z) _ _] [] cp => szB ks vs && decide (m = "get") && decide (z = 0) && nostar [a'] && (ap.endLine == cp.line) && chk .brw a sc a'
  | _, .rev a, sc, .Subscript a' (.Slice none none (some st) _) _ => neg1B st && chk .brw a sc a'
  | _, .sset a, sc, .Call (.Name x _) [.Call (.Name y _) [a'] [] _] [] _ => !ht && decide (x = "sorted") && decide (y = "set") && glB sc x && glB sc y && nostar [a'] && chk .brw a sc a'
  | _, .lset a, sc, .Call (.Name x _) [.Call (.Name y _) [a'] [] _] [] _ => !ht && decide (x = "len") && decide (y = "set") && glB sc x && glB sc y && nostar [a'] && chk .brw a sc a'
  | _, .pr p es, sc, .Call (.Name x _) (e' :: es') [] _ => !ht && decide (p.fn = some x) && glB sc x && nostar (e' :: es') && chks .brw es sc (e' :: es')
  | _, .idx a b, sc, .Subscript a' b' _ => chk .brw a sc a' && chk .brw b sc b' && plainB b'
  | _, .sl a lo hi, sc, .Subscript a' (.Slice lo' hi' none _) _ => chk .brw a sc a' && chko lo sc lo' && chko hi sc hi'
  | _, .comp elt t it c, sc, .ListComp elt' [⟨tg, it', ifs, as⟩] scope _ => !ht && decide (as = 0) && blkC N sc scope (ownOf N t) && chkTg N scope t tg && chki .brw it sc tg it' && chkc c scope ifs && chk .val elt scope elt' && setB it'
  | _, .tlen a, sc, .Call (.Name x _) [a'] [] _ => decide (x = "len") && glB sc x && nostar [a'] && chk .val a sc a'
  | md, .nev, _, _ => !md.isT
  | _, .dnew, _, .Dict [] [] _ => true
  | _, .lrng a b, sc, .Call (.Name x _) [.Call (.Name y _) [a', b'] [] _] [] _ => !ht && decide (x = "list") && decide (y = "range") && glB sc x && glB sc y && nostar [a', b'] && chk .val a sc a' && chk .val b sc b'
  | _, .dic1 k v, sc, .Dict [some k'] [v'] _ => chk .val k sc k' && chk .val v sc v'
  | _, .dget d k x, sc, .Call (.Attribute d' m ap) [k', x'] [] cp => decide (m = "get") && baseB d' && nostar [k', x'] && (ap.endLine == cp.line) && chk .brw d sc d' && chk .val k sc k' && chk .val x sc x'
  | _, _, _, _ => false
termination_by structural _ e => e
def chks : Md → List E → Scope → List Expr → Bool
  | _, [], _, [] => true
  | md, e :: es, sc, e' :: es' => chk md e sc e' && chks md es sc es'
  | _, _, _, _ => false
termination_by structural _ e => e
def chko : Option E → Scope → Option Expr → Bool
  | none, _, none => true
  | some e, sc, some e' => chk .val e sc e'
  | _, _, _ => false
termination_by structural e => e
def chkc : Option E → Scope → List Expr → Bool
  | none, _, [] => true
  | some e, sc, [e'] => chk .tst e sc e'
  | _, _, _ => false
termination_by structural e => e
def chki : Md → It → Scope → Expr → Expr → Bool
  | md, .seq e, sc, _, e' => chk md e sc e'
  | _, .rng a, sc, _, .Call (.Name x _) [a'] [] _ => decide (x = "range") && glB sc x && nostar [a'] && chk .val a sc a'
  | _, .rng2 a b, sc, _, .Call (.Name x _) [a', b'] [] _ => decide (x = "range") && glB sc x && nostar [a', b'] && chk .val a sc a' && chk .val b sc b'
  | _, .enm a, sc, .Tuple _ _ _, .Call (.Name x _) [a'] [] _ => decide (x = "enumerate") && glB sc x && nostar [a'] && chk .val a sc a'
  | _, .zip2 a b, sc, .Tuple _ _ _, .Call (.Name x _) [a', b'] [] _ => decide (x = "zip") && glB sc x && nostar [a', b'] && chk .val a sc a' && chk .val b sc b'
  | _, _, _, _, _ => false
termination_by structural _ e => e
end
end
end G
/-! G17: where the look says yes, the text computes what the small program does: expressions. -/
namespace G
open PySem L2
/-- the built-in names that are used -/
def blts : List Str := ["len", "isinstance", "sorted", "tuple", "range", "set", "all", "list", "any", "zip", "enumerate", "max", "min", "dict", "int", "sum", "str", "bool", "ValueError"]
/-- a module's constant stands -/
def GVAt (K : PySem.W.Frag) : GV → Value → Prop
  | .int i, u => ∃ t, u = .int i t
  | .str x, u => (∃ t, u = .str x t) ∧ x.length ≤ sizeLine ∧ PyData.strOk x = true
  | .tup l, u => ∃ (a : Addr) (o : Obj) (its : Array Value) (n : Nat), u = .ref a ∧ K.lookup a = some o ∧ o.cls = .type "tuple" ∧ o.data = .seq its n ∧ its.size ≤ sizeLine ∧ Vals (l.map V.int) its.toList
/-- the classes of errors, where one is caught -/
def HotOk (K : PySem.W.Frag) (mg : Str → Option Value) (g : Gi) (T : Tab) : Prop := ∃ (G : Addr) (l : List (Nat × Addr)), mg "GapError" = some (.ref G) ∧ ∀ x c, T.cls.lookup x = some c → (c, g.cls c) ∈ l ∧ XC K c (g.cls c) G l
structure Mg (K : PySem.W.Frag) (w : World) (mg : Str → Option Value) (g : Gi) (T : Tab) : Prop where
  blt : ∀ x ∈ blts, mg x = none
  szs : ∃ d, mg "SIZES" = some (.ref d) ∧ SzAt K w d
  gls : ∀ x v, T.gls.lookup x = some v → ∃ u, mg x = some u ∧ GVAt K v u
  hot : T.hot ≠ [] → HotOk K mg g T
  fnx : ∀ f a, g.fa f = some a → ∃ x, T.fns.lookup x = some f
  cls : ∀ x c, T.cls.lookup x = some c → mg x = some (.ref (g.cls c)) ∧ PySem.W.excIn K (g.cls c) [.type "ValueError", .type "Exception", .type "BaseException", .type "object"] "ValueError.__new__" = true ∧ PySem.W.keepIn K (.ref (g.cls c)) = true ∧ PySem.W.subIn K (.ref (g.cls c)) (.type "BaseException") = some true ∧ PySem.W.typeIn K (.ref (g.cls c)) = some (.type "type")
def arOf (Δ : Nat → Option FDef) (f : Nat) : Nat := match Δ f with
  | some F => F.ar
  | none => 0
/-- the def f of the text keeps what the small program says, by calls at most k deep -/
def FnG (P : Program) (w : World) (K : PySem.W.Frag) (mg : Str → Option Value) (base : Heap) (g : Gi) (Δ : Nat → Option FDef) (k : Nat) (x : Str) (f : Nat) : Prop :=
  ∃ (a : Addr) (fd : FuncData) (ps : List Str), g.fa f = some a ∧ mg x = some (.ref a) ∧ PySem.W.keepIn K (.ref a) = true ∧ Binds K fd ps [] ∧ FnOk P w K mg base (CX P w) k a fd ps (spF ⟨K, g.fa, g.cls, g.ex, w⟩ (arOf Δ f) (sem Δ k f))
/-- the def that is asked which error is held -/
def FnWG (P : Program) (w : World) (K : PySem.W.Frag) (mg : Str → Option Value) (base : Heap) (g : Gi) (T : Tab) (Δ : Nat → Option FDef) (k : Nat) (x : Str) (f : Nat) : Prop :=
  ∃ (a : Addr) (fd : FuncData) (ps : List Str), mg x = some (.ref a) ∧ PySem.W.keepIn K (.ref a) = true ∧ Binds K fd ps [] ∧ arOf Δ f = 1 ∧ ∀ (p : Addr × Obj) (y : Str) (c : Nat), T.cls.lookup y = some c → Zc (.ref (g.cls c)) none p.2 → (∃ vs, p.2.data = .fields vs) → FnW P w K mg base k a fd ps p (spF ⟨K, g.fa, g.cls, some (p.1, c), w⟩ 1 (sem Δ k f))
structure Gd (T : Tab) (Δ : Nat → Option FDef) (g : Gi) (k : Nat) (ht : Bool) (N : List Str) (sc : Scope) (X : Cx) (E : XK) : Prop where
  hN : X.N = N
  nd : N.Nodup
  scs : ∀ (x : Str) (kd : NameKind), sc.names.lookup x = some kd → X.env.scope.names.lookup x = some kd ∨ (kd = .free ∧ X.env.scope.names.lookup x = some .cell)
  kind : X.env.scope.kind = .function
  fn : ∀ x, sc.names.lookup x = some .cell → X.fn x = true
  calm : ht = false → X.calm = true
  tk : ht = false → Takes X fun c d _ H => E c d H
  room : ht = false → Room k X.A
  un : X.A.units + 64 < cLine
  pin : ht = true → ∃ (a : Addr) (oe : Obj) (y : Str) (c : Nat), g.ex = some (a, c) ∧ (a, oe) ∈ X.pn ∧ T.cls.lookup y = some c ∧ Zc (.ref (g.cls c)) none oe ∧ (∃ vs, oe.data = .fields vs) ∧ HotOk X.K X.mg g T
  mgd : Mg X.K X.w X.mg g T
  fns : ht = false → ∀ x f, T.fns.lookup x = some f → FnG X.prog X.w X.K X.mg X.base g Δ k x f
  hots : ht = false → ∀ x f, T.hot.lookup x = some f → FnWG X.prog X.w X.K X.mg X.base g T Δ k x f
theorem and_iff {a b : Bool} : (a && b) = true ↔ a = true ∧ b = true := Bool.and_eq_true_iff
theorem visB_iff {sc : Scope} {x : Str} (h : visB sc x = true) : sc.names.lookup x = some .local ∨ sc.names.lookup x = some .cell ∨ sc.names.lookup x = some .free := by
  unfold visB at h
  split at h <;> first | exact .inl (by assumption) | exact .inr (.inl (by assumption)) | exact .inr (.inr (by assumption)) | cases h
theorem locB_iff {sc : Scope} {x : Str} (h : locB sc x = true) : sc.names.lookup x = some .local ∨ sc.names.lookup x = some .cell := by
  unfold locB at h
  split at h <;> first | exact .inl (by assumption) | exact .inr (by assumption) | cases h
theorem glB_iff {sc : Scope} {x : Str} (h : glB sc x = true) : sc.names.lookup x = some .globalImplicit := by
  unfold glB at h
  split at h <;> first | assumption | cases h
theorem nameB_iff {x : Str} (h : nameB x = true) : (x == ("__debug__" : Str)) = false ∧ (x == ("__classdict__" : Str)) = false ∧ x ≠ "__name__" := by
  unfold nameB at h
  simp only [Bool.and_eq_true, Bool.not_eq_true', decide_eq_true_eq] at h
  exact ⟨h.1.1, h.1.2, h.2⟩
theorem star_cons {e : Expr} (es : List Expr) (env : Env) (h : starB e = false) : starEach (e :: es) env = (false, eval e env) :: starEach es env := by
  cases e <;> first | rfl | cases h
theorem nostar_cons {e : Expr} {es : List Expr} (h : nostar (e :: es) = true) : starB e = false ∧ nostar es = true := by
  unfold nostar at *
  simp only [List.all_cons, Bool.and_eq_true, Bool.not_eq_true'] at h
  exact h
theorem nostar_any (pos : Pos) (env : Env) : ∀ es : List Expr, nostar es = true → (backTo pos (starEach es env)).any (·.1) = false
  | [], _ => rfl
  | e :: es, h => by
    obtain ⟨h1, h2⟩ := nostar_cons h
    rw [star_cons es env h1]
    have := nostar_any pos env es h2
    show (false || (backTo pos (starEach es env)).any (·.1)) = false
    rw [this]; rfl
theorem star1 {e : Expr} (env : Env) (h : nostar [e] = true) : starEach [e] env = [(false, eval e env)] := star_cons [] env (nostar_cons h).1
section
variable {T : Tab} {Δ : Nat → Option FDef} {g : Gi} {k : Nat} {ht : Bool} {N : List Str} {sc : Scope} {X : Cx} {E : XK}
theorem Gd.vis (G : Gd T Δ g k ht N sc X E) {x : Str} (h : visB sc x = true) : Vis X.env.scope x := by
  rcases visB_iff h with q | q | q
  · rcases G.scs x _ q with z | ⟨z, _⟩
    · exact .inl z
    · cases z
  · rcases G.scs x _ q with z | ⟨z, _⟩
    · exact .inr (.inl z)
    · cases z
  · rcases G.scs x _ q with z | ⟨_, z⟩
    · exact .inr (.inr z)
    · exact .inr (.inl z)
theorem Gd.gl (G : Gd T Δ g k ht N sc X E) {x : Str} (h : glB sc x = true) : Gl X x := by
  rcases G.scs x _ (glB_iff h) with z | ⟨z, _⟩
  · exact z
  · cases z
theorem Gd.loc (G : Gd T Δ g k ht N sc X E) {x : Str} (h : locB sc x = true) : Loc X.env.scope x ∧ (X.fn x = true ∨ X.env.scope.names.lookup x = some .local) := by
  rcases locB_iff h with q | q
  · rcases G.scs x _ q with z | ⟨z, _⟩
    · exact ⟨.inl z, .inr z⟩
    · cases z
  · rcases G.scs x _ q with z | ⟨z, _⟩
    · exact ⟨.inr z, .inl (G.fn x q)⟩
    · cases z
/-- the names of a comprehension's block, labelled anew -/
theorem relabel_look (env : Env) : ∀ (names : List (Str × NameKind)) (x : Str) (kd : NameKind), names.lookup x = some kd →
    (names.map fun (n, q) => if (q == .free && env.scope.kind == .function && env.kindOf n == some .cell) then (n, .cell) else (n, q)).lookup x = some kd ∨
    (kd = .free ∧ (names.map fun (n, q) => if (q == .free && env.scope.kind == .function && env.kindOf n == some .cell) then (n, .cell) else (n, q)).lookup x = some .cell)
  | [], x, kd, h => by simp at h
  | (n, q) :: r, x, kd, h => by
    rw [List.map_cons]
    dsimp only
    by_cases hx : (x == n) = true
    · rw [List.lookup_cons, hx] at h
      have h : q = kd := Option.some.inj h
      subst h
      split
      · rename_i hc
        simp only [Bool.and_eq_true, beq_iff_eq] at hc
        exact .inr ⟨hc.1.1, by rw [List.lookup_cons, hx]⟩
      · exact .inl (by rw [List.lookup_cons, hx])
    · have hx : (x == n) = false := by simpa using hx
      rw [List.lookup_cons, hx] at h
      have ih := relabel_look env r x kd h
      split
      · rw [List.lookup_cons, hx]; exact ih
      · rw [List.lookup_cons, hx]; exact ih
theorem Gd.blk (G : Gd T Δ g k ht N sc X E) (hh : ht = false) {scope : Scope} (hk : scope.kind = .function) (s : Shared) (H : Hp) (C : Addr) (cl : List (Str × Addr)) (fp : List Addr) :
    Gd T Δ g k ht N scope (X.blk s H scope (compEnvC scope cl C X.env) fp) EF where
  hN := G.hN
  nd := G.nd
  scs := fun x kd h => relabel_look X.env scope.names x kd h
  kind := hk
  fn := fun x h => by
    show (scope.names.lookup x == some .cell) = true
    rw [h]; rfl
  calm := G.calm
  tk := fun _ => takes0
  room := G.room
  un := G.un
  pin := fun z => by rw [hh] at z; cases z
  mgd := G.mgd
  fns := G.fns
  hots := G.hots
theorem Gd.blkOk (G : Gd T Δ g k ht N sc X E) {scope : Scope} {own : List (Str × Nat)} (h : blkC N sc scope own = true) : BlkOk X.N X.env.scope scope own := by
  have b := blkOk_by h
  rw [G.hN]
  refine ⟨b.kind, b.uniq, b.ix, fun y hy e => ?_, b.own⟩
  rcases b.free y hy e with z | z
  · rcases G.scs _ _ z with q | ⟨q, _⟩
    · exact .inl q
    · cases q
  · rcases G.scs _ _ z with q | ⟨_, q⟩
    · exact .inr q
    · exact .inl q
mutual
theorem Gd.tg (G : Gd T Δ g k ht N sc X E) (hh : ht = false) : ∀ (t : Tg) (e : Expr), chkTg N sc t e = true → PG X e (gT X.K t)
  | .nm i, e, h => by
    cases e <;> first | exact Bool.noConfusion (show false = true from h) | skip
    rename_i x p
    obtain ⟨h1, h2⟩ := and_iff.mp (show (decide (N[i]? = some x) && locB sc x) = true from h)
    obtain ⟨l1, l2⟩ := G.loc h2
    exact pg_name (by rw [G.hN]; exact G.nd) (by rw [G.hN]; exact of_decide_eq_true h1) l1 l2
  | .tp ts, e, h => by
    cases e <;> first | exact Bool.noConfusion (show false = true from h) | skip
    rename_i es kk p
    obtain ⟨q1, q2, q3⟩ := Gd.tgs G hh ts es h
    exact pg_tup (G.calm hh) q1 q2 q3
theorem Gd.tgs (G : Gd T Δ g k ht N sc X E) (hh : ht = false) : ∀ (ts : List Tg) (es : List Expr), chkTgs N sc ts es = true → PGs X es (gTs X.K ts) ∧ (assignEach es X.env).length = ts.length ∧ (assignEach es X.env).findIdx? (·.1) = none
  | [], es, h => by
    cases es with
    | nil => exact ⟨pgs_nil, rfl, rfl⟩
    | cons _ _ => exact Bool.noConfusion (show false = true from h)
  | t :: ts, es, h => by
    cases es with
    | nil => exact Bool.noConfusion (show false = true from h)
    | cons e es =>
      obtain ⟨h1, h2⟩ := and_iff.mp (show (chkTg N sc t e && chkTgs N sc ts es) = true from h)
      obtain ⟨q1, q2, q3⟩ := Gd.tgs G hh ts es h2
      have he : assignEach (e :: es) X.env = (false, assign e X.env) :: assignEach es X.env := by
        cases t <;> cases e <;> first | rfl | exact Bool.noConfusion (show false = true from h1)
      refine ⟨pgs_cons (Gd.tg G hh t e h1) q1 (by rw [he]; rfl), by rw [he]; simp [q2], ?_⟩
      rw [he, List.findIdx?_cons, q3]
      rfl
end
theorem Gd.bm (G : Gd T Δ g k ht N sc X E) {x : Str} (h : x ∈ blts) : X.mg x = none := G.mgd.blt x h
end
end G
/-! G18: soundness of expressions. -/
namespace G
open PySem L2
def boolB : Expr → Bool
  | .BoolOp _ _ _ => true
  | _ => false
/-- what is shown of an expression, as a value, a test, or looked at -/
def Jd (X : Cx) (g : Gi) (E : XK) : Md → Expr → (Fr → M D) → Prop
  | .val, e, m => PE X e (tE (cn X g) E m)
  | .brw, e, m => PE X e (tB (cn X g) E m)
  | .tst, e, m => PT X e (tT (cn X g) E m) ∧ (boolB e = true → PW X e (tT (cn X g) E m))
section
variable {T : Tab} {Δ : Nat → Option FDef} {g : Gi} {k : Nat} {ht : Bool} {N : List Str} {sc : Scope} {X : Cx} {E : XK}
theorem isTrue_val {e : Expr} (env : Env) (h : valB e = true) (whole : Sem Value) : PySem.isTrue e env whole = (do let v ← whole; standAt e.pos; holding [v] (truthy v)) := by
  cases e <;> first | rfl | skip
  case BoolOp => exact Bool.noConfusion (show false = true from h)
  case IfExp => exact Bool.noConfusion (show false = true from h)
  case Compare => exact Bool.noConfusion (show false = true from h)
  case UnaryOp op a p => cases op <;> first | rfl | exact Bool.noConfusion (show false = true from h)
theorem val_bool {e : Expr} (h : valB e = true) : ¬ boolB e = true := by
  cases e <;> first | exact fun z => Bool.noConfusion (show false = true from z) | exact Bool.noConfusion (show false = true from h)
/-- by its value, in every mode -/
theorem Jd.ofV {md : Md} {e : Expr} {m : Fr → M D} (h : PE X e (tE (cn X g) E m)) (hv : valB e = true) : Jd X g E md e m := by
  cases md with
  | val => exact h
  | brw => exact PE.toB h
  | tst => exact ⟨t_val h fun w => isTrue_val X.env hv w, fun z => absurd z (val_bool hv)⟩
theorem Jd.ofB {md : Md} {e : Expr} {m : Fr → M D} (hb : md.isT = false) (h : PE X e (tE (cn X g) E m)) : Jd X g E md e m := by
  cases md with
  | val => exact h
  | brw => exact PE.toB h
  | tst => cases hb
theorem evs_len {Γ : Nat → List D → M D} : ∀ (es : List G.E) (ρ : Fr) (S : Sto) (ds : List D) (S' : Sto), evs Γ es ρ S = .ok ds S' → ds.length = es.length
  | [], ρ, S, ds, S', h => by cases h; rfl
  | e :: es, ρ, S, ds, S', h => by
    unfold evs bnd at h
    cases h1 : ev Γ e ρ S with
    | bad => rw [h1] at h; cases h
    | exc c s => rw [h1] at h; cases h
    | ok d s =>
      rw [h1] at h
      dsimp only at h
      cases h2 : evs Γ es ρ s with
      | bad => rw [h2] at h; cases h
      | exc c s' => rw [h2] at h; cases h
      | ok ds' s' =>
        rw [h2] at h
        cases h
        show ds'.length + 1 = es.length + 1
        rw [evs_len es ρ s ds' _ h2]
theorem op_bin (o : BOp) : OpR X (binaryOp o.op) (rG2 (cn X g) (dBin o)) := by
  cases o
  · exact opg_add
  · exact opg_sub
  · exact opg_mul
  · exact opg_mod
  · exact opg_pow
theorem op_cmp (hu : X.A.units + 64 < cLine) (o : COp) : OpR X (compareOp o.op) (rG2 (cn X g) (dCmp o)) := by
  cases o
  · exact opg_eq hu
  · exact opg_ne hu
  · exact opg_lt
  · exact opg_le
  · exact opg_gt
  · exact opg_ge
  · exact opg_in hu
  · exact opg_notin hu
  · exact opg_is
  · exact opg_isnot
theorem noMarks {b : Expr} (h : setB b = true) (op : CmpOp) : behindInMarks op b = false := by
  cases b <;> first | rfl | exact Bool.noConfusion (show false = true from h)
theorem noMarks2 {b c : Expr} (h : setB c = true) (o1 o2 : CmpOp) : lastMarks [o1, o2] [b, c] = false := noMarks h o2
theorem plain_ix {b : Expr} (h : plainB b = true) : PlainIx b := fun o i => by
  cases b <;> first | rfl | exact Bool.noConfusion (show false = true from h)
theorem folded {it : Expr} (h : setB it = true) (env : Env) (x : Value) : foldedSetIterable it env x = pure x := by
  cases it <;> first | rfl | exact Bool.noConfusion (show false = true from h)
theorem Gd.cst (G : Gd T Δ g k ht N sc X E) {d : D} {e : Expr} (h : cstB d e = true) : PE X e (tE (cn X g) E fun _ => ret d) := by
  unfold cstB at h
  split at h
  · rename_i k' _ _
    cases of_decide_eq_true h
    exact q_c pe_int fun _ => .int _
  · have := of_decide_eq_true h
    subst this
    exact q_neg
  · obtain ⟨h1, h3⟩ := and_iff.mp h
    obtain ⟨h1, h2⟩ := and_iff.mp h1
    cases of_decide_eq_true h1
    refine q_c pe_str fun _ => .str _ ?_ h3
    have := of_decide_eq_true h2
    rw [sizeLine_eq]; omega
  · cases eq_of_beq h
    exact q_c pe_bl fun _ => .bl _
  · exact q_c pe_non fun _ => .non
  · cases h
theorem Reps.ofInts {C : Cn} {W : Wd} : ∀ l : List Int, Reps C W (l.map V.int) (l.map D.int)
  | [] => .nil
  | x :: l => .cons (.int x) (Reps.ofInts l)
theorem Gd.gv (G : Gd T Δ g k ht N sc X E) {x : Str} {v : GV} {p : Pos} (hg : Gl X x) (hd : (x == ("__debug__" : Str)) = false) (h : T.gls.lookup x = some v) : PE X (.Name x p) (tE (cn X g) E fun _ => ret v.toD) := by
  obtain ⟨u, h1, h2⟩ := G.mgd.gls x v h
  cases v with
  | int i =>
    obtain ⟨t, rfl⟩ := h2
    exact q_c (pe_glob (v := .int i) hg h1 ⟨t, rfl⟩ hd) fun _ => .int _
  | str s =>
    obtain ⟨⟨t, rfl⟩, h3, h4⟩ := h2
    exact q_c (pe_glob (v := .str s) hg h1 ⟨t, rfl⟩ hd) fun _ => .str _ h3 h4
  | tup l =>
    obtain ⟨a, o, its, n, rfl, e1, e2, e3, e4, e5⟩ := h2
    refine q_c (pe_glob (v := .ref a) hg h1 rfl hd) fun W => .tup (.inr ⟨o, its, n, e1, e2, e3, e4, e5⟩) ?_ (Reps.ofInts l)
    rw [e5.length, Array.length_toList]; exact e4
theorem Gd.fnv (G : Gd T Δ g k ht N sc X E) (hh : ht = false) {x : Str} {f : Nat} {p : Pos} (hg : Gl X x) (hd : (x == ("__debug__" : Str)) = false) (h : T.fns.lookup x = some f) : PE X (.Name x p) (tE (cn X g) E fun _ => ret (.fn f)) := by
  obtain ⟨a, fd, ps, h1, h2, h3, h4, h5⟩ := G.fns hh x f h
  exact q_c (pe_glob (v := .ref a) hg h2 rfl hd) fun W => .fn h1
theorem q_isi {t : Ty} {a : Expr} {m : Fr → M D} {p p2 pos : Pos} (hg : Gl X "isinstance") (hm : X.mg "isinstance" = none) (hg2 : Gl X t.nm) (hm2 : X.mg t.nm = none) (ha : PE X a (tB (cn X g) E m)) (hs : starB a = false) :
    PE X (.Call (.Name "isinstance" p) [a, .Name t.nm p2] [] pos) (tE (cn X g) E fun ρ => bnd (m ρ) fun d => opt (dIsi t d)) := by
  have hb : bootBuiltins t.nm = some (.type t.name) := by cases t <;> decide +kernel
  have hT : PE X (.Name t.nm p2) (tC (.ty t.name)) := pe_bltn hg2 hm2 hb rfl (by cases t <;> decide) (by cases t <;> decide)
  refine PE.imp (pe_callB call_isi hg hm (by decide +kernel) (pa_cons ha (pa_cons hT pa_nil rfl) (star_cons _ _ hs)) (by decide) (by decide) (star_cons _ _ hs) rfl) fun σ H Q q => ?_
  obtain ⟨H0, ρ, S, W, fr, st, pp⟩ := q
  refine ⟨H0, ρ, S, W, fr, st, (Pst.fst pp).imp fun d S1 W1 H1 e1 s1 p1 v r => ?_⟩
  obtain ⟨d', hd', p2⟩ := p1.opt
  obtain ⟨b, hb', rfl⟩ := Option.map_eq_some_iff.mp hd'
  obtain ⟨u, hu1, hu2⟩ := r.tyX s1.sh hb'
  exact ⟨v, .ty t.name, u, .type t.name, b, rfl, .ty _, hu1, hu2, p2.okk s1 _ (.bl _)⟩
theorem mcall {o e : Expr} {apos cpos : Pos} {nm : Str} (hb : baseB o = true) (hs : nostar [e] = true) (hl : (apos.endLine == cpos.line) = true) : MCall X o e apos cpos nm := by
  have s1 := star1 X.env hs
  refine ⟨?_, ?_, hl, s1⟩
  · cases o <;> first | rfl | skip
    rename_i f as kws p
    cases as with
    | cons _ _ => cases f <;> rfl
    | nil =>
      cases kws with
      | cons _ _ => cases f <;> rfl
      | nil => exact Bool.noConfusion (show false = true from hb)
  · rw [s1]; rfl
theorem star2 {e f : Expr} (env : Env) (h : nostar [e, f] = true) : starEach [e, f] env = [(false, eval e env), (false, eval f env)] := by
  obtain ⟨h1, h2⟩ := nostar_cons h
  rw [star_cons _ _ h1, star1 env h2]
theorem baseA {o : Expr} {nm : Str} (hb : baseB o = true) : attributeBase o nm X.env (eval o X.env) = eval o X.env := by
  cases o <;> first | rfl | skip
  rename_i f as kws p
  cases as with
  | cons _ _ => cases f <;> rfl
  | nil =>
    cases kws with
    | cons _ _ => cases f <;> rfl
    | nil => exact Bool.noConfusion (show false = true from hb)
theorem mcall2 {o e f : Expr} {apos cpos : Pos} {nm : Str} (hb : baseB o = true) (hs : nostar [e, f] = true) (hl : (apos.endLine == cpos.line) = true) : M2 X o nm apos e f cpos := by
  have s2 := star2 X.env hs
  exact ⟨baseA hb, by rw [s2]; rfl, hl, by rw [s2]; rfl⟩
theorem Gd.prim (G : Gd T Δ g k ht N sc X E) (hh : ht = false) {p : Prim} {x : Str} (h : p.fn = some x) {e : Expr} {es : List Expr} {ms : Fr → M (List D)} {pp pos : Pos} (hg : Gl X x) (hs : nostar (e :: es) = true) (ha : PA X (e :: es) (tAB (cn X g) E ms)) :
    PE X (.Call (.Name x pp) (e :: es) [] pos) (tE (cn X g) E fun ρ => bnd (ms ρ) fun ds => opt (dPrim p ds)) := by
  have h1 := star_cons (e := e) es X.env (nostar_cons hs).1
  have h2 := nostar_any pos X.env es (nostar_cons hs).2
  cases p <;> first | (cases h; done) | skip
  all_goals cases h
  · exact q_callB cg_len hg (G.bm (by decide)) (by decide +kernel) ha (by decide) (by decide) h1 h2
  · exact q_callTy cg_tpl hg (G.bm (by decide)) (by decide +kernel) ha (by decide) (by decide) h1 h2
  · exact q_callTy (cg_lst (G.calm hh)) hg (G.bm (by decide)) (by decide +kernel) ha (by decide) (by decide) h1 h2
  · exact q_callB (cg_all (G.calm hh)) hg (G.bm (by decide)) (by decide +kernel) ha (by decide) (by decide) h1 h2
  · exact q_callB (cg_any (G.calm hh)) hg (G.bm (by decide)) (by decide +kernel) ha (by decide) (by decide) h1 h2
  · exact q_callB (cg_max (G.calm hh)) hg (G.bm (by decide)) (by decide +kernel) ha (by decide) (by decide) h1 h2
  · exact q_callB (cg_min (G.calm hh)) hg (G.bm (by decide)) (by decide +kernel) ha (by decide) (by decide) h1 h2
  · exact q_callTy cg_int hg (G.bm (by decide)) (by decide +kernel) ha (by decide) (by decide) h1 h2
  · exact q_callB (cg_sum (G.calm hh)) hg (G.bm (by decide)) (by decide +kernel) ha (by decide) (by decide) h1 h2
  · exact q_callB (cg_srt G.un) hg (G.bm (by decide)) (by decide +kernel) ha (by decide) (by decide) h1 h2
  · exact q_callB (cg_mn (G.calm hh) G.un) hg (G.bm (by decide)) (by decide +kernel) ha (by decide) (by decide) h1 h2
  · exact q_callTy (cg_dic (G.calm hh) G.un) hg (G.bm (by decide)) (by decide +kernel) ha (by decide) (by decide) h1 h2
theorem sem_len {f : Nat} {ds : List D} {S : Sto} (h : sem Δ k f ds S ≠ .bad) : ds.length = arOf Δ f := by
  cases k with
  | zero => exact absurd rfl h
  | succ k =>
    unfold sem at h
    unfold arOf
    cases hF : Δ f with
    | none => rw [hF] at h; exact absurd rfl h
    | some F =>
      rw [hF] at h
      dsimp only at h ⊢
      split at h
      · assumption
      · exact absurd rfl h
theorem Gd.fnAll (G : Gd T Δ g k ht N sc X E) (hh : ht = false) : ∀ j a, g.fa j = some a → ∃ (fd : FuncData) (ps : List Str) (n : Nat), PySem.W.keepIn X.K (.ref a) = true ∧ Binds X.K fd ps [] ∧ FnOk X.prog X.w X.K X.mg X.base (CX X.prog X.w) k a fd ps (spF (cn X g) n (sem Δ k j)) ∧ ∀ ds S, sem Δ k j ds S ≠ .bad → ds.length = n := by
  intro j a h
  obtain ⟨x, hx⟩ := G.mgd.fnx j a h
  obtain ⟨a', fd, ps, g1, g2, g3, g4, g5⟩ := G.fns hh x j hx
  rw [h] at g1
  cases g1
  exact ⟨fd, ps, _, g3, g4, g5, fun ds S z => sem_len z⟩
theorem arB_iff {f n : Nat} (h : arB Δ f n = true) : arOf Δ f = n := by
  unfold arB at h
  unfold arOf
  generalize Δ f = z at h ⊢
  cases z with
  | none => cases h
  | some F => exact eq_of_beq h
set_option maxHeartbeats 4000000
mutual
theorem chk_ok : ∀ (e : G.E) (md : Md) (sc : Scope) (X : Cx) (E : XK) (e' : Expr), Gd T Δ g k ht N sc X E → chk T Δ ht N md e sc e' = true → Jd X g E md e' (ev (sem Δ k) e)
  | .var i, md, sc, X, E, e', G, h => by
    cases e' <;> first | exact Bool.noConfusion (show false = true from h) | skip
    rename_i x p
    obtain ⟨h1, h3⟩ := and_iff.mp (show varB N sc i x = true from h)
    obtain ⟨h1, h2⟩ := and_iff.mp h1
    obtain ⟨n1, n2, n3⟩ := nameB_iff h3
    exact Jd.ofV (q_var (by rw [G.hN]; exact of_decide_eq_true h1) (G.vis h2) n1 n2) rfl
  | .brw i, md, sc, X, E, e', G, h => by
    cases e' <;> first | exact Bool.noConfusion (show false = true from h) | skip
    rename_i x p
    obtain ⟨hb, h⟩ := and_iff.mp (show (md.isB && varB N sc i x) = true from h)
    obtain ⟨h1, h3⟩ := and_iff.mp h
    obtain ⟨h1, h2⟩ := and_iff.mp h1
    obtain ⟨n1, n2, n3⟩ := nameB_iff h3
    cases md <;> first | exact Bool.noConfusion (show false = true from hb) | skip
    exact q_brw (by rw [G.hN]; exact of_decide_eq_true h1) (G.vis h2) n1 n2
  | .cst d, md, sc, X, E, e', G, h => by
    obtain ⟨h1, h2⟩ := and_iff.mp (show (cstB d e' && valB e') = true from h)
    exact Jd.ofV (G.cst h1) h2
  | .gl x v, md, sc, X, E, e', G, h => by
    cases e' <;> first | exact Bool.noConfusion (show false = true from h) | skip
    rename_i y p
    obtain ⟨h, h4⟩ := and_iff.mp (show (decide (x = y) && glB sc x && nameB x && decide (T.gls.lookup x = some v)) = true from h)
    obtain ⟨h, h3⟩ := and_iff.mp h
    obtain ⟨h1, h2⟩ := and_iff.mp h
    cases of_decide_eq_true h1
    exact Jd.ofV (G.gv (G.gl h2) (nameB_iff h3).1 (of_decide_eq_true h4)) rfl
  | .fn f, md, sc, X, E, e', G, h => by
    cases e' <;> first | exact Bool.noConfusion (show false = true from h) | skip
    rename_i y p
    obtain ⟨h, h4⟩ := and_iff.mp (show (!ht && glB sc y && nameB y && decide (T.fns.lookup y = some f)) = true from h)
    obtain ⟨h2, h3⟩ := and_iff.mp h
    obtain ⟨hh, h2⟩ := and_iff.mp h2
    have hh : ht = false := by simpa using hh
    exact Jd.ofV (G.fnv hh (G.gl h2) (nameB_iff h3).1 (of_decide_eq_true h4)) rfl
  | .tup es, md, sc, X, E, e', G, h => by
    cases e' <;> first | exact Bool.noConfusion (show false = true from h) | skip
    rename_i es' kk p
    obtain ⟨h, h3⟩ := and_iff.mp (show (chks T Δ ht N .val es sc es' && nostar es' && decide (es.length ≤ 1000)) = true from h)
    obtain ⟨h1, h2⟩ := and_iff.mp h
    refine Jd.ofV (q_tup (chks_val es sc X E es' G h1 h2) fun ρ S ds S' he => ?_) rfl
    rw [evs_len es ρ S ds S' he, sizeLine_eq]
    have := of_decide_eq_true h3
    omega
  | .lst es, md, sc, X, E, e', G, h => by
    cases e' <;> first | exact Bool.noConfusion (show false = true from h) | skip
    rename_i es' p
    obtain ⟨h, h3⟩ := and_iff.mp (show (chks T Δ ht N .val es sc es' && nostar es' && decide (es.length ≤ 1000)) = true from h)
    obtain ⟨h1, h2⟩ := and_iff.mp h
    refine Jd.ofV (PE.ofF (f_lst (chks_val es sc X E es' G h1 h2) fun ρ S ds S' he => ?_)) rfl
    rw [evs_len es ρ S ds S' he, sizeLine_eq]
    have := of_decide_eq_true h3
    omega
  | .bin o a b, md, sc, X, E, e', G, h => by
    cases e' <;> first | exact Bool.noConfusion (show false = true from h) | skip
    rename_i a' o' b' p
    obtain ⟨h, h3⟩ := and_iff.mp (show (decide (o.op = o') && chk T Δ ht N .brw a sc a' && chk T Δ ht N .brw b sc b') = true from h)
    obtain ⟨h1, h2⟩ := and_iff.mp h
    cases of_decide_eq_true h1
    exact Jd.ofV (q_bin (op_bin o) (chk_ok a .brw sc X E a' G h2) (chk_ok b .brw sc X E b' G h3)) rfl
  | .cmp o a b, md, sc, X, E, e', G, h => by
    cases e' <;> first | exact Bool.noConfusion (show false = true from h) | skip
    rename_i a' os bs p
    match os, bs, h with
    | [o'], [b'], h =>
      obtain ⟨h, h4⟩ := and_iff.mp (show (decide (o.op = o') && chk T Δ ht N .brw a sc a' && chk T Δ ht N .brw b sc b' && setB b') = true from h)
      obtain ⟨h, h3⟩ := and_iff.mp h
      obtain ⟨h1, h2⟩ := and_iff.mp h
      cases of_decide_eq_true h1
      have ha := chk_ok a .brw sc X E a' G h2
      have hb := chk_ok b .brw sc X E b' G h3
      have hv := q_cmp (pos := p) (op_cmp G.un o) ha hb (noMarks h4 _)
      cases md with
      | val => exact hv
      | brw => exact PE.toB hv
      | tst => exact ⟨t_cmp (op_cmp G.un o) ha hb (noMarks h4 _), fun z => Bool.noConfusion (show false = true from z)⟩
  | .chn o1 o2 a b c, md, sc, X, E, e', G, h => by
    cases e' <;> first | exact Bool.noConfusion (show false = true from h) | skip
    rename_i a' os bs p
    match os, bs, h with
    | [p1, p2], [b', c'], h =>
      obtain ⟨h, h7⟩ := and_iff.mp (show (decide (o1.op = p1) && decide (o2.op = p2) && chk T Δ ht N .brw a sc a' && chk T Δ ht N .brw b sc b' && chk T Δ ht N .brw c sc c' && setB b' && setB c') = true from h)
      obtain ⟨h, h6⟩ := and_iff.mp h
      obtain ⟨h, h5⟩ := and_iff.mp h
      obtain ⟨h, h4⟩ := and_iff.mp h
      obtain ⟨h, h3⟩ := and_iff.mp h
      obtain ⟨h1, h2⟩ := and_iff.mp h
      cases of_decide_eq_true h1
      cases of_decide_eq_true h2
      have ha := chk_ok a .brw sc X E a' G h3
      have hb := chk_ok b .brw sc X E b' G h4
      have hc := chk_ok c .brw sc X E c' G h5
      have hv := q_chn (pos := p) (op_cmp G.un o1) (op_cmp G.un o2) ha hb hc (noMarks2 h7 _ _)
      cases md with
      | val => exact hv
      | brw => exact PE.toB hv
      | tst => exact ⟨t_chn (op_cmp G.un o1) (op_cmp G.un o2) ha hb hc (noMarks2 h7 _ _), fun z => Bool.noConfusion (show false = true from z)⟩
  | .not a, md, sc, X, E, e', G, h => by
    cases e' <;> first | exact Bool.noConfusion (show false = true from h) | skip
    rename_i op a' p
    cases op <;> first | exact Bool.noConfusion (show false = true from h) | skip
    have ih := chk_ok a md.sub sc X E a' G h
    cases md with
    | val => exact q_not ih
    | brw => exact PE.toB (q_not ih)
    | tst => exact ⟨t_not ih.1, fun z => Bool.noConfusion (show false = true from z)⟩
  | .and a b, md, sc, X, E, e', G, h => by
    cases e' <;> first | exact Bool.noConfusion (show false = true from h) | skip
    rename_i op vs p
    cases op <;> first | exact Bool.noConfusion (show false = true from h) | skip
    match vs, h with
    | [], h => exact Bool.noConfusion (show false = true from h)
    | [_], h => exact Bool.noConfusion (show false = true from h)
    | [x, y], h =>
      obtain ⟨h1, h2⟩ := and_iff.mp (show (chk T Δ ht N md.sub a sc x && chk T Δ ht N md.sub b sc y) = true from h)
      have ha := chk_ok a md.sub sc X E x G h1
      have hb := chk_ok b md.sub sc X E y G h2
      cases md with
      | val => exact q_and2 ha hb
      | brw => exact PE.toB (q_and2 ha hb)
      | tst => exact ⟨(w_and2 ha.1 hb.1).pt, fun _ => w_and2 ha.1 hb.1⟩
    | x :: y :: z :: r, h =>
      obtain ⟨h1, h2⟩ := and_iff.mp (show (chk T Δ ht N md.sub a sc x && chk T Δ ht N md.sub b sc (.BoolOp .And (y :: z :: r) p)) = true from h)
      have ha := chk_ok a md.sub sc X E x G h1
      have hb := chk_ok b md.sub sc X E _ G h2
      cases md with
      | val => exact q_and ha hb
      | brw => exact PE.toB (q_and ha hb)
      | tst => exact ⟨(w_and ha.1 (hb.2 rfl)).pt, fun _ => w_and ha.1 (hb.2 rfl)⟩
  | .or a b, md, sc, X, E, e', G, h => by
    cases e' <;> first | exact Bool.noConfusion (show false = true from h) | skip
    rename_i op vs p
    cases op <;> first | exact Bool.noConfusion (show false = true from h) | skip
    match vs, h with
    | [], h => exact Bool.noConfusion (show false = true from h)
    | [_], h => exact Bool.noConfusion (show false = true from h)
    | [x, y], h =>
      obtain ⟨h1, h2⟩ := and_iff.mp (show (chk T Δ ht N md.sub a sc x && chk T Δ ht N md.sub b sc y) = true from h)
      have ha := chk_ok a md.sub sc X E x G h1
      have hb := chk_ok b md.sub sc X E y G h2
      cases md with
      | val => exact q_or2 ha hb
      | brw => exact PE.toB (q_or2 ha hb)
      | tst => exact ⟨(w_or2 ha.1 hb.1).pt, fun _ => w_or2 ha.1 hb.1⟩
    | x :: y :: z :: r, h =>
      obtain ⟨h1, h2⟩ := and_iff.mp (show (chk T Δ ht N md.sub a sc x && chk T Δ ht N md.sub b sc (.BoolOp .Or (y :: z :: r) p)) = true from h)
      have ha := chk_ok a md.sub sc X E x G h1
      have hb := chk_ok b md.sub sc X E _ G h2
      cases md with
      | val => exact q_or ha hb
      | brw => exact PE.toB (q_or ha hb)
      | tst => exact ⟨(w_or ha.1 (hb.2 rfl)).pt, fun _ => w_or ha.1 (hb.2 rfl)⟩
  | .ife c a b, md, sc, X, E, e', G, h => by
    cases e' <;> first | exact Bool.noConfusion (show false = true from h) | skip
    rename_i c' a' b' p
    obtain ⟨h, h4⟩ := and_iff.mp (show (!md.isT && chk T Δ ht N .tst c sc c' && chk T Δ ht N .val a sc a' && chk T Δ ht N .val b sc b') = true from h)
    obtain ⟨h, h3⟩ := and_iff.mp h
    obtain ⟨h1, h2⟩ := and_iff.mp h
    exact Jd.ofB (by simpa using h1) (q_ife (chk_ok c .tst sc X E c' G h2).1 (chk_ok a .val sc X E a' G h3) (chk_ok b .val sc X E b' G h4))
  | .call f es, md, sc, X, E, e', G, h => by
    cases e' <;> first | exact Bool.noConfusion (show false = true from h) | skip
    rename_i fe as kws p
    cases fe <;> first | exact Bool.noConfusion (show false = true from h) | skip
    rename_i x px
    match as, kws, h with
    | [], _, h => exact Bool.noConfusion (show false = true from h)
    | _ :: _, _ :: _, h => exact Bool.noConfusion (show false = true from h)
    | a' :: as', [], h =>
      obtain ⟨h, h6⟩ := and_iff.mp (show (!ht && glB sc x && nameB x && decide (T.fns.lookup x = some f) && arB Δ f es.length && nostar (a' :: as') && chks T Δ ht N .val es sc (a' :: as')) = true from h)
      obtain ⟨h, h5⟩ := and_iff.mp h
      obtain ⟨h, h4⟩ := and_iff.mp h
      obtain ⟨h, h3⟩ := and_iff.mp h
      obtain ⟨h1, h2⟩ := and_iff.mp h
      obtain ⟨hh, h1⟩ := and_iff.mp h1
      have hh : ht = false := by simpa using hh
      obtain ⟨a, fd, ps, g1, g2, g3, g4, g5⟩ := G.fns hh x f (of_decide_eq_true h3)
      refine Jd.ofV (q_call g5 (G.room hh) (G.gl h1) g2 g3 g4 (G.tk hh) (chks_val es sc X E (a' :: as') G h6 h5) (fun ρ S ds S' he => ?_) (nameB_iff h2).1 (star_cons _ _ (nostar_cons h5).1) (nostar_any p X.env as' (nostar_cons h5).2)) rfl
      rw [evs_len es ρ S ds S' he, arB_iff h4]
  | .callv e es, md, sc, X, E, e', G, h => by
    cases e' <;> first | exact Bool.noConfusion (show false = true from h) | skip
    rename_i fe as kws p
    cases fe <;> first | exact Bool.noConfusion (show false = true from h) | skip
    rename_i fa fb fp
    match as, kws, h with
    | [], _, h => exact Bool.noConfusion (show false = true from h)
    | _ :: _, _ :: _, h => exact Bool.noConfusion (show false = true from h)
    | a' :: as', [], h =>
      obtain ⟨h, h4⟩ := and_iff.mp (show (!ht && nostar (a' :: as') && chk T Δ ht N .val e sc (.Subscript fa fb fp) && chks T Δ ht N .val es sc (a' :: as')) = true from h)
      obtain ⟨h, h3⟩ := and_iff.mp h
      obtain ⟨hh, h5⟩ := and_iff.mp h
      have hh : ht = false := by simpa using hh
      exact Jd.ofV (q_callv (Γ := sem Δ k) (G.fnAll hh) (G.room hh) (G.tk hh) (chk_ok e .val sc X E _ G h3) (chks_val es sc X E (a' :: as') G h4 h5) rfl (star_cons _ _ (nostar_cons h5).1) (nostar_any p X.env as' (nostar_cons h5).2)) (by rfl)
  | .isx c a, md, sc, X, E, e', G, h => by
    cases e' <;> first | exact Bool.noConfusion (show false = true from h) | skip
    rename_i fe as kws pos
    cases fe <;> first | exact Bool.noConfusion (show false = true from h) | skip
    rename_i x px
    match as, kws, h with
    | [a', .Name y py], [], h =>
      obtain ⟨h, h8⟩ := and_iff.mp (show (ht && decide (x = "isinstance") && glB sc x && decide (T.cls.lookup y = some c) && glB sc y && nameB y && nostar [a'] && chk T Δ ht N .brw a sc a') = true from h)
      obtain ⟨h, h7⟩ := and_iff.mp h
      obtain ⟨h, h6⟩ := and_iff.mp h
      obtain ⟨h, h5⟩ := and_iff.mp h
      obtain ⟨h, h4⟩ := and_iff.mp h
      obtain ⟨h, h3⟩ := and_iff.mp h
      obtain ⟨h1, h2⟩ := and_iff.mp h
      cases of_decide_eq_true h2
      obtain ⟨ad, oe, yc, ce, p1, p2, p3, p4, p5, GE, l, p6, p7⟩ := G.pin h1
      obtain ⟨_, xc⟩ := p7 yc ce p3
      obtain ⟨m1, _⟩ := p7 y c (of_decide_eq_true h4)
      obtain ⟨c1, _⟩ := G.mgd.cls y c (of_decide_eq_true h4)
      exact Jd.ofV (q_isx p1 xc.ec p2 p4 p5 (xc.is _ m1) (G.gl h3) (G.bm (by decide)) (G.gl h5) c1 (nameB_iff h6).1 (chk_ok a .brw sc X E a' G h8) (star_cons _ _ (nostar_cons h7).1)) rfl
  | .isv a, md, sc, X, E, e', G, h => by
    cases e' <;> first | exact Bool.noConfusion (show false = true from h) | skip
    rename_i fe as kws pos
    cases fe <;> first | exact Bool.noConfusion (show false = true from h) | skip
    rename_i x px
    match as, kws, h with
    | [a', .Name y py], [], h =>
      obtain ⟨h, h7⟩ := and_iff.mp (show (ht && decide (x = "isinstance") && glB sc x && decide (y = "ValueError") && glB sc y && nostar [a'] && chk T Δ ht N .brw a sc a') = true from h)
      obtain ⟨h, h6⟩ := and_iff.mp h
      obtain ⟨h, h5⟩ := and_iff.mp h
      obtain ⟨h, h4⟩ := and_iff.mp h
      obtain ⟨h, h3⟩ := and_iff.mp h
      obtain ⟨h1, h2⟩ := and_iff.mp h
      cases of_decide_eq_true h2
      cases of_decide_eq_true h4
      obtain ⟨ad, oe, yc, ce, p1, p2, p3, p4, p5, GE, l, p6, p7⟩ := G.pin h1
      obtain ⟨_, xc⟩ := p7 yc ce p3
      exact Jd.ofV (q_isv p1 xc.ec p2 p4 p5 xc.iv (G.gl h3) (G.bm (by decide)) (G.gl h5) (G.bm (by decide)) (chk_ok a .brw sc X E a' G h7) (star_cons _ _ (nostar_cons h6).1)) rfl
  | .pr p es, md, sc, X, E, e', G, h => by
    cases e' <;> first | exact Bool.noConfusion (show false = true from h) | skip
    rename_i fe as kws pos
    cases fe <;> first | exact Bool.noConfusion (show false = true from h) | skip
    rename_i x px
    match as, kws, h with
    | [], _, h => exact Bool.noConfusion (show false = true from h)
    | _ :: _, _ :: _, h => exact Bool.noConfusion (show false = true from h)
    | a' :: as', [], h =>
      obtain ⟨h, h4⟩ := and_iff.mp (show (!ht && decide (p.fn = some x) && glB sc x && nostar (a' :: as') && chks T Δ ht N .brw es sc (a' :: as')) = true from h)
      obtain ⟨h, h3⟩ := and_iff.mp h
      obtain ⟨h1, h2⟩ := and_iff.mp h
      obtain ⟨hh, h1⟩ := and_iff.mp h1
      have hh : ht = false := by simpa using hh
      exact Jd.ofV (G.prim hh (of_decide_eq_true h1) (G.gl h2) h3 (chks_brw es sc X E (a' :: as') G h4 h3)) rfl
  | .isi t a, md, sc, X, E, e', G, h => by
    cases e' <;> first | exact Bool.noConfusion (show false = true from h) | skip
    rename_i fe as kws pos
    cases fe <;> first | exact Bool.noConfusion (show false = true from h) | skip
    rename_i x px
    match as, kws, h with
    | [a', .Name y py], [], h =>
      obtain ⟨h, h6⟩ := and_iff.mp (show (decide (x = "isinstance") && glB sc x && decide (y = t.nm) && glB sc y && nostar [a'] && chk T Δ ht N .brw a sc a') = true from h)
      obtain ⟨h, h5⟩ := and_iff.mp h
      obtain ⟨h, h4⟩ := and_iff.mp h
      obtain ⟨h, h3⟩ := and_iff.mp h
      obtain ⟨h1, h2⟩ := and_iff.mp h
      cases of_decide_eq_true h1
      cases of_decide_eq_true h3
      exact Jd.ofV (q_isi (G.gl h2) (G.bm (by decide)) (G.gl h4) (G.bm (by cases t <;> decide)) (chk_ok a .brw sc X E a' G h6) (nostar_cons h5).1) rfl
  | .mth p o a, md, sc, X, E, e', G, h => by
    match e', h with
    | .Call (.Attribute o' m ap) [a'] [] cp, h =>
      obtain ⟨h, h6⟩ := and_iff.mp (show (decide (m = p.nm) && baseB o' && nostar [a'] && (ap.endLine == cp.line) && chk T Δ ht N .brw o sc o' && chk T Δ ht N .brw a sc a') = true from h)
      obtain ⟨h, h5⟩ := and_iff.mp h
      obtain ⟨h, h4⟩ := and_iff.mp h
      obtain ⟨h, h3⟩ := and_iff.mp h
      obtain ⟨h1, h2⟩ := and_iff.mp h
      have h1 := of_decide_eq_true h1
      have r1 := chk_ok o .brw sc X E o' G h5
      have r2 := chk_ok a .brw sc X E a' G h6
      cases p with
      | strip =>
        cases h1
        exact Jd.ofV (q_strip r1 r2 (mcall h2 h3 h4)) rfl
      | cnt =>
        cases h1
        exact Jd.ofV (q_cnt r1 r2 (mcall h2 h3 h4)) rfl
      | idx =>
        cases h1
        exact Jd.ofV (q_lix r1 r2 (mcall h2 h3 h4)) rfl
  | .sget a, md, sc, X, E, e', G, h => by
    cases e' <;> first | exact Bool.noConfusion (show false = true from h) | skip
    rename_i fe as kws cp
    cases fe <;> first | exact Bool.noConfusion (show false = true from h) | skip
    rename_i o' m ap
    cases o' <;> first | exact Bool.noConfusion (show false = true from h) | skip
    · rename_i ks vs dp
      match as, kws, h with
      | [a', .Constant (.int z) j pz], [], h =>
        obtain ⟨h, h6⟩ := and_iff.mp (show (szB ks vs && decide (m = "get") && decide (z = 0) && nostar [a'] && (ap.endLine == cp.line) && chk T Δ ht N .brw a sc a') = true from h)
        obtain ⟨h, h5⟩ := and_iff.mp h
        obtain ⟨h, h4⟩ := and_iff.mp h
        obtain ⟨h, h3⟩ := and_iff.mp h
        obtain ⟨h1, h2⟩ := and_iff.mp h
        cases of_decide_eq_true h2
        cases of_decide_eq_true h3
        obtain ⟨j1, j2, j3, p1, p2, p3, i1, i2, i3, q1, q2, q3, rfl, rfl⟩ := szB_inv h1
        exact Jd.ofV (q_dget G.un (chk_ok a .brw sc X E a' G h6) (by rw [star_cons _ _ (nostar_cons h4).1]; rfl) h5) rfl
    · rename_i x px
      match as, kws, h with
      | [a', .Constant (.int z) j pz], [], h =>
        obtain ⟨h, h7⟩ := and_iff.mp (show (decide (x = "SIZES") && decide (m = "get") && decide (z = 0) && glB sc x && nostar [a'] && (ap.endLine == cp.line) && chk T Δ ht N .brw a sc a') = true from h)
        obtain ⟨h, h6⟩ := and_iff.mp h
        obtain ⟨h, h5⟩ := and_iff.mp h
        obtain ⟨h, h4⟩ := and_iff.mp h
        obtain ⟨h, h3⟩ := and_iff.mp h
        obtain ⟨h1, h2⟩ := and_iff.mp h
        cases of_decide_eq_true h1
        cases of_decide_eq_true h2
        cases of_decide_eq_true h3
        obtain ⟨d, m1, m2⟩ := G.mgd.szs
        exact Jd.ofV (q_sget m2 (G.gl h4) m1 (chk_ok a .brw sc X E a' G h7) (by rw [star_cons _ _ (nostar_cons h5).1]; rfl) h6) rfl
  | .sset a, md, sc, X, E, e', G, h => by
    match e', h with
    | .Call (.Name x px) [.Call (.Name y py) [a'] [] q] [] p, h =>
      obtain ⟨h, h6⟩ := and_iff.mp (show (!ht && decide (x = "sorted") && decide (y = "set") && glB sc x && glB sc y && nostar [a'] && chk T Δ ht N .brw a sc a') = true from h)
      obtain ⟨h, h5⟩ := and_iff.mp h
      obtain ⟨h, h4⟩ := and_iff.mp h
      obtain ⟨h, h3⟩ := and_iff.mp h
      obtain ⟨h1, h2⟩ := and_iff.mp h
      obtain ⟨hh, h1⟩ := and_iff.mp h1
      have hh : ht = false := by simpa using hh
      cases of_decide_eq_true h1
      cases of_decide_eq_true h2
      exact Jd.ofV (q_sset (G.calm hh) (G.gl h3) (G.bm (by decide)) (G.gl h4) (G.bm (by decide)) (chk_ok a .brw sc X E a' G h6) (star1 X.env h5)) rfl
  | .lset a, md, sc, X, E, e', G, h => by
    match e', h with
    | .Call (.Name x px) [.Call (.Name y py) [a'] [] q] [] p, h =>
      obtain ⟨h, h6⟩ := and_iff.mp (show (!ht && decide (x = "len") && decide (y = "set") && glB sc x && glB sc y && nostar [a'] && chk T Δ ht N .brw a sc a') = true from h)
      obtain ⟨h, h5⟩ := and_iff.mp h
      obtain ⟨h, h4⟩ := and_iff.mp h
      obtain ⟨h, h3⟩ := and_iff.mp h
      obtain ⟨h1, h2⟩ := and_iff.mp h
      obtain ⟨hh, h1⟩ := and_iff.mp h1
      have hh : ht = false := by simpa using hh
      cases of_decide_eq_true h1
      cases of_decide_eq_true h2
      exact Jd.ofV (q_lset G.un (G.calm hh) (G.gl h3) (G.bm (by decide)) (G.gl h4) (G.bm (by decide)) (chk_ok a .brw sc X E a' G h6) (star1 X.env h5)) rfl
  | .idx a b, md, sc, X, E, e', G, h => by
    cases e' <;> first | exact Bool.noConfusion (show false = true from h) | skip
    rename_i a' b' p
    obtain ⟨h, h3⟩ := and_iff.mp (show (chk T Δ ht N .brw a sc a' && chk T Δ ht N .brw b sc b' && plainB b') = true from h)
    obtain ⟨h1, h2⟩ := and_iff.mp h
    exact Jd.ofV (q_idx G.un (chk_ok a .brw sc X E a' G h1) (chk_ok b .brw sc X E b' G h2) (plain_ix h3)) rfl
  | .sl a lo hi, md, sc, X, E, e', G, h => by
    cases e' <;> first | exact Bool.noConfusion (show false = true from h) | skip
    rename_i a' b' p
    cases b' <;> first | exact Bool.noConfusion (show false = true from h) | skip
    rename_i lo' hi' step ps
    cases step with
    | some _ => exact Bool.noConfusion (show false = true from h)
    | none =>
      obtain ⟨h, h3⟩ := and_iff.mp (show (chk T Δ ht N .brw a sc a' && chko T Δ ht N lo sc lo' && chko T Δ ht N hi sc hi') = true from h)
      obtain ⟨h1, h2⟩ := and_iff.mp h
      exact Jd.ofV (q_sl (chk_ok a .brw sc X E a' G h1) (chko_ok lo sc X E lo' G h2) (chko_ok hi sc X E hi' G h3)) rfl
  | .rev a, md, sc, X, E, e', G, h => by
    cases e' <;> first | exact Bool.noConfusion (show false = true from h) | skip
    rename_i a' b' p
    cases b' <;> first | exact Bool.noConfusion (show false = true from h) | skip
    rename_i lo' hi' step ps
    match lo', hi', step, h with
    | none, none, some st, h =>
      obtain ⟨h1, h2⟩ := and_iff.mp (show (neg1B st && chk T Δ ht N .brw a sc a') = true from h)
      obtain ⟨k, p1, p2, rfl⟩ := neg1B_inv h1
      exact Jd.ofV (q_rev (chk_ok a .brw sc X E a' G h2)) rfl
  | .comp elt t it c, md, sc, X, E, e', G, h => by
    cases e' <;> first | exact Bool.noConfusion (show false = true from h) | skip
    rename_i elt' gens scope p
    match gens, h with
    | [], h => exact Bool.noConfusion (show false = true from h)
    | ⟨_, _, _, _⟩ :: _ :: _, h => exact Bool.noConfusion (show false = true from h)
    | [⟨tg, it', ifs, n⟩], h =>
      obtain ⟨h, h7⟩ := and_iff.mp (show (!ht && decide (n = 0) && blkC N sc scope (ownOf N t) && chkTg N scope t tg && chki T Δ ht N .brw it sc tg it' && chkc T Δ ht N c scope ifs && chk T Δ ht N .val elt scope elt' && setB it') = true from h)
      obtain ⟨h, h6⟩ := and_iff.mp h
      obtain ⟨h, h5⟩ := and_iff.mp h
      obtain ⟨h, h4⟩ := and_iff.mp h
      obtain ⟨h, h3⟩ := and_iff.mp h
      obtain ⟨h1, h2⟩ := and_iff.mp h
      obtain ⟨hh, h1⟩ := and_iff.mp h1
      have hh : ht = false := by simpa using hh
      cases of_decide_eq_true h1
      have hk : scope.kind = .function := (blkOk_by h2).kind
      have e1 : ev (sem Δ k) (.comp elt t it c) = mComp (iter (sem Δ k) it) t (ev (sem Δ k) elt) (c.map (ev (sem Δ k))) := by cases c <;> rfl
      rw [e1]
      refine Jd.ofV (PE.ofF (f_comp (G.calm hh) (by rw [G.hN]; exact G.nd) (chki_brw it sc X E tg it' G h4) (G.blkOk h2) (by unfold ownOf; rw [List.map_map]; exact List.map_id _) (fun s H C cl fp => (G.blk hh hk s H C cl fp).tg hh t tg h3) (fun s H C cl fp => ?_) (fun s H C cl fp => chk_ok elt .val scope _ EF elt' (G.blk hh hk s H C cl fp) h6) (folded h7 X.env))) rfl
      exact chkc_ok c scope _ EF ifs (G.blk hh hk s H C cl fp) h5
  | .tlen a, md, sc, X, E, e', G, h => by
    cases e' <;> first | exact Bool.noConfusion (show false = true from h) | skip
    rename_i fe as kws pos
    cases fe <;> first | exact Bool.noConfusion (show false = true from h) | skip
    rename_i x px
    match as, kws, h with
    | [a'], [], h =>
      obtain ⟨h, h4⟩ := and_iff.mp (show (decide (x = "len") && glB sc x && nostar [a'] && chk T Δ ht N .val a sc a') = true from h)
      obtain ⟨h, h3⟩ := and_iff.mp h
      obtain ⟨h1, h2⟩ := and_iff.mp h
      cases of_decide_eq_true h1
      exact Jd.ofV (q_tlen (G.gl h2) (G.bm (by decide)) (chk_ok a .val sc X E a' G h4) (star_cons _ _ (nostar_cons h3).1)) rfl
  | .dnew, md, sc, X, E, e', G, h => by
    match e', h with
    | .Dict [] [] p, h => exact Jd.ofV (PE.ofF f_dnew) rfl
  | .dic1 k1 v1, md, sc, X, E, e', G, h => by
    match e', h with
    | .Dict [some k'] [v'] p, h =>
      obtain ⟨h1, h2⟩ := and_iff.mp (show (chk T Δ ht N .val k1 sc k' && chk T Δ ht N .val v1 sc v') = true from h)
      exact Jd.ofV (PE.ofF (f_dic1 G.un (chk_ok k1 .val sc X E k' G h1) (chk_ok v1 .val sc X E v' G h2))) rfl
  | .dget d1 k1 x1, md, sc, X, E, e', G, h => by
    match e', h with
    | .Call (.Attribute d' m ap) [k', x'] [] cp, h =>
      obtain ⟨h, h7⟩ := and_iff.mp (show (decide (m = "get") && baseB d' && nostar [k', x'] && (ap.endLine == cp.line) && chk T Δ ht N .brw d1 sc d' && chk T Δ ht N .val k1 sc k' && chk T Δ ht N .val x1 sc x') = true from h)
      obtain ⟨h, h6⟩ := and_iff.mp h
      obtain ⟨h, h5⟩ := and_iff.mp h
      obtain ⟨h, h4⟩ := and_iff.mp h
      obtain ⟨h, h3⟩ := and_iff.mp h
      obtain ⟨h1, h2⟩ := and_iff.mp h
      cases of_decide_eq_true h1
      exact Jd.ofV (q_dget2 G.un (chk_ok d1 .brw sc X E d' G h5) (chk_ok k1 .val sc X E k' G h6) (chk_ok x1 .val sc X E x' G h7) (mcall2 h2 h3 h4)) rfl
  | .lrng a b, md, sc, X, E, e', G, h => by
    match e', h with
    | .Call (.Name x px) [.Call (.Name y py) [a', b'] [] q] [] p, h =>
      obtain ⟨h, h7⟩ := and_iff.mp (show (!ht && decide (x = "list") && decide (y = "range") && glB sc x && glB sc y && nostar [a', b'] && chk T Δ ht N .val a sc a' && chk T Δ ht N .val b sc b') = true from h)
      obtain ⟨h, h6⟩ := and_iff.mp h
      obtain ⟨h, h5⟩ := and_iff.mp h
      obtain ⟨h, h4⟩ := and_iff.mp h
      obtain ⟨h, h3⟩ := and_iff.mp h
      obtain ⟨h1, h2⟩ := and_iff.mp h
      obtain ⟨hh, h1⟩ := and_iff.mp h1
      have hh : ht = false := by simpa using hh
      cases of_decide_eq_true h1
      cases of_decide_eq_true h2
      obtain ⟨n1, n2⟩ := nostar_cons h5
      exact Jd.ofV (q_lrng (G.calm hh) (G.gl h3) (G.bm (by decide)) (G.gl h4) (G.bm (by decide)) (chk_ok a .val sc X E a' G h6) (chk_ok b .val sc X E b' G h7) (star_cons _ _ n1) (star1 X.env n2) (nostar_any _ _ _ n2)) rfl
  | .nev, md, sc, X, E, e', G, h => by
    have h : (!md.isT) = true := h
    exact Jd.ofB (by simpa using h) q_nev
theorem chks_val : ∀ (es : List G.E) (sc : Scope) (X : Cx) (E : XK) (es' : List Expr), Gd T Δ g k ht N sc X E → chks T Δ ht N .val es sc es' = true → nostar es' = true → PA X es' (tA (cn X g) E (evs (sem Δ k) es))
  | [], sc, X, E, es', G, h, hs => by
    cases es' with
    | nil => exact a_nil
    | cons _ _ => exact Bool.noConfusion (show false = true from h)
  | e :: es, sc, X, E, es', G, h, hs => by
    cases es' with
    | nil => exact Bool.noConfusion (show false = true from h)
    | cons e' es' =>
      obtain ⟨h1, h2⟩ := and_iff.mp (show (chk T Δ ht N .val e sc e' && chks T Δ ht N .val es sc es') = true from h)
      exact a_cons (chk_ok e .val sc X E e' G h1) (chks_val es sc X E es' G h2 (nostar_cons hs).2) (star_cons _ _ (nostar_cons hs).1)
theorem chks_brw : ∀ (es : List G.E) (sc : Scope) (X : Cx) (E : XK) (es' : List Expr), Gd T Δ g k ht N sc X E → chks T Δ ht N .brw es sc es' = true → nostar es' = true → PA X es' (tAB (cn X g) E (evs (sem Δ k) es))
  | [], sc, X, E, es', G, h, hs => by
    cases es' with
    | nil => exact ab_nil
    | cons _ _ => exact Bool.noConfusion (show false = true from h)
  | e :: es, sc, X, E, es', G, h, hs => by
    cases es' with
    | nil => exact Bool.noConfusion (show false = true from h)
    | cons e' es' =>
      obtain ⟨h1, h2⟩ := and_iff.mp (show (chk T Δ ht N .brw e sc e' && chks T Δ ht N .brw es sc es') = true from h)
      exact ab_cons (chk_ok e .brw sc X E e' G h1) (chks_brw es sc X E es' G h2 (nostar_cons hs).2) (star_cons _ _ (nostar_cons hs).1)
theorem chko_ok : ∀ (o : Option G.E) (sc : Scope) (X : Cx) (E : XK) (o' : Option Expr), Gd T Δ g k ht N sc X E → chko T Δ ht N o sc o' = true → PO X o' (tO (cn X g) E (evo (sem Δ k) o))
  | none, sc, X, E, o', G, h => by
    cases o' with
    | none => exact o_none
    | some _ => exact Bool.noConfusion (show false = true from h)
  | some e, sc, X, E, o', G, h => by
    cases o' with
    | none => exact Bool.noConfusion (show false = true from h)
    | some e' => exact o_some (chk_ok e .val sc X E e' G h)
theorem chkc_ok : ∀ (o : Option G.E) (sc : Scope) (X : Cx) (E : XK) (es : List Expr), Gd T Δ g k ht N sc X E → chkc T Δ ht N o sc es = true → PTs X es (ttOf (cn X g) E (o.map (ev (sem Δ k))))
  | none, sc, X, E, es, G, h => by
    cases es with
    | nil => exact pts_nil
    | cons _ _ => exact Bool.noConfusion (show false = true from h)
  | some e, sc, X, E, es, G, h => by
    match es, h with
    | [], h => exact Bool.noConfusion (show false = true from h)
    | _ :: _ :: _, h => exact Bool.noConfusion (show false = true from h)
    | [e'], h => exact pts_one (chk_ok e .tst sc X E e' G h).1
theorem chki_brw : ∀ (it : G.It) (sc : Scope) (X : Cx) (E : XK) (tg e' : Expr), Gd T Δ g k ht N sc X E → chki T Δ ht N .brw it sc tg e' = true → PI X tg e' (iB (cn X g) E (iter (sem Δ k) it))
  | .seq e, sc, X, E, tg, e', G, h => i_seqB (chk_ok e .brw sc X E e' G h)
  | .rng a, sc, X, E, tg, e', G, h => by
    cases e' <;> first | exact Bool.noConfusion (show false = true from h) | skip
    rename_i fe as kws pos
    cases fe <;> first | exact Bool.noConfusion (show false = true from h) | skip
    rename_i x px
    match as, kws, h with
    | [a'], [], h =>
      obtain ⟨h, h4⟩ := and_iff.mp (show (decide (x = "range") && glB sc x && nostar [a'] && chk T Δ ht N .val a sc a') = true from h)
      obtain ⟨h, h3⟩ := and_iff.mp h
      obtain ⟨h1, h2⟩ := and_iff.mp h
      cases of_decide_eq_true h1
      exact PI.toB (i_rng (G.gl h2) (G.bm (by decide)) (chk_ok a .val sc X E a' G h4) (star1 _ h3))
  | .rng2 a b, sc, X, E, tg, e', G, h => by
    cases e' <;> first | exact Bool.noConfusion (show false = true from h) | skip
    rename_i fe as kws pos
    cases fe <;> first | exact Bool.noConfusion (show false = true from h) | skip
    rename_i x px
    match as, kws, h with
    | [a', b'], [], h =>
      obtain ⟨h, h5⟩ := and_iff.mp (show (decide (x = "range") && glB sc x && nostar [a', b'] && chk T Δ ht N .val a sc a' && chk T Δ ht N .val b sc b') = true from h)
      obtain ⟨h, h4⟩ := and_iff.mp h
      obtain ⟨h, h3⟩ := and_iff.mp h
      obtain ⟨h1, h2⟩ := and_iff.mp h
      cases of_decide_eq_true h1
      have s2 := star1 X.env (nostar_cons h3).2
      exact PI.toB (i_rng2 (G.gl h2) (G.bm (by decide)) (chk_ok a .val sc X E a' G h4) (chk_ok b .val sc X E b' G h5) (by rw [star_cons _ _ (nostar_cons h3).1, s2]) s2)
  | .enm a, sc, X, E, tg, e', G, h => by
    cases tg <;> first | exact Bool.noConfusion (show false = true from h) | skip
    cases e' <;> first | exact Bool.noConfusion (show false = true from h) | skip
    rename_i fe as kws pos
    cases fe <;> first | exact Bool.noConfusion (show false = true from h) | skip
    rename_i x px
    match as, kws, h with
    | [a'], [], h =>
      obtain ⟨h, h4⟩ := and_iff.mp (show (decide (x = "enumerate") && glB sc x && nostar [a'] && chk T Δ ht N .val a sc a') = true from h)
      obtain ⟨h, h3⟩ := and_iff.mp h
      obtain ⟨h1, h2⟩ := and_iff.mp h
      cases of_decide_eq_true h1
      exact PI.toB (i_enm (G.gl h2) (G.bm (by decide)) (chk_ok a .val sc X E a' G h4) (star1 _ h3))
  | .zip2 a b, sc, X, E, tg, e', G, h => by
    cases tg <;> first | exact Bool.noConfusion (show false = true from h) | skip
    cases e' <;> first | exact Bool.noConfusion (show false = true from h) | skip
    rename_i fe as kws pos
    cases fe <;> first | exact Bool.noConfusion (show false = true from h) | skip
    rename_i x px
    match as, kws, h with
    | [a', b'], [], h =>
      obtain ⟨h, h5⟩ := and_iff.mp (show (decide (x = "zip") && glB sc x && nostar [a', b'] && chk T Δ ht N .val a sc a' && chk T Δ ht N .val b sc b') = true from h)
      obtain ⟨h, h4⟩ := and_iff.mp h
      obtain ⟨h, h3⟩ := and_iff.mp h
      obtain ⟨h1, h2⟩ := and_iff.mp h
      cases of_decide_eq_true h1
      have s2 := star1 X.env (nostar_cons h3).2
      exact PI.toB (i_z2 (G.gl h2) (G.bm (by decide)) (chk_ok a .val sc X E a' G h4) (chk_ok b .val sc X E b' G h5) (star_cons _ _ (nostar_cons h3).1) s2 (nostar_any pos X.env _ (nostar_cons h3).2))
  | .zip3 a b c, sc, X, E, tg, e', G, h => by
    cases tg <;> cases e' <;> exact Bool.noConfusion (show false = true from h)
theorem chki_val : ∀ (it : G.It) (sc : Scope) (X : Cx) (E : XK) (tg e' : Expr), Gd T Δ g k ht N sc X E → chki T Δ ht N .val it sc tg e' = true → PI X tg e' (iS (cn X g) E (iter (sem Δ k) it))
  | .seq e, sc, X, E, tg, e', G, h => i_seq (chk_ok e .val sc X E e' G h)
  | .rng a, sc, X, E, tg, e', G, h => by
    cases e' <;> first | exact Bool.noConfusion (show false = true from h) | skip
    rename_i fe as kws pos
    cases fe <;> first | exact Bool.noConfusion (show false = true from h) | skip
    rename_i x px
    match as, kws, h with
    | [a'], [], h =>
      obtain ⟨h, h4⟩ := and_iff.mp (show (decide (x = "range") && glB sc x && nostar [a'] && chk T Δ ht N .val a sc a') = true from h)
      obtain ⟨h, h3⟩ := and_iff.mp h
      obtain ⟨h1, h2⟩ := and_iff.mp h
      cases of_decide_eq_true h1
      exact i_rng (G.gl h2) (G.bm (by decide)) (chk_ok a .val sc X E a' G h4) (star1 _ h3)
  | .rng2 a b, sc, X, E, tg, e', G, h => by
    cases e' <;> first | exact Bool.noConfusion (show false = true from h) | skip
    rename_i fe as kws pos
    cases fe <;> first | exact Bool.noConfusion (show false = true from h) | skip
    rename_i x px
    match as, kws, h with
    | [a', b'], [], h =>
      obtain ⟨h, h5⟩ := and_iff.mp (show (decide (x = "range") && glB sc x && nostar [a', b'] && chk T Δ ht N .val a sc a' && chk T Δ ht N .val b sc b') = true from h)
      obtain ⟨h, h4⟩ := and_iff.mp h
      obtain ⟨h, h3⟩ := and_iff.mp h
      obtain ⟨h1, h2⟩ := and_iff.mp h
      cases of_decide_eq_true h1
      have s2 := star1 X.env (nostar_cons h3).2
      exact i_rng2 (G.gl h2) (G.bm (by decide)) (chk_ok a .val sc X E a' G h4) (chk_ok b .val sc X E b' G h5) (by rw [star_cons _ _ (nostar_cons h3).1, s2]) s2
  | .enm a, sc, X, E, tg, e', G, h => by
    cases tg <;> first | exact Bool.noConfusion (show false = true from h) | skip
    cases e' <;> first | exact Bool.noConfusion (show false = true from h) | skip
    rename_i fe as kws pos
    cases fe <;> first | exact Bool.noConfusion (show false = true from h) | skip
    rename_i x px
    match as, kws, h with
    | [a'], [], h =>
      obtain ⟨h, h4⟩ := and_iff.mp (show (decide (x = "enumerate") && glB sc x && nostar [a'] && chk T Δ ht N .val a sc a') = true from h)
      obtain ⟨h, h3⟩ := and_iff.mp h
      obtain ⟨h1, h2⟩ := and_iff.mp h
      cases of_decide_eq_true h1
      exact i_enm (G.gl h2) (G.bm (by decide)) (chk_ok a .val sc X E a' G h4) (star1 _ h3)
  | .zip2 a b, sc, X, E, tg, e', G, h => by
    cases tg <;> first | exact Bool.noConfusion (show false = true from h) | skip
    cases e' <;> first | exact Bool.noConfusion (show false = true from h) | skip
    rename_i fe as kws pos
    cases fe <;> first | exact Bool.noConfusion (show false = true from h) | skip
    rename_i x px
    match as, kws, h with
    | [a', b'], [], h =>
      obtain ⟨h, h5⟩ := and_iff.mp (show (decide (x = "zip") && glB sc x && nostar [a', b'] && chk T Δ ht N .val a sc a' && chk T Δ ht N .val b sc b') = true from h)
      obtain ⟨h, h4⟩ := and_iff.mp h
      obtain ⟨h, h3⟩ := and_iff.mp h
      obtain ⟨h1, h2⟩ := and_iff.mp h
      cases of_decide_eq_true h1
      have s2 := star1 X.env (nostar_cons h3).2
      exact i_z2 (G.gl h2) (G.bm (by decide)) (chk_ok a .val sc X E a' G h4) (chk_ok b .val sc X E b' G h5) (star_cons _ _ (nostar_cons h3).1) s2 (nostar_any pos X.env _ (nostar_cons h3).2)
  | .zip3 a b c, sc, X, E, tg, e', G, h => by
    cases tg <;> cases e' <;> exact Bool.noConfusion (show false = true from h)
end
end
end G
/-! G19: how arguments come to parameters. -/
namespace G
open PySem L2
theorem zip_look {α : Type} : ∀ (ps : List Str) (us : List α), ps.length ≤ us.length → ∀ n ∈ ps, ((ps.zip us).lookup n).isSome = true
  | [], _, _, n, h => by simp at h
  | p :: ps, [], hl, _, _ => by simp at hl
  | p :: ps, u :: us, hl, n, h => by
    rw [List.zip_cons_cons, List.lookup_cons]
    by_cases e : (n == p) = true
    · rw [e]; rfl
    · have e : (n == p) = false := by simpa using e
      rw [e]
      refine zip_look ps us (by simpa using hl) n ?_
      rcases List.mem_cons.mp h with z | z
      · rw [z] at e; simp at e
      · exact z
theorem look_skip {α : Type} {p : Str} {u : α} {l : List (Str × α)} : ∀ ps : List Str, p ∉ ps → (ps.filterMap fun n => (((p, u) :: l).lookup n).map (n, ·)) = ps.filterMap fun n => (l.lookup n).map (n, ·)
  | [], _ => rfl
  | n :: ps, h => by
    have hne : n ≠ p := fun z => h (by simp [z])
    have e : (n == p) = false := by simpa using hne
    rw [List.filterMap_cons, List.filterMap_cons, List.lookup_cons, e, look_skip ps fun z => h (by simp [z])]
theorem zip_all {α : Type} : ∀ (ps : List Str) (us : List α), ps.Nodup → ps.length = us.length → (ps.filterMap fun n => ((ps.zip us).lookup n).map (n, ·)) = ps.zip us
  | [], _, _, _ => by simp
  | p :: ps, [], _, hl => by simp at hl
  | p :: ps, u :: us, hn, hl => by
    obtain ⟨h1, h2⟩ := List.nodup_cons.mp hn
    rw [List.zip_cons_cons, List.filterMap_cons, List.lookup_cons, beq_self_eq_true]
    dsimp only [Option.map_some]
    rw [look_skip ps h1, zip_all ps us h2 (by simpa using hl)]
theorem binds_simple {x qual : Str} {as : List Arg} {body : List Stmt} {scope : Scope} {kV doc pm : Value} {an : Option Addr} {cdv ct : Value} {us : List Value} (hn : (as.map (·.arg)).Nodup) (hl : us.length = (as.map (·.arg)).length) :
    bindArgs (PySem.W.fnOf x qual ⟨[], as, none, [], [], none, []⟩ body scope .none kV doc pm an cdv ct) ⟨us, []⟩ = pure ((as.map (·.arg)).zip us) := by
  generalize hps : as.map (·.arg) = ps at *
  have hz := zip_look ps us (by omega)
  have hm : (ps.filter fun n => (List.lookup n (ps.zip us)).isNone) = [] := by
    rw [List.filter_eq_nil_iff]
    intro n hn
    have := hz n hn
    simp [Option.isSome_iff_ne_none] at this ⊢
    exact this
  have hgt : ¬ us.length > ps.length := by omega
  have h0 : (seqItems? Value.none : Sem (Option (Array Value))) = pure none := rfl
  have hd : decide (us.length > ps.length) = false := decide_eq_false hgt
  unfold bindArgs PySem.W.fnOf
  simp only [hps, List.map_nil, List.nil_append, List.append_nil, h0, pure_bind, List.forIn_nil, Option.getD_none, List.length_nil, Nat.zero_sub, List.drop_nil, Nat.sub_zero, List.take_length, hm, hd, List.isEmpty_nil, Bool.not_true, Bool.false_eq_true, if_false, Bool.false_and, List.drop_length, List.zip_nil_left, List.zip_nil_right, zip_all ps us hn hl.symm]
end G
/-! G20: the look at statements and defs, and its soundness. -/
namespace G
open PySem L2
def compB : Expr → Bool
  | .ListComp _ _ _ _ => true
  | .SetComp _ _ _ _ => true
  | .DictComp _ _ _ _ _ => true
  | _ => false
def tupB : Expr → Bool
  | .Tuple _ _ _ => true
  | _ => false
/-- the store of a list comprehension is within its block -/
def swB (sc : Scope) (x : Str) (p : Pos) (scope : Scope) (cp : Pos) : Bool := (match sc.names.lookup x with | some .local => true | _ => false) && (p.line == cp.line) && !(scope.names.any fun (n, k) => n == x && (k == .local || k == .cell))
def nilB : Expr → Bool
  | .List [] _ => true
  | _ => false
def freshE : E → Bool
  | .lst _ => true
  | .comp _ _ _ _ => true
  | .dnew => true
  | .dic1 _ _ => true
  | .pr .lst [_] => true
  | _ => false
/-- the classes below n are all told -/
def clsB (T : Tab) (n : Nat) : Bool := (List.range n).all fun c => T.cls.any fun p => decide (T.cls.lookup p.1 = some c)
/-- return which(nm) -/
def suiteB (nm : Str) : List Stmt → Option Str
  | [.Return (some (.Call (.Name wn _) [.Name nm' _] [] _)) _] => if nm' = nm then some wn else none
  | _ => none
/-- except GapError as nm: return which(nm) -/
def handB (T : Tab) (N : List Str) (sc : Scope) (i w n : Nat) : List ExceptHandler → Bool
  | [.ExceptHandler (some (.Name ge _)) (some nm) su _] => (match suiteB nm su with
      | some wn => decide (N[i]? = some nm) && (match sc.names.lookup nm with | some .local => true | _ => false) && nameB nm && decide (ge = "GapError") && glB sc ge && glB sc wn && nameB wn && decide (T.hot.lookup wn = some w) && clsB T n
      | none => false)
  | _ => false
theorem suiteB_inv {nm wn : Str} {su : List Stmt} (h : suiteB nm su = some wn) : ∃ p1 p2 p3 p4, su = [.Return (some (.Call (.Name wn p1) [.Name nm p2] [] p3)) p4] := by
  unfold suiteB at h
  split at h
  · split at h
    · rename_i e
      cases h
      subst e
      exact ⟨_, _, _, _, rfl⟩
    · cases h
  · cases h
theorem handB_inv {T : Tab} {N : List Str} {sc : Scope} {i w n : Nat} {hs : List ExceptHandler} (h : handB T N sc i w n hs = true) :
    ∃ (nm wn : Str) (gp p1 p2 p3 p4 p5 : Pos), hs = [.ExceptHandler (some (.Name "GapError" gp)) (some nm) [.Return (some (.Call (.Name wn p1) [.Name nm p2] [] p3)) p4] p5] ∧ N[i]? = some nm ∧ sc.names.lookup nm = some .local ∧ nameB nm = true ∧ glB sc "GapError" = true ∧ glB sc wn = true ∧ nameB wn = true ∧ T.hot.lookup wn = some w ∧ clsB T n = true := by
  unfold handB at h
  split at h
  · split at h
    · rename_i hsu
      obtain ⟨p1, p2, p3, p4, rfl⟩ := suiteB_inv hsu
      simp only [Bool.and_eq_true, decide_eq_true_eq] at h
      obtain ⟨⟨⟨⟨⟨⟨⟨⟨h1, h2⟩, h3⟩, h4⟩, h5⟩, h6⟩, h7⟩, h8⟩, h9⟩ := h
      subst h4
      refine ⟨_, _, _, p1, p2, p3, p4, _, rfl, h1, ?_, h3, h5, h6, h7, h8, h9⟩
      split at h2
      · assumption
      · cases h2
    · cases h
  · cases h
/-- the new statements, taken apart -/
def whlP : Stmt → Option (Expr × List Stmt × Pos)
  | .While c b [] p => some (c, b, p)
  | _ => none
theorem whlP_inv {st : Stmt} {q : Expr × List Stmt × Pos} (h : whlP st = some q) : st = .While q.1 q.2.1 [] q.2.2 := by
  unfold whlP at h
  split at h
  · cases h; rfl
  · cases h
def popP : Stmt → Option (Expr × Str × Pos × Str × Pos × Pos × Pos)
  | .Assign [tg] (.Call (.Attribute (.Name x px) m ap) [] [] cp) p => some (tg, x, px, m, ap, cp, p)
  | _ => none
theorem popP_inv {st : Stmt} {q : Expr × Str × Pos × Str × Pos × Pos × Pos} (h : popP st = some q) : st = .Assign [q.1] (.Call (.Attribute (.Name q.2.1 q.2.2.1) q.2.2.2.1 q.2.2.2.2.1) [] [] q.2.2.2.2.2.1) q.2.2.2.2.2.2 := by
  unfold popP at h
  split at h
  · cases h; rfl
  · cases h
def putP : Stmt → Option (Str × Pos × Expr × Pos × Expr × Pos)
  | .Assign [.Subscript (.Name x px) a ps] e p => some (x, px, a, ps, e, p)
  | _ => none
theorem putP_inv {st : Stmt} {q : Str × Pos × Expr × Pos × Expr × Pos} (h : putP st = some q) : st = .Assign [.Subscript (.Name q.1 q.2.1) q.2.2.1 q.2.2.2.1] q.2.2.2.2.1 q.2.2.2.2.2 := by
  unfold putP at h
  split at h
  · cases h; rfl
  · cases h
def parP : Stmt → Option (Str × Pos × Str × Pos × Nat × Pos × Expr × Expr × Nat × Pos × Pos)
  | .Assign [.Tuple [.Name x px, .Name y py] kt pt] (.Tuple [a, b] k2 p2) p => some (x, px, y, py, kt, pt, a, b, k2, p2, p)
  | _ => none
theorem parP_inv {st : Stmt} {x y : Str} {px py pt p2 p : Pos} {kt k2 : Nat} {a b : Expr} (h : parP st = some (x, px, y, py, kt, pt, a, b, k2, p2, p)) : st = .Assign [.Tuple [.Name x px, .Name y py] kt pt] (.Tuple [a, b] k2 p2) p := by
  unfold parP at h
  split at h
  · cases h; rfl
  · cases h
def catP : Stmt → Option (Expr × Expr × Operator × Expr × Pos × Pos)
  | .Assign [tg] (.BinOp a o b bp) p => some (tg, a, o, b, bp, p)
  | _ => none
theorem catP_inv {st : Stmt} {q : Expr × Expr × Operator × Expr × Pos × Pos} (h : catP st = some q) : st = .Assign [q.1] (.BinOp q.2.1 q.2.2.1 q.2.2.2.1 q.2.2.2.2.1) q.2.2.2.2.2 := by
  unfold catP at h
  split at h
  · cases h; rfl
  · cases h
section
variable (T : Tab) (Δ : Nat → Option FDef) (ht : Bool) (N : List Str)
mutual
def chkS : S → Scope → Stmt → Bool
  | .asg t e, sc, .Assign [tg] e' _ => chkTg N sc t tg && chk T Δ ht N .val e sc e' && (match t with
      | .nm _ => !compB e' || freshE e
      | .tp _ => !compB e' && !tupB e' && !ht)
  | .own i e, sc, .Assign [tg] e' _ => chkTg N sc (.nm i) tg && chk T Δ ht N .val e sc e' && freshE e
  | .app i e, sc, .Expr (.Call (.Attribute (.Name x _) m ap) [e'] [] cp) _ => varB N sc i x && decide (m = "append") && nostar [e'] && (ap.endLine == cp.line) && chk T Δ ht N .val e sc e'
  | .ext i e, sc, .Expr (.Call (.Attribute (.Name x _) m ap) [e'] [] cp) _ => varB N sc i x && decide (m = "extend") && nostar [e'] && (ap.endLine == cp.line) && chk T Δ ht N .val e sc e'
  | .ret e, sc, .Return (some e') _ => chk T Δ ht N .val e sc e'
  | .ite c a b, sc, .If c' a' b' _ => chk T Δ ht N .tst c sc c' && chkSs a sc a' && chkSs b sc b'
  | .for_ t it b, sc, .For tg it' b' [] _ => !ht && chkTg N sc t tg && chki T Δ ht N .val it sc tg it' && chkSs b sc b' && setB it'
  | .raise c, sc, .Raise (some (.Call (.Name x _) [.Constant (.str _) _ _] [] _)) none _ => !ht && decide (T.cls.lookup x = some c) && glB sc x && nameB x
  | .exp e, sc, .Expr e' _ => chk T Δ ht N .val e sc e' && !compB e'
  | .cont, _, .Continue _ => true
  | .town i, sc, .Assign [tg] e' _ => chkTg N sc (.nm i) tg && nilB e'
  | .tick i, sc, .Expr (.Call (.Attribute (.Name x _) m ap) [.Constant (.int z) _ _] [] cp) _ => varB N sc i x && decide (m = "append") && decide (z = 0) && (ap.endLine == cp.line)
  | .nev, _, _ => true
  | .whl c b, sc, st => match whlP st with
    | some (c', b', _) => !ht && chk T Δ ht N .tst c sc c' && chkSs b sc b'
    | none => false
  | .pop i j, sc, st => match popP st with
    | some (tg, x, _, m, ap, cp, _) => varB N sc i x && decide (m = "pop") && (ap.endLine == cp.line) && chkTg N sc (.nm j) tg
    | none => false
  | .put i a e, sc, st => match putP st with
    | some (x, _, a', _, e', _) => varB N sc i x && chk T Δ ht N .val a sc a' && chk T Δ ht N .val e sc e' && !compB e'
    | none => false
  | .par i j a b, sc, st => match parP st with
    | some (x, px, y, py, kt, pt, a', b', k2, p2, _) => !ht && parB sc (.Tuple [.Name x px, .Name y py] kt pt) (.Tuple [a', b'] k2 p2) && decide (N[i]? = some x) && decide (N[j]? = some y) && decide (i ≠ j) && nostar [a', b'] && chks T Δ ht N .val [a, b] sc [a', b']
    | none => false
  | .ownc i a b, sc, st => match catP st with
    | some (tg, a', o', b', _, _) => decide (o' = .Add) && chkTg N sc (.nm i) tg && chk T Δ ht N .brw a sc a' && chk T Δ ht N .brw b sc b'
    | none => false
  | .tryw i w n b, sc, .Try b' hs [] [] _ => !ht && handB T N sc i w n hs && chkSs b sc b'
  | _, _, _ => false
termination_by structural s => s
def chkSs : List S → Scope → List Stmt → Bool
  | [], _, [] => true
  | .frz _ :: ss, sc, sts => chkSs ss sc sts
  | s :: ss, sc, st :: sts => chkS s sc st && chkSs ss sc sts
  | _, _, _ => false
termination_by structural s => s
end
/-- a def of the text is the small one -/
def chkF (F : FDef) : Stmt → Bool
  | .FunctionDef _ ⟨[], as, none, [], [], none, []⟩ body _ _ _ scope _ _ _ =>
    (match scope.kind with | .function => true | _ => false) && !scope.isCoroutine && !scope.isGenerator && decide (F.N.Nodup) && decide (as.length = F.ar) && decide (F.N.take F.ar = as.map (·.arg)) && decide ((as.map (·.arg)).Nodup) &&
    ((as.map (·.arg)).all fun x => locB scope x) && (scope.names.all fun y => match y.2 with | .free => false | _ => true) && chkSs T Δ ht F.N F.body scope body
  | _ => false
end
section
variable {T : Tab} {Δ : Nat → Option FDef} {g : Gi} {k : Nat} {ht : Bool} {N : List Str} {sc : Scope} {X : Cx} {E : XK}
theorem swaps_no {e : Expr} (t : Option Expr) (l : Nat) (env : Env) (h : compB e = false) : swapsWith e t l env = pure false := by
  cases e <;> first | rfl | exact Bool.noConfusion (show true = false from h)
theorem swaps_tup {e : Expr} {es : List Expr} {kk l : Nat} {p : Pos} (env : Env) : swapsWith e (some (.Tuple es kk p)) l env = pure false := by
  cases e <;> rfl
theorem swapped_no {tg e : Expr} (env : Env) (h : tupB e = false) : swappedStores [tg] e env = pure none := by
  cases tg <;> cases e <;> first | rfl | exact Bool.noConfusion (show true = false from h)
theorem swaps_comp {elt : Expr} {gs : List Comprehension} {scope : Scope} {cp p : Pos} {x : Str} {l : Nat} {env : Env} (hk : env.scope.kind = .function) (h : env.scope.names.lookup x ≠ some .local ∨ (p.line == cp.line) = false ∨ (scope.names.any fun (n, k) => n == x && (k == .local || k == .cell)) = true) :
    swapsWith (.ListComp elt gs scope cp) (some (.Name x p)) l env = pure false := by
  have hb : env.blockKind = .function := by unfold Env.blockKind; rw [hk]; rfl
  unfold swapsWith
  simp only [hb, Expr.pos]
  rcases h with h | h | h
  · have : (env.kindOf x == some NameKind.local) = false := by
      simpa [Env.kindOf] using h
    rw [this]
    simp
  · rw [h]; simp
  · rw [h]; simp
/-- name = a fresh list -/
theorem setF_lst (G : Gd T Δ g k ht N sc X E) {i : Nat} {x : Str} {p pos lp : Pos} {es' : List Expr} {m : Fr → M D} (hN : N[i]? = some x) (hl : locB sc x = true) (he : PE X (.List es' lp) (tF (cn X g) E m)) :
    PS X (.Assign [.Name x p] (.List es' lp) pos) (tAsg (tF (cn X g) E m) (gName i)) :=
  ps_set (by rw [G.hN]; exact G.nd) (by rw [G.hN]; exact hN) (G.loc hl).1 he rfl (G.loc hl).2
theorem prl_inv {a : _root_.G.E} {e' : Expr} (h : chk T Δ ht N .val (.pr .lst [a]) sc e' = true) : ∃ px a' cp, e' = .Call (.Name "list" px) [a'] [] cp ∧ ht = false ∧ glB sc "list" = true ∧ nostar [a'] = true ∧ chks T Δ ht N .brw [a] sc [a'] = true := by
  cases e' <;> first | exact Bool.noConfusion (show false = true from h) | skip
  rename_i fe as kws cp
  cases fe <;> first | exact Bool.noConfusion (show false = true from h) | skip
  rename_i xn px
  match as, kws, h with
  | [], _, h => exact Bool.noConfusion (show false = true from h)
  | _ :: _, _ :: _, h => exact Bool.noConfusion (show false = true from h)
  | a' :: a2 :: as', [], h => exact Bool.noConfusion (show false = true from (and_iff.mp (and_iff.mp (show (!ht && decide (Prim.lst.fn = some xn) && glB sc xn && nostar (a' :: a2 :: as') && chks T Δ ht N .brw [a] sc (a' :: a2 :: as')) = true from h)).2).2)
  | [a'], [], h =>
    obtain ⟨h, h4⟩ := and_iff.mp (show (!ht && decide (Prim.lst.fn = some xn) && glB sc xn && nostar [a'] && chks T Δ ht N .brw [a] sc [a']) = true from h)
    obtain ⟨h, h3⟩ := and_iff.mp h
    obtain ⟨h1, h2⟩ := and_iff.mp h
    obtain ⟨hh, h1⟩ := and_iff.mp h1
    cases Option.some.inj (of_decide_eq_true h1)
    exact ⟨px, a', cp, rfl, by simpa using hh, h2, h3, h4⟩
theorem fresh_set (G : Gd T Δ g k ht N sc X E) {i : Nat} {tg e' : Expr} {e : _root_.G.E} {pos : Pos} (hf : freshE e = true) (htg : chkTg N sc (.nm i) tg = true) (h : chk T Δ ht N .val e sc e' = true) :
    PS X (.Assign [tg] e' pos) (tAsg (tF (cn X g) E (ev (sem Δ k) e)) (gName i)) := by
  cases tg <;> first | exact Bool.noConfusion (show false = true from htg) | skip
  rename_i x p
  obtain ⟨t1, t2⟩ := and_iff.mp (show (decide (N[i]? = some x) && locB sc x) = true from htg)
  have hN := of_decide_eq_true t1
  cases e <;> first | exact Bool.noConfusion (show false = true from hf) | skip
  · rename_i es
    cases e' <;> first | exact Bool.noConfusion (show false = true from h) | skip
    rename_i es' lp
    obtain ⟨h, h3⟩ := and_iff.mp (show (chks T Δ ht N .val es sc es' && nostar es' && decide (es.length ≤ 1000)) = true from h)
    obtain ⟨h1, h2⟩ := and_iff.mp h
    refine setF_lst G hN t2 (f_lst (chks_val es sc X E es' G h1 h2) fun ρ S ds S' he => ?_)
    rw [evs_len es ρ S ds S' he, sizeLine_eq]
    have := of_decide_eq_true h3
    omega
  · rename_i pp es
    match pp, es, hf, h with
    | .lst, [a], _, h =>
      obtain ⟨px, a', cp, rfl, hh, h2, h3, h4⟩ := prl_inv h
      exact ps_set (by rw [G.hN]; exact G.nd) (by rw [G.hN]; exact hN) (G.loc t2).1 (f_list (G.calm hh) (G.gl h2) (G.bm (by decide)) (chks_brw [a] sc X E [a'] G h4 h3) (star1 X.env h3)) (swaps_no _ _ _ rfl) (G.loc t2).2
  · rename_i elt t it c
    cases e' <;> first | exact Bool.noConfusion (show false = true from h) | skip
    rename_i elt' gens scope cp
    match gens, h with
    | [], h => exact Bool.noConfusion (show false = true from h)
    | ⟨_, _, _, _⟩ :: _ :: _, h => exact Bool.noConfusion (show false = true from h)
    | [⟨tg, it', ifs, n⟩], h =>
      obtain ⟨h, h7⟩ := and_iff.mp (show (!ht && decide (n = 0) && blkC N sc scope (ownOf N t) && chkTg N scope t tg && chki T Δ ht N .brw it sc tg it' && chkc T Δ ht N c scope ifs && chk T Δ ht N .val elt scope elt' && setB it') = true from h)
      obtain ⟨h, h6⟩ := and_iff.mp h
      obtain ⟨h, h5⟩ := and_iff.mp h
      obtain ⟨h, h4⟩ := and_iff.mp h
      obtain ⟨h, h3⟩ := and_iff.mp h
      obtain ⟨h1, h2⟩ := and_iff.mp h
      obtain ⟨hh, h1⟩ := and_iff.mp h1
      have hh : ht = false := by simpa using hh
      cases of_decide_eq_true h1
      have hk : scope.kind = .function := (blkOk_by h2).kind
      have e1 : ev (sem Δ k) (.comp elt t it c) = mComp (iter (sem Δ k) it) t (ev (sem Δ k) elt) (c.map (ev (sem Δ k))) := by cases c <;> rfl
      rw [e1]
      have hown : (ownOf N t).map (·.2) = t.slots := by unfold ownOf; rw [List.map_map]; exact List.map_id _
      have nd : X.N.Nodup := by rw [G.hN]; exact G.nd
      have hNX : X.N[i]? = some x := by rw [G.hN]; exact hN
      have a1 := chki_brw it sc X E tg it' G h4
      have a2 := G.blkOk h2
      have a3 := fun (s : Shared) (H : Hp) (C : Addr) (cl : List (Str × Addr)) (fp : List Addr) => (G.blk hh hk s H C cl fp).tg hh t tg h3
      have a4 := fun (s : Shared) (H : Hp) (C : Addr) (cl : List (Str × Addr)) (fp : List Addr) => chkc_ok c scope _ EF ifs (G.blk hh hk s H C cl fp) h5
      have a5 : ∀ (s : Shared) (H : Hp) (C : Addr) (cl : List (Str × Addr)) (fp : List Addr), PE (X.blk s H scope (compEnvC scope cl C X.env) fp) elt' (tE (cn X g) EF (ev (sem Δ k) elt)) := fun s H C cl fp => chk_ok elt .val scope _ EF elt' (G.blk hh hk s H C cl fp) h6
      by_cases hsw : swB sc x p scope cp = true
      · obtain ⟨w, w3⟩ := and_iff.mp (show _ = true from hsw)
        obtain ⟨w1, w2⟩ := and_iff.mp w
        have hloc : X.env.scope.names.lookup x = some .local := by
          have : sc.names.lookup x = some .local := by
            split at w1
            · assumption
            · cases w1
          rcases G.scs x _ this with z | ⟨z, _⟩
          · exact z
          · cases z
        have hsw := sw_true (elt := elt') (gs := [⟨tg, it', ifs, 0⟩]) (scope := scope) (pos := cp) (py := p) (y := x) (l := pos.line) (env := X.env) G.kind hloc w2 (by simpa using w3)
        exact PS.imp (ps_setLc (G.calm hh) nd hNX hloc hsw a1 a2 a3 a4 a5 (folded h7 X.env)) fun D σ H q => by
          have q2 : tLc (iB (cn X g) E (iter (sem Δ k) it)) (gT X.K t) (ttOf (cn X g) EF (c.map (ev (sem Δ k)))) (tE (cn X g) EF (ev (sem Δ k) elt)) t.slots σ H (fun x H1 => gName i x σ H1 D.nx) := comp_of q
          show tLc _ _ _ _ ((ownOf N t).map (·.2)) σ H _
          rw [hown]
          exact q2
      · have hno : X.env.scope.names.lookup x ≠ some .local ∨ (p.line == cp.line) = false ∨ (scope.names.any fun (n, k) => n == x && (k == .local || k == .cell)) = true := by
          by_cases z1 : (p.line == cp.line) = true
          · by_cases z2 : (scope.names.any fun (n, k) => n == x && (k == .local || k == .cell)) = true
            · exact .inr (.inr z2)
            · refine .inl fun z => hsw ?_
              have : sc.names.lookup x = some .local := by
                rcases locB_iff t2 with q | q
                · exact q
                · rcases G.scs x _ q with y | ⟨y, _⟩
                  · rw [z] at y; cases y
                  · cases y
              unfold swB
              rw [this, z1]
              simpa using z2
          · exact .inr (.inl (by simpa using z1))
        exact ps_set nd hNX (G.loc t2).1 (f_comp (G.calm hh) nd a1 a2 hown a3 a4 a5 (folded h7 X.env)) (swaps_comp G.kind hno) (G.loc t2).2
  · match e', h with
    | .Dict [] [] dp, h => exact ps_set (by rw [G.hN]; exact G.nd) (by rw [G.hN]; exact hN) (G.loc t2).1 f_dnew (swaps_no _ _ _ rfl) (G.loc t2).2
  · rename_i k1 v1
    match e', h with
    | .Dict [some k'] [v'] dp, h =>
      obtain ⟨h1, h2⟩ := and_iff.mp (show (chk T Δ ht N .val k1 sc k' && chk T Δ ht N .val v1 sc v') = true from h)
      exact ps_set (by rw [G.hN]; exact G.nd) (by rw [G.hN]; exact hN) (G.loc t2).1 (f_dic1 G.un (chk_ok k1 .val sc X E k' G h1) (chk_ok v1 .val sc X E v' G h2)) (swaps_no _ _ _ rfl) (G.loc t2).2
set_option maxHeartbeats 4000000
theorem clsB_iff {T : Tab} {n : Nat} (h : clsB T n = true) {c : Nat} (hc : c < n) : ∃ y, T.cls.lookup y = some c := by
  unfold clsB at h
  obtain ⟨p, _, hp⟩ := List.any_eq_true.mp (List.all_eq_true.mp h c (List.mem_range.mpr hc))
  exact ⟨p.1, of_decide_eq_true hp⟩
mutual
theorem chkS_ok : ∀ (s : S) (X : Cx) (E : XK), PassesOwn (model X.prog X.w) X.A X.env X.xe → Gd T Δ g k ht N sc X E → X.stack = X.env :: X.outer → X.env.frame = some X.env.locals → ∀ (st : Stmt), chkS T Δ ht N s sc st = true → PS X st (tS (cn X g) E (ex (sem Δ k) s))
  | .asg t e, X, E, hp, G, hst, hfr, st, h => by
    cases st <;> first | exact Bool.noConfusion (show false = true from h) | skip
    rename_i tgs e' pos
    match tgs, h with
    | [], h => exact Bool.noConfusion (show false = true from h)
    | _ :: _ :: _, h => exact Bool.noConfusion (show false = true from h)
    | [tg], h =>
      cases t with
      | nm i =>
        obtain ⟨h, h3⟩ := and_iff.mp (show (chkTg N sc (.nm i) tg && chk T Δ ht N .val e sc e' && (!compB e' || freshE e)) = true from h)
        obtain ⟨h1, h2⟩ := and_iff.mp h
        by_cases hf : freshE e = true
        · have q := PS.ofF (fresh_set (pos := pos) G hf h1 h2)
          cases tg <;> first | exact Bool.noConfusion (show false = true from h1) | skip
          exact s_set q
        · have hc : compB e' = false := by
            rcases Bool.or_eq_true_iff.mp h3 with z | z
            · simpa using z
            · exact absurd z hf
          match tg, h1 with
          | .Name x p, h1 =>
          obtain ⟨t1, t2⟩ := and_iff.mp (show (decide (N[i]? = some x) && locB sc x) = true from h1)
          exact s_set (ps_set (by rw [G.hN]; exact G.nd) (by rw [G.hN]; exact of_decide_eq_true t1) (G.loc t2).1 (chk_ok e .val sc X E e' G h2) (swaps_no _ _ _ hc) (G.loc t2).2)
      | tp ts =>
        obtain ⟨h, h3⟩ := and_iff.mp (show (chkTg N sc (.tp ts) tg && chk T Δ ht N .val e sc e' && (!compB e' && !tupB e' && !ht)) = true from h)
        obtain ⟨h1, h2⟩ := and_iff.mp h
        obtain ⟨h3, hh⟩ := and_iff.mp h3
        have hh : ht = false := by simpa using hh
        obtain ⟨h3, h4⟩ := and_iff.mp h3
        have hg := G.tg hh (.tp ts) tg h1
        match tg, h1, hg with
        | .Tuple q1 q2 q3, h1, hg =>
        exact s_asg (chk_ok e .val sc X E e' G h2) hg (show swapsWith e' (some (.Tuple q1 q2 q3)) pos.line X.env = pure false from swaps_no _ _ _ (by simpa using h3)) (swapped_no X.env (by simpa using h4)) rfl
  | .own i e, X, E, hp, G, hst, hfr, st, h => by
    cases st <;> first | exact Bool.noConfusion (show false = true from h) | skip
    rename_i tgs e' pos
    match tgs, h with
    | [], h => exact Bool.noConfusion (show false = true from h)
    | _ :: _ :: _, h => exact Bool.noConfusion (show false = true from h)
    | [tg], h =>
      obtain ⟨h, h3⟩ := and_iff.mp (show (chkTg N sc (.nm i) tg && chk T Δ ht N .val e sc e' && freshE e) = true from h)
      obtain ⟨h1, h2⟩ := and_iff.mp h
      have q := fresh_set (pos := pos) G h3 h1 h2
      cases tg <;> first | exact Bool.noConfusion (show false = true from h1) | skip
      exact s_own q
  | .app i e, X, E, hp, G, hst, hfr, st, h => by
    cases st <;> first | exact Bool.noConfusion (show false = true from h) | skip
    rename_i v pos
    match v, h with
    | .Call (.Attribute (.Name x px) m ap) [e'] [] cp, h =>
      obtain ⟨h, h5⟩ := and_iff.mp (show (varB N sc i x && decide (m = "append") && nostar [e'] && (ap.endLine == cp.line) && chk T Δ ht N .val e sc e') = true from h)
      obtain ⟨h, h4⟩ := and_iff.mp h
      obtain ⟨h, h3⟩ := and_iff.mp h
      obtain ⟨h1, h2⟩ := and_iff.mp h
      cases of_decide_eq_true h2
      obtain ⟨v1, v3⟩ := and_iff.mp (show varB N sc i x = true from h1)
      obtain ⟨v1, v2⟩ := and_iff.mp v1
      obtain ⟨n1, n2, _⟩ := nameB_iff v3
      exact s_app (by rw [G.hN]; exact of_decide_eq_true v1) (G.vis v2) n1 n2 (chk_ok e .val sc X E e' G h5) (mcall rfl h3 h4)
  | .ext i e, X, E, hp, G, hst, hfr, st, h => by
    cases st <;> first | exact Bool.noConfusion (show false = true from h) | skip
    rename_i v pos
    match v, h with
    | .Call (.Attribute (.Name x px) m ap) [e'] [] cp, h =>
      obtain ⟨h, h5⟩ := and_iff.mp (show (varB N sc i x && decide (m = "extend") && nostar [e'] && (ap.endLine == cp.line) && chk T Δ ht N .val e sc e') = true from h)
      obtain ⟨h, h4⟩ := and_iff.mp h
      obtain ⟨h, h3⟩ := and_iff.mp h
      obtain ⟨h1, h2⟩ := and_iff.mp h
      cases of_decide_eq_true h2
      obtain ⟨v1, v3⟩ := and_iff.mp (show varB N sc i x = true from h1)
      obtain ⟨v1, v2⟩ := and_iff.mp v1
      obtain ⟨n1, n2, _⟩ := nameB_iff v3
      exact s_ext (by rw [G.hN]; exact of_decide_eq_true v1) (G.vis v2) n1 n2 (chk_ok e .val sc X E e' G h5) (mcall rfl h3 h4)
  | .frz i, X, E, hp, G, hst, hfr, st, h => by cases st <;> exact Bool.noConfusion (show false = true from h)
  | .ret e, X, E, hp, G, hst, hfr, st, h => by
    cases st <;> first | exact Bool.noConfusion (show false = true from h) | skip
    rename_i v pos
    cases v with
    | none => exact Bool.noConfusion (show false = true from h)
    | some e' => exact s_ret (chk_ok e .val sc X E e' G h)
  | .ite c a b, X, E, hp, G, hst, hfr, st, h => by
    cases st <;> first | exact Bool.noConfusion (show false = true from h) | skip
    rename_i c' a' b' pos
    obtain ⟨h, h3⟩ := and_iff.mp (show (chk T Δ ht N .tst c sc c' && chkSs T Δ ht N a sc a' && chkSs T Δ ht N b sc b') = true from h)
    obtain ⟨h1, h2⟩ := and_iff.mp h
    exact s_ite (chk_ok c .tst sc X E c' G h1).1 (chkSs_ok a X E hp G hst hfr a' h2) (chkSs_ok b X E hp G hst hfr b' h3)
  | .for_ t it b, X, E, hp, G, hst, hfr, st, h => by
    cases st <;> first | exact Bool.noConfusion (show false = true from h) | skip
    rename_i tg it' b' els pos
    cases els with
    | cons _ _ => exact Bool.noConfusion (show false = true from h)
    | nil =>
      obtain ⟨h, h4⟩ := and_iff.mp (show (!ht && chkTg N sc t tg && chki T Δ ht N .val it sc tg it' && chkSs T Δ ht N b sc b' && setB it') = true from h)
      obtain ⟨h, h3⟩ := and_iff.mp h
      obtain ⟨h1, h2⟩ := and_iff.mp h
      obtain ⟨hh, h1⟩ := and_iff.mp h1
      have hh : ht = false := by simpa using hh
      exact s_for hp (G.calm hh) (chki_val it sc X E tg it' G h2) (G.tg hh t tg h1) (chkSs_ok b X E hp G hst hfr b' h3) (folded h4 X.env)
  | .raise c, X, E, hp, G, hst, hfr, st, h => by
    cases st <;> first | exact Bool.noConfusion (show false = true from h) | skip
    rename_i e1 e2 pos
    match e1, e2, h with
    | some (.Call (.Name x px) [.Constant (.str m) j pm] [] pc), none, h =>
      obtain ⟨h, h3⟩ := and_iff.mp (show (!ht && decide (T.cls.lookup x = some c) && glB sc x && nameB x) = true from h)
      obtain ⟨h1, h2⟩ := and_iff.mp h
      obtain ⟨hh, h1⟩ := and_iff.mp h1
      have hh : ht = false := by simpa using hh
      obtain ⟨c1, c2, c3, c4, c5⟩ := G.mgd.cls x c (of_decide_eq_true h1)
      exact s_raise (G.calm hh) (G.tk hh) PySem.F.excBase_ValueError c2 c1 c3 (raises_own c4 c5) (G.gl h2) (nameB_iff h3).1
  | .exp e, X, E, hp, G, hst, hfr, st, h => by
    cases st <;> first | exact Bool.noConfusion (show false = true from h) | skip
    rename_i e' pos
    obtain ⟨h1, h2⟩ := and_iff.mp (show (chk T Δ ht N .val e sc e' && !compB e') = true from h)
    exact s_exp (chk_ok e .val sc X E e' G h1) (swaps_no _ _ _ (by simpa using h2))
  | .cont, X, E, hp, G, hst, hfr, st, h => by
    cases st <;> first | exact Bool.noConfusion (show false = true from h) | skip
    exact s_cont
  | .town i, X, E, hp, G, hst, hfr, st, h => by
    cases st <;> first | exact Bool.noConfusion (show false = true from h) | skip
    rename_i tgs e' pos
    match tgs, h with
    | [], h => exact Bool.noConfusion (show false = true from h)
    | _ :: _ :: _, h => exact Bool.noConfusion (show false = true from h)
    | [tg], h =>
      obtain ⟨h1, h2⟩ := and_iff.mp (show (chkTg N sc (.nm i) tg && nilB e') = true from h)
      match tg, h1 with
      | .Name x p, h1 =>
        match e', h2 with
        | .List [] lp, h2 =>
          obtain ⟨t1, t2⟩ := and_iff.mp (show (decide (N[i]? = some x) && locB sc x) = true from h1)
          exact s_town (ps_set (by rw [G.hN]; exact G.nd) (by rw [G.hN]; exact of_decide_eq_true t1) (G.loc t2).1 (pe_lst pa_nil) rfl (G.loc t2).2)
  | .tick i, X, E, hp, G, hst, hfr, st, h => by
    cases st <;> first | exact Bool.noConfusion (show false = true from h) | skip
    rename_i v pos
    match v, h with
    | .Call (.Attribute (.Name x px) m ap) [.Constant (.int z) j pz] [] cp, h =>
      obtain ⟨h, h4⟩ := and_iff.mp (show (varB N sc i x && decide (m = "append") && decide (z = 0) && (ap.endLine == cp.line)) = true from h)
      obtain ⟨h, h3⟩ := and_iff.mp h
      obtain ⟨h1, h2⟩ := and_iff.mp h
      cases of_decide_eq_true h2
      cases of_decide_eq_true h3
      obtain ⟨v1, v3⟩ := and_iff.mp (show varB N sc i x = true from h1)
      obtain ⟨v1, v2⟩ := and_iff.mp v1
      obtain ⟨n1, n2, _⟩ := nameB_iff v3
      exact s_tick (by rw [G.hN]; exact of_decide_eq_true v1) (G.vis v2) n1 n2 (mcall rfl rfl h4)
  | .nev, X, E, hp, G, hst, hfr, st, h => s_nev
  | .whl c b, X, E, hp, G, hst, hfr, st, h => by
    have h : (match whlP st with | some (c', b', _) => !ht && chk T Δ ht N .tst c sc c' && chkSs T Δ ht N b sc b' | none => false) = true := h
    cases hq : whlP st with
    | none => rw [hq] at h; cases h
    | some q =>
      obtain ⟨c', b', pos⟩ := q
      cases whlP_inv hq
      rw [hq] at h
      obtain ⟨h, h2⟩ := and_iff.mp (show (!ht && chk T Δ ht N .tst c sc c' && chkSs T Δ ht N b sc b') = true from h)
      obtain ⟨hh, h1⟩ := and_iff.mp h
      exact s_whl hp (chk_ok c .tst sc X E c' G h1).1 (chkSs_ok b X E hp G hst hfr b' h2)
  | .pop i j, X, E, hp, G, hst, hfr, st, h => by
    have h : (match popP st with | some (tg, x, _, m, ap, cp, _) => varB N sc i x && decide (m = "pop") && (ap.endLine == cp.line) && chkTg N sc (.nm j) tg | none => false) = true := h
    cases hq : popP st with
    | none => rw [hq] at h; cases h
    | some q =>
      obtain ⟨tg, x, px, m, ap, cp, pos⟩ := q
      cases popP_inv hq
      rw [hq] at h
      obtain ⟨h, h4⟩ := and_iff.mp (show (varB N sc i x && decide (m = "pop") && (ap.endLine == cp.line) && chkTg N sc (.nm j) tg) = true from h)
      obtain ⟨h, h3⟩ := and_iff.mp h
      obtain ⟨h1, h2⟩ := and_iff.mp h
      cases of_decide_eq_true h2
      obtain ⟨v1, v3⟩ := and_iff.mp (show varB N sc i x = true from h1)
      obtain ⟨v1, v2⟩ := and_iff.mp v1
      obtain ⟨n1, n2, _⟩ := nameB_iff v3
      match tg, h4 with
      | .Name y py, h4 =>
        obtain ⟨t1, t2⟩ := and_iff.mp (show (decide (N[j]? = some y) && locB sc y) = true from h4)
        exact s_pop (by rw [G.hN]; exact of_decide_eq_true v1) (G.vis v2) n1 n2 (by rw [G.hN]; exact G.nd) (by rw [G.hN]; exact of_decide_eq_true t1) (G.loc t2).1 (G.loc t2).2 h3
  | .put i a e, X, E, hp, G, hst, hfr, st, h => by
    have h : (match putP st with | some (x, _, a', _, e', _) => varB N sc i x && chk T Δ ht N .val a sc a' && chk T Δ ht N .val e sc e' && !compB e' | none => false) = true := h
    cases hq : putP st with
    | none => rw [hq] at h; cases h
    | some q =>
      obtain ⟨x, px, a', ps, e', pos⟩ := q
      cases putP_inv hq
      rw [hq] at h
      obtain ⟨h, h4⟩ := and_iff.mp (show (varB N sc i x && chk T Δ ht N .val a sc a' && chk T Δ ht N .val e sc e' && !compB e') = true from h)
      obtain ⟨h, h3⟩ := and_iff.mp h
      obtain ⟨h1, h2⟩ := and_iff.mp h
      obtain ⟨v1, v3⟩ := and_iff.mp (show varB N sc i x = true from h1)
      obtain ⟨v1, v2⟩ := and_iff.mp v1
      obtain ⟨n1, n2, _⟩ := nameB_iff v3
      exact s_put G.un (by rw [G.hN]; exact of_decide_eq_true v1) (G.vis v2) n1 n2 (chk_ok e .val sc X E e' G h3) (chk_ok a .val sc X E a' G h2) (swaps_no _ _ _ (by simpa using h4))
  | .par i j a b, X, E, hp, G, hst, hfr, st, h => by
    have h : (match parP st with | some (x, px, y, py, kt, pt, a', b', k2, p2, _) => !ht && parB sc (.Tuple [.Name x px, .Name y py] kt pt) (.Tuple [a', b'] k2 p2) && decide (N[i]? = some x) && decide (N[j]? = some y) && decide (i ≠ j) && nostar [a', b'] && chks T Δ ht N .val [a, b] sc [a', b'] | none => false) = true := h
    cases hq : parP st with
    | none => rw [hq] at h; cases h
    | some q =>
      obtain ⟨x, px, y, py, kt, pt, a', b', k2, p2, pos⟩ := q
      cases parP_inv hq
      rw [hq] at h
      obtain ⟨h, h7⟩ := and_iff.mp (show (!ht && parB sc (.Tuple [.Name x px, .Name y py] kt pt) (.Tuple [a', b'] k2 p2) && decide (N[i]? = some x) && decide (N[j]? = some y) && decide (i ≠ j) && nostar [a', b'] && chks T Δ ht N .val [a, b] sc [a', b']) = true from h)
      obtain ⟨h, h6⟩ := and_iff.mp h
      obtain ⟨h, h5⟩ := and_iff.mp h
      obtain ⟨h, h4⟩ := and_iff.mp h
      obtain ⟨h, h3⟩ := and_iff.mp h
      obtain ⟨hh, h2⟩ := and_iff.mp h
      have hh : ht = false := by simpa using hh
      obtain ⟨x', px', y', py', kt', pt', a2, b2, k2', pt2', e1, e2, l1, l2, l3, l4, l5, l6, l7⟩ := par_inv h2
      cases e1
      cases e2
      have loc : ∀ z : Str, sc.names.lookup z = some .local → X.env.scope.names.lookup z = some .local := fun z hz => by
        rcases G.scs z _ hz with q | ⟨q, _⟩
        · exact q
        · cases q
      exact s_par (G.calm hh) (by rw [G.hN]; exact G.nd) (by rw [G.hN]; exact of_decide_eq_true h3) (by rw [G.hN]; exact of_decide_eq_true h4) (of_decide_eq_true h5) (loc _ l1) (loc _ l2) (swap_two G.kind (loc _ l1) (loc _ l2) l3 l4 l5 l6 l7) (chks_val [a, b] sc X E [a', b'] G h7 h6)
  | .ownc i a b, X, E, hp, G, hst, hfr, st, h => by
    have h : (match catP st with | some (tg, a', o', b', _, _) => decide (o' = .Add) && chkTg N sc (.nm i) tg && chk T Δ ht N .brw a sc a' && chk T Δ ht N .brw b sc b' | none => false) = true := h
    cases hq : catP st with
    | none => rw [hq] at h; cases h
    | some q =>
      obtain ⟨tg, a', o', b', bp, pos⟩ := q
      cases catP_inv hq
      rw [hq] at h
      obtain ⟨h, h4⟩ := and_iff.mp (show (decide (o' = .Add) && chkTg N sc (.nm i) tg && chk T Δ ht N .brw a sc a' && chk T Δ ht N .brw b sc b') = true from h)
      obtain ⟨h, h3⟩ := and_iff.mp h
      obtain ⟨h1, h2⟩ := and_iff.mp h
      cases of_decide_eq_true h1
      match tg, h2 with
      | .Name x p, h2 =>
        obtain ⟨t1, t2⟩ := and_iff.mp (show (decide (N[i]? = some x) && locB sc x) = true from h2)
        exact s_own (ps_set (by rw [G.hN]; exact G.nd) (by rw [G.hN]; exact of_decide_eq_true t1) (G.loc t2).1 (f_cat (chk_ok a .brw sc X E a' G h3) (chk_ok b .brw sc X E b' G h4)) (swaps_no _ _ _ rfl) (G.loc t2).2)
  | .tryw i w n b, X, E, hp, G, hst, hfr, st, h => by
    cases st <;> first | exact Bool.noConfusion (show false = true from h) | skip
    rename_i b' hs els fin pos
    cases els with
    | cons _ _ => exact Bool.noConfusion (show false = true from h)
    | nil =>
    cases fin with
    | cons _ _ => exact Bool.noConfusion (show false = true from h)
    | nil =>
      obtain ⟨h, h12⟩ := and_iff.mp (show (!ht && handB T N sc i w n hs && chkSs T Δ ht N b sc b') = true from h)
      obtain ⟨hh, h⟩ := and_iff.mp h
      have hh : ht = false := by simpa using hh
      obtain ⟨nm, wn, gp, p1, p2, p3, p4, p5, rfl, h2, h3, h4, h7, h8, h9, hw, h11⟩ := handB_inv h
      have hne : T.hot ≠ [] := fun z => by rw [z] at hw; cases hw
      obtain ⟨GE, l, m1, m2⟩ := G.mgd.hot hne
      obtain ⟨a, fd, ps, g1, g2, g3, g4, g5⟩ := G.hots hh wn w hw
      have cl : ∀ c, c < n → ∃ y, T.cls.lookup y = some c := fun c hc => clsB_iff h11 hc
      have hln : X.env.kindOf nm = some .local := by
        rcases G.scs nm _ h3 with z | ⟨z, _⟩
        · exact z
        · cases z
      refine s_try (n := n) (mb := exs (sem Δ k) b) (mw := fun c => sem Δ k w [.exn c]) hst hfr (by rw [G.hN]; exact G.nd) (by rw [G.hN]; exact h2) hln (nameB_iff h4).1 (nameB_iff h4).2.1 ⟨G.gl h7, by decide, .inl m1⟩ (G.tk hh) (G.room hh) g3 (G.gl h8) g1 g2 (nameB_iff h9).1 (fun c hc => ?_) (fun p c hc hz hf => ?_) fun E' pn xe t po => ?_
      · obtain ⟨y, hy⟩ := cl c hc
        exact (m2 y c hy).2.ex
      · obtain ⟨y, hy⟩ := cl c hc
        refine (g5 p y c hy hz hf).imp fun vs H Q E ⟨W, S, ds, q1, q2, q3, q4⟩ => ⟨W, S, ds, q1, q2, q3, ?_⟩
        match ds, q4 with
        | [.exn c'], q4 => exact q4
        | [], q4 => exact q4.elim
        | _ :: _ :: _, q4 => cases q2 with | cons _ q2 => cases q2 with | cons _ _ => cases q3
        | [.non], q4 => exact q4.elim
        | [.bl _], q4 => exact q4.elim
        | [.int _], q4 => exact q4.elim
        | [.str _], q4 => exact q4.elim
        | [.tup _], q4 => exact q4.elim
        | [.lst _], q4 => exact q4.elim
        | [.dct _], q4 => exact q4.elim
        | [.fn _], q4 => exact q4.elim
        | [.town], q4 => exact q4.elim
        | [.scr _], q4 => exact q4.elim
      · exact chkSs_ok b (X.tr pn xe) E' po { hN := G.hN, nd := G.nd, scs := G.scs, kind := G.kind, fn := G.fn, calm := G.calm, tk := fun _ => t, room := G.room, un := G.un, pin := (fun z => by rw [hh] at z; cases z), mgd := G.mgd, fns := G.fns, hots := G.hots } hst hfr b' h12
theorem chkSs_ok : ∀ (ss : List S) (X : Cx) (E : XK), PassesOwn (model X.prog X.w) X.A X.env X.xe → Gd T Δ g k ht N sc X E → X.stack = X.env :: X.outer → X.env.frame = some X.env.locals → ∀ (sts : List Stmt), chkSs T Δ ht N ss sc sts = true → PSs X sts (tS (cn X g) E (exs (sem Δ k) ss))
  | [], X, E, hp, G, hst, hfr, sts, h => by
    cases sts with
    | nil => exact ss_nil
    | cons _ _ => exact Bool.noConfusion (show false = true from h)
  | s :: ss, X, E, hp, G, hst, hfr, sts, h => by
    by_cases hf : ∃ i, s = .frz i
    · obtain ⟨i, rfl⟩ := hf
      exact ss_frz (chkSs_ok ss X E hp G hst hfr sts h)
    · cases sts with
      | nil => cases s <;> first | exact Bool.noConfusion (show false = true from h) | exact absurd ⟨_, rfl⟩ hf
      | cons st sts =>
        have h : (chkS T Δ ht N s sc st && chkSs T Δ ht N ss sc sts) = true := by
          cases s <;> first | exact h | exact absurd ⟨_, rfl⟩ hf
        obtain ⟨h1, h2⟩ := and_iff.mp h
        exact ss_cons (chkS_ok s X E hp G hst hfr st h1) (chkSs_ok ss X E hp G hst hfr sts h2)
end
end
end G
/-! G21: defs, level by level; the end of a law. -/
namespace G
open PySem L2
section
variable {T : Tab} {Δ : Nat → Option FDef} {g : Gi} {P : Program} {w : World} {K : PySem.W.Frag} {mg : Str → Option Value} {base : Heap}
theorem start_frm {C : Cn} {W : Wd} {H : Hp} {F : FDef} {vs : List V} {ds : List D} (r : Reps C W vs ds) : Frm C H W (startF F ds) (L2.start F.N vs) H := by
  have hl := r.length
  have key : ∀ (i : Nat) (sl : Slot), (startF F ds)[i]? = some (some sl) → ∃ d v, sl = .sh d ∧ ds[i]? = some d ∧ vs[i]? = some v ∧ Rep C W v d := fun i sl h => by
    unfold startF at h
    by_cases hi : i < ds.length
    · rw [List.getElem?_append_left (by simpa using hi), List.getElem?_map] at h
      obtain ⟨d, hd, e⟩ := Option.map_eq_some_iff.mp h
      cases e
      obtain ⟨v, hv, rv⟩ := r.get hd
      exact ⟨d, v, rfl, hd, hv, rv⟩
    · rw [List.getElem?_append_right (by simpa using Nat.le_of_not_lt hi), List.getElem?_replicate] at h
      split at h <;> cases h
  refine ⟨by simp [L2.start, startF, hl], fun i d h => ?_, fun i d h => ?_, fun i j d e a _ h => ?_⟩
  · obtain ⟨d', v, e1, h1, h2, h3⟩ := key i _ h
    cases e1
    refine ⟨v, ?_, h3⟩
    unfold L2.start
    rw [List.getElem?_append_left (by simpa using (List.getElem?_eq_some_iff.mp h2).1), List.getElem?_map, h2]
    rfl
  · obtain ⟨d', v, e1, _⟩ := key i _ h
    cases e1
  · obtain ⟨d', v, e1, _⟩ := key i _ h
    cases e1
theorem chkF_inv {ht : Bool} {F : FDef} {st : Stmt} (h : chkF T Δ ht F st = true) : ∃ as : List Arg, defArgs st = ⟨[], as, none, [], [], none, []⟩ ∧ (as.map (·.arg)).Nodup ∧ as.length = F.ar ∧ FnScope F.N (as.map (·.arg)) (defScope st) ∧ chkSs T Δ ht F.N F.body (defScope st) (defBody st) = true := by
  cases st <;> first | exact Bool.noConfusion (show false = true from h) | skip
  rename_i name args body decs rets tps scope tscope bind pos
  obtain ⟨po, as, va, ko, kd, ka, df⟩ := args
  match po, va, ko, kd, ka, df, h with
  | [], none, [], [], none, [], h =>
    simp only [chkF, Bool.and_eq_true, decide_eq_true_eq, Bool.not_eq_true', List.all_eq_true] at h
    obtain ⟨⟨⟨⟨⟨⟨⟨⟨⟨h1, h2⟩, h3⟩, h4⟩, h5⟩, h6⟩, h7⟩, h8⟩, h9⟩, h10⟩ := h
    refine ⟨as, rfl, h7, h5, ⟨?_, h2, h3, h4, ?_, fun x hx => locB_iff (h8 x hx), fun y hy e => ?_⟩, h10⟩
    · show scope.kind = .function
      split at h1
      · assumption
      · cases h1
    · rw [List.length_map, h5]; exact h6
    · have := h9 y hy
      rw [e] at this
      cases this
/-- a def at one more level -/
theorem fn_up {F : FDef} {st : Stmt} {x qual : Str} {a : Addr} {fd : FuncData} {f k : Nat} (hF : Fun K x qual st a fd) (hΔ : Δ f = some F) (hc : chkF T Δ false F st = true) (hM : Mg K w mg g T) (ih : ∀ x f, T.fns.lookup x = some f → FnG P w K mg base g Δ k x f) (ihw : ∀ x f, T.hot.lookup x = some f → FnWG P w K mg base g T Δ k x f) :
    Binds K fd ((defArgs st).args.map (·.arg)) [] ∧ FnOk P w K mg base (CX P w) (k + 1) a fd ((defArgs st).args.map (·.arg)) (spF ⟨K, g.fa, g.cls, g.ex, w⟩ (arOf Δ f) (sem Δ (k + 1) f)) := by
  obtain ⟨as, h1, h2, h3, h4, h5⟩ := chkF_inv hc
  have har : arOf Δ f = F.ar := by unfold arOf; rw [hΔ]
  have hps : (defArgs st).args.map (·.arg) = as.map (·.arg) := by rw [h1]
  rw [hps]
  refine ⟨?_, ?_⟩
  · exact hF.binds fun kV doc pm an cdv ct us hl => by
      rw [h1]
      exact binds_simple h2 hl
  · refine hF.okX h4 (fun vs H Q E h => ?_) (fun cdv A outer s H vs Q E hr h => ?_)
    · obtain ⟨W, S, ds, st, r, hl, _⟩ := h
      rw [hl, har, List.length_map, h3]
    · obtain ⟨W, S, ds, sto, r, hl, p⟩ := h
      refine ⟨tS ⟨K, g.fa, g.cls, g.ex, w⟩ E (exs (sem Δ k) F.body), ?_, W, H, startF F ds, S, W, ⟨start_frm r, sto, Ext.refl _ _⟩, ?_⟩
      · exact chkSs_ok (g := g) (ht := false) F.body (cxOf (CX P w) P w K mg base F.N qual (defScope st) a cdv A outer s H E) E (passes_of rfl)
          { hN := rfl, nd := h4.nd, scs := fun _ _ z => .inl z, kind := h4.kind, fn := fun _ _ => rfl, calm := fun _ => rfl, tk := fun _ => takes_of rfl rfl rfl rfl, room := fun _ => hr, un := hr.units, pin := (fun z => nomatch z), mgd := hM, fns := fun _ => ih, hots := fun _ => ihw } rfl rfl (defBody st) h5
      · have hlen : ds.length = F.ar := by rw [← r.length, hl, har]
        have p : Pst ⟨K, g.fa, g.cls, g.ex, w⟩ E W H (bnd (exs (sem Δ k) F.body (startF F ds)) outF S) fun d _ W' H' => ∀ v, Rep ⟨K, g.fa, g.cls, g.ex, w⟩ W' v d → Q v H' := by
          unfold sem at p
          simp only [hΔ, hlen, if_true] at p
          exact p
        unfold bnd at p
        cases hm : exs (sem Δ k) F.body (startF F ds) S with
        | bad => rw [hm] at p; exact p
        | exc c S1 => rw [hm] at p; exact fun H' W' e s => p H' W' e s
        | ok fl S1 =>
          rw [hm] at p
          cases fl with
          | nx ρ => exact fun σ' H' W' _ r' => p H' W' r'.ex r'.st _ .non
          | ct ρ => exact p.elim
          | rt d => exact fun v H' W' e s rv => p H' W' e s v rv
/-- what the head tells of a def -/
def DefAt (K : PySem.W.Frag) (mg : Str → Option Value) (g : Gi) (T : Tab) (Δ : Nat → Option FDef) (x : Str) (f : Nat) : Prop :=
  ∃ (F : FDef) (st : Stmt) (qual : Str) (a : Addr) (fd : FuncData), g.fa f = some a ∧ mg x = some (.ref a) ∧ PySem.W.keepIn K (.ref a) = true ∧ Fun K x qual st a fd ∧ Δ f = some F ∧ chkF T Δ false F st = true
/-- what the head tells of the def that is asked which error is held -/
def WDefAt (K : PySem.W.Frag) (mg : Str → Option Value) (T : Tab) (Δ : Nat → Option FDef) (x : Str) (f : Nat) : Prop :=
  ∃ (F : FDef) (st : Stmt) (qual : Str) (a : Addr) (fd : FuncData), mg x = some (.ref a) ∧ PySem.W.keepIn K (.ref a) = true ∧ Fun K x qual st a fd ∧ Δ f = some F ∧ F.ar = 1 ∧ chkF T Δ true F st = true
theorem all_hot (hM : Mg K w mg g T) (hW : ∀ x f, T.hot.lookup x = some f → WDefAt K mg T Δ x f) (k : Nat) (x : Str) (f : Nat) (h : T.hot.lookup x = some f) : FnWG P w K mg base g T Δ k x f := by
  have hne : T.hot ≠ [] := fun z => by rw [z] at h; cases h
  have hHot := hM.hot hne
  obtain ⟨F, st, qual, a, fd, h2, h3, h4, h5, h1, h6⟩ := hW x f h
  obtain ⟨as, g1, g2, g3, g4, g5⟩ := chkF_inv h6
  have har : arOf Δ f = 1 := by unfold arOf; rw [h5]; exact h1
  have hlen : ∀ (C : Cn) (Fs : List D → M D) (vs : List V) (H : Hp) (Q : VK) (E : XK), spF C 1 Fs vs H Q E → vs.length = (as.map (·.arg)).length := fun C Fs vs H Q E ⟨W, S, ds, st, r, hl, _⟩ => by
    rw [hl, List.length_map, g3, h1]
  refine ⟨a, fd, as.map (·.arg), h2, h3, h4.binds fun kV doc pm an cdv ct us hl => ?_, har, fun p y c hy hz hf => ?_⟩
  · rw [g1]; exact binds_simple g2 hl
  · cases k with
    | zero =>
      refine ⟨hlen _ _, fun A outer s H args us vs Q E _ _ _ _ _ h => ?_⟩
      obtain ⟨W, S, ds, st, r, hl, p⟩ := h
      exact p.elim
    | succ k =>
      obtain ⟨oc, od, kV, doc, pm, an, cdv, ct, osl, rfl, lk, hcd⟩ := h4.ex
      refine fn_ofW lk hcd g4 (hlen _ _) fun A outer s H vs Q E hr h => ?_
      obtain ⟨W, S, ds, sto, r, hl, p'⟩ := h
      refine ⟨tS ⟨K, g.fa, g.cls, some (p.1, c), w⟩ E (exs (sem Δ k) F.body), ?_, W, H, startF F ds, S, W, ⟨start_frm r, sto, Ext.refl _ _⟩, ?_⟩
      · exact chkSs_ok (g := ⟨g.fa, g.cls, some (p.1, c)⟩) (ht := true) F.body (L2H.cxH (CX P w) P w K mg base F.N qual (defScope st) a cdv A outer s H E p) E (passes_of rfl)
          { hN := rfl, nd := g4.nd, scs := fun _ _ z => .inl z, kind := g4.kind, fn := fun _ _ => rfl, calm := (fun z => nomatch z), tk := (fun z => nomatch z), room := (fun z => nomatch z), un := by have := hr.un; show (A.deeper _).units + 64 < cLine; omega,
            pin := fun _ => ⟨p.1, p.2, y, c, rfl, List.mem_cons_self, hy, hz, hf, hHot⟩, mgd := ⟨hM.blt, hM.szs, hM.gls, hM.hot, hM.fnx, hM.cls⟩, fns := (fun z => nomatch z), hots := (fun z => nomatch z) } rfl rfl (defBody st) g5
      · have hlen : ds.length = F.ar := by rw [← r.length, hl, h1]
        have p : Pst ⟨K, g.fa, g.cls, some (p.1, c), w⟩ E W H (bnd (exs (sem Δ k) F.body (startF F ds)) outF S) fun d _ W' H' => ∀ v, Rep ⟨K, g.fa, g.cls, some (p.1, c), w⟩ W' v d → Q v H' := by
          unfold sem at p'
          simp only [h5, hlen, if_true] at p'
          exact p'
        unfold bnd at p
        cases hm : exs (sem Δ k) F.body (startF F ds) S with
        | bad => rw [hm] at p; exact p
        | exc c S1 => rw [hm] at p; exact fun H' W' e s => p H' W' e s
        | ok fl S1 =>
          rw [hm] at p
          cases fl with
          | nx ρ => exact fun σ' H' W' _ r' => p H' W' r'.ex r'.st _ .non
          | ct ρ => exact p.elim
          | rt d => exact fun v H' W' e s rv => p H' W' e s v rv
theorem all_fns (hM : Mg K w mg g T) (hD : ∀ x f, T.fns.lookup x = some f → DefAt K mg g T Δ x f) (hW : ∀ x f, T.hot.lookup x = some f → WDefAt K mg T Δ x f) : ∀ (k : Nat) (x : Str) (f : Nat), T.fns.lookup x = some f → FnG P w K mg base g Δ k x f
  | 0, x, f, h => by
    obtain ⟨F, st, qual, a, fd, h1, h2, h3, h4, h5, h6⟩ := hD x f h
    obtain ⟨as, g1, g2, g3, g4, g5⟩ := chkF_inv h6
    have har : arOf Δ f = F.ar := by unfold arOf; rw [h5]
    refine ⟨a, fd, as.map (·.arg), h1, h2, h3, h4.binds fun kV doc pm an cdv ct us hl => ?_, fun vs H Q E h => ?_, fun A outer s H args us vs Q E _ _ _ _ h => ?_⟩
    · rw [g1]; exact binds_simple g2 hl
    · obtain ⟨W, S, ds, st, r, hl, _⟩ := h
      rw [hl, har, List.length_map, g3]
    · obtain ⟨W, S, ds, st, r, hl, p⟩ := h
      exact p.elim
  | k + 1, x, f, h => by
    obtain ⟨F, st, qual, a, fd, h1, h2, h3, h4, h5, h6⟩ := hD x f h
    obtain ⟨b, ok⟩ := fn_up (P := P) (w := w) (base := base) (k := k) h4 h5 h6 hM (all_fns hM hD hW k) (all_hot hM hW k)
    exact ⟨a, fd, _, h1, h2, h3, b, ok⟩
end
theorem memL : ∀ {l : List (Nat × Addr)} {n : Nat} {a : Addr}, l.lookup n = some a → (n, a) ∈ l
  | [], _, _, h => nomatch h
  | (m, b) :: l, n, a, h => by
    rw [List.lookup_cons] at h
    split at h
    · rename_i q
      cases h
      rw [eq_of_beq q]
      exact List.mem_cons_self
    · exact List.mem_cons_of_mem _ (memL h)
theorem look_all {β : Type} {P : Str → β → Prop} {l : List (Str × β)} (h : ∀ p ∈ l, P p.1 p.2) : ∀ (x : Str) (v : β), l.lookup x = some v → P x v := by
  induction l with
  | nil => intro x v e; cases e
  | cons p l ih =>
    intro x v e
    obtain ⟨y, u⟩ := p
    rw [List.lookup_cons] at e
    split at e
    · rename_i q
      cases e
      rw [eq_of_beq q]
      exact h (y, _) List.mem_cons_self
    · exact ih (fun p m => h p (List.mem_cons_of_mem _ m)) x v e
/-- the promise of a law -/
def spLaw (K : PySem.W.Frag) : Sp := fun vs H Q _ => ∃ (a : Addr) (ns : List Int), vs = [.ref a] ∧ SqL K H a (ns.map V.int) ∧ ns.length ≤ 63 ∧ ∀ H', Q (.bl true) H'
theorem law_end {T : Tab} {Δ : Nat → Option FDef} {g : Gi} {P : Program} {w : World} {K : PySem.W.Frag} {mg : Str → Option Value} {k f : Nat} {x y : Str} (hM : Mg K w mg g T) (hD : ∀ x f, T.fns.lookup x = some f → DefAt K mg g T Δ x f) (hW : ∀ x f, T.hot.lookup x = some f → WDefAt K mg T Δ x f) (hx : T.fns.lookup x = some f) (hy : ∃ F : FDef, Δ f = some F ∧ F.N.take F.ar = [y])
    (hlaw : ∀ ns : List Int, ns.length ≤ 63 → ∃ S, sem Δ (k + 1) f [.scr ns] none = .ok (.bl true) S) {a : Addr} (ha : mg x = some (.ref a)) :
    ∃ fd : FuncData, (∀ (s : Shared) (u : Value), BindsTo s fd ⟨[u], []⟩ [(y, u)]) ∧ ∀ base : Heap, FnOk P w K mg base (CX P w) (k + 1) a fd [y] (spLaw K) := by
  obtain ⟨F, st, qual, a', fd, h1, h2, h3, h4, h5, h6⟩ := hD x f hx
  rw [ha] at h2
  cases h2
  obtain ⟨F', hF', hy⟩ := hy
  rw [h5] at hF'
  cases hF'
  obtain ⟨as, g1, g2, g3, g4, g5⟩ := chkF_inv h6
  have hps : as.map (·.arg) = [y] := by
    have := g4.pre
    rw [List.length_map, g3, hy] at this
    exact this.symm
  have har : arOf Δ f = 1 := by
    unfold arOf
    rw [h5]
    show F.ar = 1
    rw [← g3, ← List.length_map (f := (·.arg)), hps]; rfl
  have hps2 : (defArgs st).args.map (·.arg) = [y] := by rw [g1]; exact hps
  obtain ⟨oc, od, kV, doc, pm, an, cdv, ct, osl, hfd, lk, hcd⟩ := h4.ex
  refine ⟨fd, fun s u => .of_eq ?_, fun base => ?_⟩
  · rw [hfd, g1]
    have := binds_simple (x := x) (qual := qual) (as := as) (body := defBody st) (scope := defScope st) (kV := kV) (doc := doc) (pm := pm) (an := an) (cdv := cdv) (ct := ct) (us := [u]) g2 (by rw [hps]; rfl)
    rw [hps] at this
    exact this
  · obtain ⟨b, ok⟩ := fn_up (P := P) (w := w) (base := base) (k := k) h4 h5 h6 hM (all_fns hM hD hW k) (all_hot hM hW k)
    rw [har, hps2] at ok
    refine ok.imp fun vs H Q E h => ?_
    obtain ⟨p, ns, rfl, hq, hl, hk⟩ := h
    obtain ⟨S, hS⟩ := hlaw ns hl
    refine ⟨⟨H, none⟩, none, [.scr ns], ⟨Same.refl _, (fun _ z => nomatch z), fun _ => rfl⟩, .cons (.scr hq ?_) .nil, rfl, ?_⟩
    · rw [sizeLine_eq]; omega
    · rw [hS]
      intro H' W' e s v r
      rw [r.blD]
      exact hk H'
end G
/-! GD: the small programs, printed by emit.py. -/
namespace G
open PySem L2
/-- a def that is not asked -/
def F_0 : FDef := ⟨0, [], []⟩
abbrev f_law_cell_at : Nat := 0
abbrev f_law_mixed : Nat := 1
abbrev f_law_draw : Nat := 2
abbrev f_law_pick : Nat := 3
abbrev f_law_word : Nat := 4
abbrev f_law_barred : Nat := 5
abbrev f_law_template : Nat := 6
abbrev f_law_is_word : Nat := 7
abbrev f_law_is_part : Nat := 8
abbrev f_law_is_template : Nat := 9
abbrev f_is_word : Nat := 10
abbrev f_are_words : Nat := 11
abbrev f_is_barred : Nat := 12
abbrev f_is_whole : Nat := 13
abbrev f_is_part : Nat := 14
abbrev f_is_template : Nat := 15
abbrev f_need_template : Nat := 16
abbrev f_most_of : Nat := 17
abbrev f_is_stand : Nat := 18
abbrev f_need_stand : Nat := 19
abbrev f_is_done : Nat := 20
abbrev f_takes : Nat := 21
abbrev f_may_skip : Nat := 22
abbrev f_moves_at : Nat := 23
abbrev f_moves : Nat := 24
abbrev f_fresh : Nat := 25
abbrev f_words_in : Nat := 26
abbrev f_are_pairs : Nat := 27
abbrev f_reached : Nat := 28
abbrev f_pairs_behind : Nat := 29
abbrev f_parted : Nat := 30
abbrev f_end_now : Nat := 31
abbrev f_is_paper : Nat := 32
abbrev f_stands_behind : Nat := 33
abbrev f_ends : Nat := 34
abbrev f_is_row : Nat := 35
abbrev f_is_cover_paper : Nat := 36
abbrev f_is_text : Nat := 37
abbrev f_need_text : Nat := 38
abbrev f_worths_of : Nat := 39
abbrev f_runs : Nat := 40
abbrev f_ways_in : Nat := 41
abbrev f_bars_of : Nat := 42
abbrev f_filled_in : Nat := 43
abbrev f_gaps_of : Nat := 44
abbrev f_twice : Nat := 45
abbrev f_led : Nat := 46
abbrev f_law_which : Nat := 47
abbrev f_names : Nat := 48
abbrev f_told_back : Nat := 49
abbrev f_two_ways : Nat := 50
abbrev f_all_pairs : Nat := 51
abbrev f_paper : Nat := 52
abbrev f_fits_gap : Nat := 53
abbrev f_are_worths : Nat := 54
abbrev f_filled : Nat := 55
abbrev f_has_it : Nat := 56
abbrev f_has : Nat := 57
abbrev f_ways : Nat := 58
abbrev f_may_end : Nat := 59
abbrev f_all_behind : Nat := 60
abbrev f_escape : Nat := 61
abbrev f_covers : Nat := 62
abbrev f_same : Nat := 63
abbrev f_beyond : Nat := 64
abbrev f_common : Nat := 65
abbrev f_cover_pairs : Nat := 66
abbrev f_cover_paper : Nat := 67
abbrev f_law_ask : Nat := 68
abbrev f_law_spoilt : Nat := 69
abbrev f_k01_law : Nat := 70
abbrev f_law_worths : Nat := 71
abbrev f_law_spoilt_1 : Nat := 72
abbrev f_law_ask_1 : Nat := 73
abbrev f_law_is_worth : Nat := 74
abbrev f_law_due : Nat := 75
abbrev f_k02_law : Nat := 76
abbrev f_law_ask_2 : Nat := 77
abbrev f_law_enough : Nat := 78
abbrev f_law_free : Nat := 79
abbrev f_law_takes : Nat := 80
abbrev f_law_cap : Nat := 81
abbrev f_law_moves : Nat := 82
abbrev f_k03_law : Nat := 83
abbrev f_law_text : Nat := 84
abbrev f_law_splits : Nat := 85
abbrev f_law_ways : Nat := 86
abbrev f_law_ask_3 : Nat := 87
abbrev f_k04_law : Nat := 88
abbrev f_law_texts : Nat := 89
abbrev f_law_pool : Nat := 90
abbrev f_k05_law : Nat := 91
abbrev f_law_stands : Nat := 92
abbrev f_law_pairs : Nat := 93
abbrev f_law_due_1 : Nat := 94
abbrev f_k06_law : Nat := 95
abbrev f_law_near : Nat := 96
abbrev f_k07_law : Nat := 97
abbrev f_law_behind : Nat := 98
abbrev f_law_due_2 : Nat := 99
abbrev f_k08_law : Nat := 100
abbrev f_k09_law : Nat := 101
abbrev f_law_looser : Nat := 102
abbrev f_k10_law : Nat := 103
abbrev f_need_rows : Nat := 104
abbrev f_first_of : Nat := 105
abbrev f_needless : Nat := 106
abbrev f_missing : Nat := 107
abbrev f_law_ask_4 : Nat := 108
abbrev f_law_first : Nat := 109
abbrev f_law_asked : Nat := 110
abbrev f_k11_law : Nat := 111
abbrev f_is_book : Nat := 112
abbrev f_least : Nat := 113
abbrev f_law_ask_5 : Nat := 114
abbrev f_k12_law : Nat := 115
abbrev f_law_like : Nat := 116
abbrev f_law_ask_6 : Nat := 117
abbrev f_k13_law : Nat := 118
abbrev f_law_turned : Nat := 119
abbrev f_law_named : Nat := 120
abbrev f_law_long : Nat := 121
abbrev f_k14_law : Nat := 122
abbrev f_k15_law : Nat := 123
abbrev f_k16_law : Nat := 124
abbrev f_law_mixed_1 : Nat := 125
abbrev f_law_draw_1 : Nat := 126
abbrev f_law_pick_1 : Nat := 127
abbrev f_law_barred_1 : Nat := 128
abbrev f_law_template_1 : Nat := 129
abbrev f_law_is_word_1 : Nat := 130
abbrev f_law_part : Nat := 131
abbrev f_law_due_3 : Nat := 132
abbrev f_law_which_1 : Nat := 133
abbrev f_part_text : Nat := 134
abbrev f_template_text : Nat := 135
abbrev f_part_in : Nat := 136
abbrev f_read : Nat := 137
abbrev f_shown : Nat := 138
abbrev f_law_ask_7 : Nat := 139
abbrev f_law_odd : Nat := 140
abbrev f_k17_law : Nat := 141
abbrev f_need_words : Nat := 142
abbrev f_need_long : Nat := 143
abbrev f_how_many : Nat := 144
abbrev f_texts_of : Nat := 145
abbrev f_lengths : Nat := 146
abbrev f_law_fits : Nat := 147
abbrev f_law_runs : Nat := 148
abbrev f_k18_law : Nat := 149
abbrev f_bounds : Nat := 150
abbrev f_place_of : Nat := 151
abbrev f_with_part : Nat := 152
abbrev f_open_again : Nat := 153
abbrev f_k19_law : Nat := 154
abbrev f_law_ask_8 : Nat := 155
abbrev f_k20_law : Nat := 156
abbrev f_renamed : Nat := 157
abbrev f_barring : Nat := 158
abbrev f_k21_law : Nat := 159
abbrev f_law_text_1 : Nat := 160
abbrev f_closed : Nat := 161
abbrev f_law_ask_9 : Nat := 162
abbrev f_is_plain : Nat := 163
abbrev f_words_of : Nat := 164
abbrev f_k22_law : Nat := 165
abbrev f_law_ask_10 : Nat := 166
abbrev f_k23_law : Nat := 167
abbrev f_joined : Nat := 168
abbrev f_law_ask_11 : Nat := 169
abbrev f_from_the_end : Nat := 170
abbrev f_k24_law : Nat := 171
abbrev f_parts_around : Nat := 172
abbrev f_k25_law : Nat := 173
abbrev f_law_ask_12 : Nat := 174
abbrev f_k26_law : Nat := 175
abbrev f_how_often_taken : Nat := 176
abbrev f_first_run : Nat := 177
abbrev f_taken_by : Nat := 178
abbrev f_marks : Nat := 179
abbrev f_law_worths_1 : Nat := 180
abbrev f_k27_law : Nat := 181
abbrev f_alike_words : Nat := 182
abbrev f_k28_law : Nat := 183
abbrev f_law_ask_13 : Nat := 184
abbrev f_k29_law : Nat := 185
abbrev f_law_deed : Nat := 186
abbrev f_k30_law : Nat := 187
abbrev f_law_ask_14 : Nat := 188
abbrev f_k31_law : Nat := 189
abbrev f_k32_law : Nat := 190
abbrev f_k33_law : Nat := 191
abbrev f_k34_law : Nat := 192
abbrev f_k35_law : Nat := 193
abbrev f_k36_law : Nat := 194
abbrev f_k37_law : Nat := 195
abbrev f_k38_law : Nat := 196
abbrev f_k39_law : Nat := 197
abbrev f_how_many_1 : Nat := 198
abbrev f_lengths_1 : Nat := 199
abbrev f_law_list : Nat := 200
abbrev f_k40_law : Nat := 201
def F_law_cell_at : FDef := ⟨2, ["script", "k"], [
    .ite (.cmp .lt (.var 1) (.pr .len [(.var 0)])) [.ret (.idx (.var 0) (.var 1))] [],
    .ite (.cmp .eq (.var 0) (.lst [])) [.ret (.cst (.int 0))] [],
    .ret (.bin .add (.bin .mul (.idx (.var 0) (.bin .mod (.var 1) (.pr .len [(.var 0)]))) (.cst (.int 31))) (.var 1))]⟩
def F_law_mixed : FDef := ⟨3, ["script", "k", "many", "drawn"], [
    .asg (.nm 3) (.bin .mod (.bin .mul (.bin .add (.bin .add (.call f_law_cell_at [(.var 0), (.var 1)]) (.bin .mul (.cst (.int 7919)) (.var 1))) (.cst (.int 1))) (.cst (.int 48271))) (.cst (.int 2147483647))),
    .ret (.bin .mod (.bin .mod (.bin .add (.bin .add (.bin .mul (.var 3) (.var 3)) (.bin .mul (.cst (.int 7)) (.var 3))) (.var 1)) (.cst (.int 2147483629))) (.var 2))]⟩
def F_law_draw : FDef := ⟨3, ["script", "town", "many"], [
    .tick 1,
    .ret (.call f_law_mixed [(.var 0), (.tlen (.var 1)), (.var 2)])]⟩
def F_law_pick : FDef := ⟨3, ["script", "town", "some"], [
    .ret (.idx (.var 2) (.call f_law_draw [(.var 0), (.var 1), (.pr .len [(.var 2)])]))]⟩
def F_law_word : FDef := ⟨2, ["script", "town", "word", "k"], [
    .ite (.cmp .gt (.call f_law_draw [(.var 0), (.var 1), (.cst (.int 12))]) (.cst (.int 0))) [.ret (.call f_law_pick [(.var 0), (.var 1), (.lst [(.cst (.str "a")), (.cst (.str "b")), (.cst (.str "c")), (.cst (.str "x"))])])] [],
    .asg (.nm 2) (.cst (.str "")),
    .for_ (.nm 3) (.rng (.bin .add (.cst (.int 1)) (.call f_law_draw [(.var 0), (.var 1), (.cst (.int 4))]))) [.asg (.nm 2) (.bin .add (.var 2) (.idx (.cst (.str "abcdefghijklmnopqrstuvwxyz")) (.call f_law_draw [(.var 0), (.var 1), (.cst (.int 26))])))],
    .ret (.var 2)]⟩
def F_law_barred : FDef := ⟨2, ["script", "town", "many", "k"], [
    .asg (.nm 2) (.call f_law_pick [(.var 0), (.var 1), (.lst [(.cst (.int 0)), (.cst (.int 0)), (.cst (.int 1)), (.cst (.int 1)), (.cst (.int 2)), (.cst (.int 3))])]),
    .ret (.pr .tpl [(.sset (.comp (.call f_law_word [(.var 0), (.var 1)]) (.nm 3) (.rng (.var 2)) none))])]⟩
def F_law_template : FDef := ⟨3, ["script", "town", "most", "six", "made", "gaps", "k", "kind", "name"], [
    .asg (.nm 3) (.call f_law_pick [(.var 0), (.var 1), (.lst [(.cst (.str "ghijkl")), (.cst (.str "lkjihg")), (.cst (.str "hkgjli"))])]),
    .own 4 (.lst []),
    .asg (.nm 5) (.cst (.int 0)),
    .for_ (.nm 6) (.rng (.call f_law_draw [(.var 0), (.var 1), (.bin .add (.var 2) (.cst (.int 1)))])) [.asg (.nm 7) (.call f_law_draw [(.var 0), (.var 1), (.cst (.int 5))]), .asg (.nm 8) (.idx (.var 3) (.var 5)), .ite (.cmp .lt (.var 7) (.cst (.int 2))) [.app 4 (.tup [(.cst (.str "word")), (.call f_law_word [(.var 0), (.var 1)])])] [.ite (.cmp .eq (.var 7) (.cst (.int 2))) [.app 4 (.tup [(.cst (.str "one")), (.var 8), (.call f_law_barred [(.var 0), (.var 1)])])] [.app 4 (.tup [(.cst (.str "some")), (.var 8), (.call f_law_draw [(.var 0), (.var 1), (.cst (.int 3))]), (.call f_law_barred [(.var 0), (.var 1)])])]], .asg (.nm 5) (.bin .add (.var 5) (.pr .toInt [(.cmp .gt (.var 7) (.cst (.int 1)))]))],
    .ret (.pr .tpl [(.brw 4)])]⟩
def F_is_word : FDef := ⟨1, ["thing"], [
    .ret (.and (.isi .str (.var 0)) (.and (.chn .le .le (.cst (.int 1)) (.pr .len [(.var 0)]) (.gl "LONGEST" (.int 4))) (.cmp .eq (.mth .strip (.var 0) (.gl "LETTERS" (.str "abcdefghijklmnopqrstuvwxyz"))) (.cst (.str "")))))]⟩
def F_are_words : FDef := ⟨1, ["thing", "word"], [
    .ret (.and (.isi .tuple (.var 0)) (.pr .all [(.comp (.call f_is_word [(.var 1)]) (.nm 1) (.seq (.var 0)) none)]))]⟩
def F_is_barred : FDef := ⟨1, ["thing"], [
    .ret (.and (.call f_are_words [(.var 0)]) (.and (.cmp .le (.pr .len [(.var 0)]) (.gl "BARRED" (.int 3))) (.cmp .eq (.pr .lst [(.var 0)]) (.sset (.var 0)))))]⟩
def F_is_whole : FDef := ⟨3, ["thing", "low", "most"], [
    .ret (.and (.isi .int (.var 0)) (.and (.not (.isi .bool (.var 0))) (.chn .le .le (.var 1) (.var 0) (.var 2))))]⟩
def F_is_part : FDef := ⟨1, ["thing"], [
    .ite (.or (.not (.isi .tuple (.var 0))) (.or (.cmp .lt (.pr .len [(.var 0)]) (.cst (.int 2))) (.not (.isi .str (.idx (.var 0) (.cst (.int 0))))))) [.ret (.cst (.bl false))] [],
    .ite (.or (.cmp .ne (.pr .len [(.var 0)]) (.sget (.idx (.var 0) (.cst (.int 0))))) (.not (.call f_is_word [(.idx (.var 0) (.cst (.int 1)))]))) [.ret (.cst (.bl false))] [],
    .ite (.and (.cmp .eq (.idx (.var 0) (.cst (.int 0))) (.cst (.str "some"))) (.not (.call f_is_whole [(.idx (.var 0) (.cst (.int 2))), (.cst (.int 0)), (.gl "LOW" (.int 2))]))) [.ret (.cst (.bl false))] [],
    .ret (.or (.cmp .eq (.idx (.var 0) (.cst (.int 0))) (.cst (.str "word"))) (.call f_is_barred [(.idx (.var 0) (.cst (.int (-1))))]))]⟩
def F_is_template : FDef := ⟨1, ["thing", "gaps", "part"], [
    .ite (.or (.not (.isi .tuple (.var 0))) (.or (.cmp .gt (.pr .len [(.var 0)]) (.gl "PARTS" (.int 6))) (.not (.pr .all [(.comp (.call f_is_part [(.var 2)]) (.nm 2) (.seq (.var 0)) none)])))) [.ret (.cst (.bl false))] [],
    .asg (.nm 1) (.comp (.idx (.var 2) (.cst (.int 1))) (.nm 2) (.seq (.var 0)) (some (.cmp .ne (.idx (.var 2) (.cst (.int 0))) (.cst (.str "word"))))),
    .ret (.cmp .eq (.lset (.var 1)) (.pr .len [(.var 1)]))]⟩
def F_need_template : FDef := ⟨1, ["thing"], [
    .ite (.not (.call f_is_template [(.var 0)])) [.raise 0] []]⟩
def F_most_of : FDef := ⟨1, ["part"], [
    .ite (.cmp .eq (.idx (.var 0) (.cst (.int 0))) (.cst (.str "some"))) [.ret (.pr .max2 [(.cst (.int 1)), (.idx (.var 0) (.cst (.int 2)))])] [],
    .ret (.cst (.int 1))]⟩
def F_is_stand : FDef := ⟨2, ["template", "thing"], [
    .ite (.or (.not (.isi .tuple (.var 1))) (.or (.cmp .ne (.pr .len [(.var 1)]) (.cst (.int 2))) (.not (.call f_is_whole [(.idx (.var 1) (.cst (.int 0))), (.cst (.int (-1))), (.bin .sub (.pr .len [(.var 0)]) (.cst (.int 1)))])))) [.ret (.cst (.bl false))] [],
    .ite (.cmp .lt (.idx (.var 1) (.cst (.int 0))) (.cst (.int 0))) [.ret (.call f_is_whole [(.idx (.var 1) (.cst (.int 1))), (.cst (.int 0)), (.cst (.int 0))])] [],
    .ret (.call f_is_whole [(.idx (.var 1) (.cst (.int 1))), (.cst (.int 1)), (.call f_most_of [(.idx (.var 0) (.idx (.var 1) (.cst (.int 0))))])])]⟩
def F_need_stand : FDef := ⟨2, ["template", "thing"], [
    .ite (.not (.call f_is_stand [(.var 0), (.var 1)])) [.raise 3] []]⟩
def F_is_done : FDef := ⟨2, ["template", "stand", "at", "many"], [
    .asg (.tp [(.nm 2), (.nm 3)]) (.var 1),
    .ret (.or (.cmp .lt (.var 2) (.cst (.int 0))) (.or (.cmp .ne (.idx (.idx (.var 0) (.var 2)) (.cst (.int 0))) (.cst (.str "some"))) (.cmp .ge (.var 3) (.idx (.idx (.var 0) (.var 2)) (.cst (.int 2))))))]⟩
def F_takes : FDef := ⟨2, ["part", "word"], [
    .ite (.cmp .eq (.idx (.var 0) (.cst (.int 0))) (.cst (.str "word"))) [.ret (.cmp .eq (.var 1) (.idx (.var 0) (.cst (.int 1))))] [],
    .ret (.cmp .notin (.var 1) (.idx (.var 0) (.cst (.int (-1)))))]⟩
def F_may_skip : FDef := ⟨3, ["template", "first", "last", "part"], [
    .ret (.pr .all [(.comp (.and (.cmp .eq (.idx (.var 3) (.cst (.int 0))) (.cst (.str "some"))) (.cmp .eq (.idx (.var 3) (.cst (.int 2))) (.cst (.int 0)))) (.nm 3) (.seq (.sl (.var 0) (some (.var 1)) (some (.var 2)))) none)])]⟩
def F_moves_at : FDef := ⟨3, ["template", "stand", "word", "made", "at", "many", "goal"], [
    .asg (.tp [(.nm 4), (.nm 5)]) (.var 1),
    .own 3 (.lst []),
    .ite (.and (.cmp .ge (.var 4) (.cst (.int 0))) (.and (.cmp .eq (.idx (.idx (.var 0) (.var 4)) (.cst (.int 0))) (.cst (.str "some"))) (.call f_takes [(.idx (.var 0) (.var 4)), (.var 2)]))) [.app 3 (.tup [(.var 4), (.pr .min2 [(.call f_most_of [(.idx (.var 0) (.var 4))]), (.bin .add (.var 5) (.cst (.int 1)))])])] [],
    .ite (.call f_is_done [(.var 0), (.var 1)]) [.for_ (.nm 6) (.rng2 (.bin .add (.var 4) (.cst (.int 1))) (.pr .len [(.var 0)])) [.ite (.and (.call f_may_skip [(.var 0), (.bin .add (.var 4) (.cst (.int 1))), (.var 6)]) (.call f_takes [(.idx (.var 0) (.var 6)), (.var 2)])) [.app 3 (.tup [(.var 6), (.cst (.int 1))])] []]] [],
    .frz 3,
    .ret (.var 3)]⟩
def F_moves : FDef := ⟨3, ["template", "stand", "word"], [
    .exp (.call f_need_template [(.var 0)]),
    .exp (.call f_need_stand [(.var 0), (.var 1)]),
    .ite (.not (.call f_is_word [(.var 2)])) [.raise 4] [],
    .ret (.call f_moves_at [(.var 0), (.var 1), (.var 2)])]⟩
def F_end_now : FDef := ⟨2, ["template", "stand"], [
    .ret (.and (.call f_is_done [(.var 0), (.var 1)]) (.call f_may_skip [(.var 0), (.bin .add (.idx (.var 1) (.cst (.int 0))) (.cst (.int 1))), (.pr .len [(.var 0)])]))]⟩
def F_is_text : FDef := ⟨1, ["thing"], [
    .ret (.and (.call f_are_words [(.var 0)]) (.cmp .le (.pr .len [(.var 0)]) (.gl "WORDS" (.int 12))))]⟩
def F_need_text : FDef := ⟨1, ["thing"], [
    .ite (.not (.call f_is_text [(.var 0)])) [.raise 1] []]⟩
def F_worths_of : FDef := ⟨3, ["template", "text", "row", "made", "at", "part", "words", "word", "place"], [
    .own 3 (.lst []),
    .for_ (.tp [(.nm 4), (.nm 5)]) (.enm (.var 0)) [.asg (.nm 6) (.pr .tpl [(.comp (.var 7) (.tp [(.nm 7), (.nm 8)]) (.zip2 (.var 1) (.var 2)) (some (.cmp .eq (.var 8) (.var 4))))]), .ite (.cmp .eq (.idx (.var 5) (.cst (.int 0))) (.cst (.str "one"))) [.app 3 (.tup [(.idx (.var 5) (.cst (.int 1))), (.idx (.var 6) (.cst (.int 0)))])] [.ite (.cmp .eq (.idx (.var 5) (.cst (.int 0))) (.cst (.str "some"))) [.app 3 (.tup [(.idx (.var 5) (.cst (.int 1))), (.var 6)])] []]],
    .ret (.pr .tpl [(.pr .srt [(.brw 3)])])]⟩
def F_runs : FDef := ⟨2, ["template", "text", "rows", "word", "later", "row", "stand", "other"], [
    .asg (.nm 2) (.lst [(.tup [(.lst []), (.gl "BEGIN" (.tup [(-1), (0)]))])]),
    .for_ (.nm 3) (.seq (.var 1)) [.own 4 (.lst []), .for_ (.tp [(.nm 5), (.nm 6)]) (.seq (.var 2)) [.ext 4 (.comp (.tup [(.bin .add (.var 5) (.lst [(.idx (.var 7) (.cst (.int 0)))])), (.var 7)]) (.nm 7) (.seq (.call f_moves_at [(.var 0), (.var 6), (.var 3)])) none)], .frz 4, .asg (.nm 2) (.var 4)],
    .ret (.comp (.var 5) (.tp [(.nm 5), (.nm 6)]) (.seq (.var 2)) (some (.call f_end_now [(.var 0), (.var 6)])))]⟩
def F_may_end : FDef := ⟨2, ["template", "stand"], [
    .exp (.call f_need_template [(.var 0)]),
    .exp (.call f_need_stand [(.var 0), (.var 1)]),
    .ret (.call f_end_now [(.var 0), (.var 1)])]⟩
def F_law_enough : FDef := ⟨2, ["template", "stand"], [
    .ret (.or (.cmp .eq (.idx (.var 1) (.cst (.int 0))) (.cst (.int (-1)))) (.or (.cmp .ne (.idx (.idx (.var 0) (.idx (.var 1) (.cst (.int 0)))) (.cst (.int 0))) (.cst (.str "some"))) (.cmp .ge (.idx (.var 1) (.cst (.int 1))) (.idx (.idx (.var 0) (.idx (.var 1) (.cst (.int 0)))) (.cst (.int 2))))))]⟩
def F_law_free : FDef := ⟨3, ["template", "first", "last", "part"], [
    .ret (.cmp .eq (.pr .len [(.comp (.cst (.int 1)) (.nm 3) (.seq (.sl (.var 0) (some (.var 1)) (some (.var 2)))) (some (.or (.cmp .ne (.idx (.var 3) (.cst (.int 0))) (.cst (.str "some"))) (.cmp .gt (.idx (.var 3) (.cst (.int 2))) (.cst (.int 0))))))]) (.cst (.int 0)))]⟩
def F_law_takes : FDef := ⟨2, ["part", "word"], [
    .ite (.cmp .eq (.idx (.var 0) (.cst (.int 0))) (.cst (.str "word"))) [.ret (.cmp .eq (.var 1) (.idx (.var 0) (.cst (.int 1))))] [],
    .ret (.cmp .notin (.var 1) (.idx (.var 0) (.cst (.int (-1)))))]⟩
def F_law_cap : FDef := ⟨1, ["part"], [
    .ret (.ife (.cmp .eq (.idx (.var 0) (.cst (.int 0))) (.cst (.str "some"))) (.pr .max2 [(.cst (.int 1)), (.idx (.var 0) (.cst (.int 2)))]) (.cst (.int 1)))]⟩
def F_law_moves : FDef := ⟨3, ["template", "stand", "word", "made", "goal", "at", "many"], [
    .asg (.tp [(.nm 5), (.nm 6)]) (.var 1),
    .own 3 (.lst []),
    .for_ (.nm 4) (.rng2 (.pr .max2 [(.cst (.int 0)), (.var 5)]) (.pr .len [(.var 0)])) [.ite (.call f_law_takes [(.idx (.var 0) (.var 4)), (.var 2)]) [.ite (.and (.cmp .eq (.var 4) (.var 5)) (.cmp .eq (.idx (.idx (.var 0) (.var 5)) (.cst (.int 0))) (.cst (.str "some")))) [.app 3 (.tup [(.var 5), (.pr .min2 [(.bin .add (.var 6) (.cst (.int 1))), (.call f_law_cap [(.idx (.var 0) (.var 5))])])])] [], .ite (.and (.cmp .gt (.var 4) (.var 5)) (.and (.call f_law_enough [(.var 0), (.var 1)]) (.call f_law_free [(.var 0), (.bin .add (.var 5) (.cst (.int 1))), (.var 4)]))) [.app 3 (.tup [(.var 4), (.cst (.int 1))])] []] []],
    .frz 3,
    .ret (.var 3)]⟩
def F_law_mixed_1 : FDef := ⟨3, ["script", "k", "many", "drawn"], [
    .asg (.nm 3) (.bin .mod (.bin .add (.bin .add (.bin .mul (.call f_law_cell_at [(.var 0), (.var 1)]) (.cst (.int 1103515245))) (.bin .mul (.cst (.int 7919)) (.var 1))) (.cst (.int 12345))) (.cst (.int 2147483647))),
    .ret (.bin .mod (.bin .mod (.bin .mod (.bin .pow (.var 3) (.cst (.int 5))) (.cst (.int 2147483647))) (.cst (.int 999983))) (.var 2))]⟩
def F_law_draw_1 : FDef := ⟨3, ["script", "town", "many"], [
    .tick 1,
    .ret (.call f_law_mixed_1 [(.var 0), (.tlen (.var 1)), (.var 2)])]⟩
def F_law_pick_1 : FDef := ⟨3, ["script", "town", "some"], [
    .ret (.idx (.var 2) (.call f_law_draw_1 [(.var 0), (.var 1), (.pr .len [(.var 2)])]))]⟩
def F_law_barred_1 : FDef := ⟨2, ["script", "town", "some", "k"], [
    .asg (.nm 2) (.comp (.call f_law_pick_1 [(.var 0), (.var 1), (.lst [(.cst (.str "a")), (.cst (.str "b")), (.cst (.str "c"))])]) (.nm 3) (.rng (.call f_law_draw_1 [(.var 0), (.var 1), (.cst (.int 3))])) none),
    .ret (.pr .tpl [(.sset (.var 2))])]⟩
def F_law_template_1 : FDef := ⟨3, ["script", "town", "most", "made", "gaps", "k", "kind", "low"], [
    .asg (.nm 3) (.tup []),
    .asg (.nm 4) (.lst [(.cst (.str "x")), (.cst (.str "y")), (.cst (.str "z")), (.cst (.str "what")), (.cst (.str "rest")), (.cst (.str "name"))]),
    .for_ (.nm 5) (.rng (.call f_law_draw_1 [(.var 0), (.var 1), (.bin .add (.var 2) (.cst (.int 1)))])) [.asg (.nm 6) (.call f_law_draw_1 [(.var 0), (.var 1), (.cst (.int 3))]), .ite (.cmp .eq (.var 6) (.cst (.int 0))) [.asg (.nm 3) (.bin .add (.var 3) (.tup [(.tup [(.cst (.str "word")), (.call f_law_pick_1 [(.var 0), (.var 1), (.lst [(.cst (.str "a")), (.cst (.str "b")), (.cst (.str "get"))])])])]))] [.ite (.cmp .eq (.var 6) (.cst (.int 1))) [.asg (.nm 3) (.bin .add (.var 3) (.tup [(.tup [(.cst (.str "one")), (.idx (.var 4) (.var 5)), (.call f_law_barred_1 [(.var 0), (.var 1)])])]))] [.asg (.nm 7) (.call f_law_pick_1 [(.var 0), (.var 1), (.lst [(.cst (.int 0)), (.cst (.int 0)), (.cst (.int 1)), (.cst (.int 2))])]), .asg (.nm 3) (.bin .add (.var 3) (.tup [(.tup [(.cst (.str "some")), (.idx (.var 4) (.var 5)), (.var 7), (.call f_law_barred_1 [(.var 0), (.var 1)])])]))]]],
    .ret (.var 3)]⟩
def F_law_which_1 : FDef := ⟨1, ["e", "own"], [
    .own 1 (.lst [(.isx 0 (.var 0)), (.isx 1 (.var 0)), (.isx 2 (.var 0)), (.isx 3 (.var 0))]),
    .ext 1 (.lst [(.isx 4 (.var 0)), (.isx 5 (.var 0)), (.isx 6 (.var 0)), (.isx 7 (.var 0))]),
    .ext 1 (.lst [(.isx 8 (.var 0)), (.isx 9 (.var 0)), (.isx 10 (.var 0)), (.isx 11 (.var 0))]),
    .ext 1 (.lst [(.isx 12 (.var 0)), (.isx 13 (.var 0))]),
    .ite (.or (.cmp .ne (.mth .cnt (.brw 1) (.cst (.bl true))) (.cst (.int 1))) (.not (.isv (.var 0)))) [.ret (.tup [(.cst (.str "refused")), (.cst (.int (-1)))])] [],
    .ret (.tup [(.cst (.str "refused")), (.mth .idx (.brw 1) (.cst (.bl true)))])]⟩
def F_law_odd : FDef := ⟨2, ["script", "town", "some"], [
    .asg (.nm 2) (.lst [(.cst .non), (.cst (.int 5)), (.lst []), (.tup [(.cst (.int 5))]), (.tup [(.tup [(.cst (.str "word"))])]), (.tup [(.tup [(.cst (.str "word")), (.cst (.str "A"))])]), (.tup [(.tup [(.cst (.str "word")), (.cst (.str "toolong"))])]), (.tup [(.tup [(.cst (.str "one")), (.cst (.str "x"))])]), (.cst (.str "get <x>"))]),
    .asg (.nm 2) (.bin .add (.var 2) (.lst [(.tup [(.tup [(.cst (.str "one")), (.cst (.str "x")), (.lst [(.cst (.str "a"))])])]), (.tup [(.tup [(.cst (.str "one")), (.cst (.str "x")), (.tup [(.cst (.str "b")), (.cst (.str "a"))])])]), (.tup [(.tup [(.cst (.str "some")), (.cst (.str "x")), (.cst (.int 3)), (.tup [])])]), (.tup [(.tup [(.cst (.str "gap")), (.cst (.str "x")), (.tup [])])])])),
    .asg (.nm 2) (.bin .add (.var 2) (.lst [(.tup [(.tup [(.cst (.str "one")), (.cst (.str "x")), (.tup [])]), (.tup [(.cst (.str "some")), (.cst (.str "x")), (.cst (.int 0)), (.tup [])])]), (.bin .mul (.tup [(.tup [(.cst (.str "word")), (.cst (.str "a"))])]) (.cst (.int 7))), (.tup [(.tup [(.cst (.str "some")), (.cst (.str "x")), (.cst (.bl true)), (.tup [])])])])),
    .ret (.call f_law_pick_1 [(.var 0), (.var 1), (.bin .add (.var 2) (.lst [(.tup [(.tup [(.cst (.str "one")), (.cst (.str "x")), (.tup [(.cst (.str "a")), (.cst (.str "b")), (.cst (.str "c")), (.cst (.str "d"))])])]), (.tup [(.tup [(.cst (.str "one")), (.cst (.str "x")), (.tup [(.cst (.str "a")), (.cst (.str "a"))])])])]))])]⟩
def F_is_plain : FDef := ⟨1, ["template", "part"], [
    .exp (.call f_need_template [(.var 0)]),
    .ret (.pr .all [(.comp (.cmp .eq (.idx (.var 1) (.cst (.int 0))) (.cst (.str "word"))) (.nm 1) (.seq (.var 0)) none)])]⟩
def F_words_of : FDef := ⟨1, ["template", "part"], [
    .exp (.call f_need_template [(.var 0)]),
    .ret (.comp (.idx (.var 1) (.cst (.int 1))) (.nm 1) (.seq (.var 0)) (some (.cmp .eq (.idx (.var 1) (.cst (.int 0))) (.cst (.str "word")))))]⟩
def F_joined : FDef := ⟨2, ["one", "other", "made"], [
    .exp (.call f_need_template [(.var 0)]),
    .exp (.call f_need_template [(.var 1)]),
    .asg (.nm 2) (.bin .add (.var 0) (.var 1)),
    .ite (.cmp .gt (.pr .len [(.var 2)]) (.gl "PARTS" (.int 6))) [.raise 12] [],
    .ite (.not (.call f_is_template [(.var 2)])) [.raise 11] [],
    .ret (.var 2)]⟩
def F_parts_around : FDef := ⟨2, ["template", "word", "made", "at", "part"], [
    .exp (.call f_need_template [(.var 0)]),
    .own 2 (.lst []),
    .for_ (.tp [(.nm 3), (.nm 4)]) (.enm (.var 0)) [.ite (.cmp .eq (.var 4) (.tup [(.cst (.str "word")), (.var 1)])) [.app 2 (.tup [(.sl (.var 0) none (some (.var 3))), (.sl (.var 0) (some (.bin .add (.var 3) (.cst (.int 1)))) none)])] []],
    .frz 2,
    .ret (.var 2)]⟩
def F_how_often_taken : FDef := ⟨2, ["template", "text", "row"], [
    .exp (.call f_need_template [(.var 0)]),
    .exp (.call f_need_text [(.var 1)]),
    .ret (.lset (.comp (.call f_worths_of [(.var 0), (.var 1), (.var 2)]) (.nm 2) (.seq (.call f_runs [(.var 0), (.var 1)])) none))]⟩
def F_first_run : FDef := ⟨2, ["template", "text", "some", "row"], [
    .asg (.nm 2) (.call f_runs [(.var 0), (.var 1)]),
    .ite (.cmp .eq (.var 2) (.lst [])) [.ret (.cst .non)] [],
    .ret (.idx (.pr .mn [(.comp (.tup [(.call f_worths_of [(.var 0), (.var 1), (.var 3)]), (.var 3)]) (.nm 3) (.seq (.var 2)) none)]) (.cst (.int 1)))]⟩
def F_taken_by : FDef := ⟨2, ["template", "text"], [
    .exp (.call f_need_template [(.var 0)]),
    .exp (.call f_need_text [(.var 1)]),
    .ret (.call f_first_run [(.var 0), (.var 1)])]⟩
def F_marks : FDef := ⟨2, ["template", "text", "row", "at"], [
    .exp (.call f_need_template [(.var 0)]),
    .exp (.call f_need_text [(.var 1)]),
    .asg (.nm 2) (.call f_first_run [(.var 0), (.var 1)]),
    .ite (.cmp .is (.var 2) (.cst .non)) [.ret (.cst .non)] [],
    .ret (.comp (.ife (.cmp .eq (.idx (.idx (.var 0) (.var 3)) (.cst (.int 0))) (.cst (.str "word"))) (.cst (.str "")) (.idx (.idx (.var 0) (.var 3)) (.cst (.int 1)))) (.nm 3) (.seq (.var 2)) none)]⟩
def F_alike_words : FDef := ⟨2, ["template", "text", "some", "made", "place", "word", "parts", "row"], [
    .exp (.call f_need_template [(.var 0)]),
    .exp (.call f_need_text [(.var 1)]),
    .asg (.nm 2) (.call f_runs [(.var 0), (.var 1)]),
    .ite (.cmp .eq (.var 2) (.lst [])) [.ret (.cst .non)] [],
    .own 3 (.lst []),
    .for_ (.tp [(.nm 4), (.nm 5)]) (.enm (.var 1)) [.asg (.nm 6) (.comp (.idx (.var 7) (.var 4)) (.nm 7) (.seq (.var 2)) none), .ite (.and (.cmp .eq (.mth .cnt (.var 6) (.idx (.var 6) (.cst (.int 0)))) (.pr .len [(.var 6)])) (.cmp .ne (.idx (.idx (.var 0) (.idx (.var 6) (.cst (.int 0)))) (.cst (.int 0))) (.cst (.str "word")))) [.app 3 (.tup [(.var 4), (.idx (.idx (.var 0) (.idx (.var 6) (.cst (.int 0)))) (.cst (.int 1)))])] []],
    .frz 3,
    .ret (.var 3)]⟩
def F_law_ask_13 : FDef := ⟨3, ["what", "template", "text", "e"], [
    .tryw 3 f_law_which_1 14 [.ret (.callv (.idx (.lst [(.fn f_taken_by), (.fn f_marks), (.fn f_how_often_taken), (.fn f_alike_words)]) (.var 0)) [(.var 1), (.var 2)])]]⟩
def F_k29_law : FDef := ⟨1, ["script", "town", "bad", "template", "text", "fewest", "part", "what"], [
    .town 1,
    .asg (.nm 2) (.call f_law_odd [(.var 0), (.var 1)]),
    .ite (.cmp .ne (.comp (.call f_law_ask_13 [(.var 7), (.var 2), (.cst .non)]) (.nm 7) (.rng (.cst (.int 4))) none) (.bin .mul (.lst [(.tup [(.cst (.str "refused")), (.cst (.int 0))])]) (.cst (.int 4)))) [.ret (.cst (.bl false))] [],
    .asg (.nm 3) (.call f_law_template_1 [(.var 0), (.var 1), (.cst (.int 6))]),
    .asg (.nm 4) (.call f_law_pick_1 [(.var 0), (.var 1), (.lst [(.cst .non), (.cst (.int 5)), (.cst (.str "a")), (.lst [(.cst (.str "a"))]), (.tup [(.cst (.str "A"))]), (.tup [(.cst (.str "a")), (.cst (.int 5))]), (.bin .mul (.tup [(.cst (.str "a"))]) (.cst (.int 13))), (.tup [(.cst (.str ""))]), (.tup [(.cst (.str "toolong"))])])]),
    .ite (.cmp .ne (.comp (.call f_law_ask_13 [(.var 7), (.var 3), (.var 4)]) (.nm 7) (.rng (.cst (.int 4))) none) (.bin .mul (.lst [(.tup [(.cst (.str "refused")), (.cst (.int 1))])]) (.cst (.int 4)))) [.ret (.cst (.bl false))] [],
    .asg (.nm 5) (.comp (.var 6) (.nm 6) (.seq (.var 3)) (some (.or (.cmp .ne (.idx (.var 6) (.cst (.int 0))) (.cst (.str "some"))) (.cmp .gt (.idx (.var 6) (.cst (.int 2))) (.cst (.int 0)))))),
    .ret (.and (.cmp .eq (.cmp .eq (.call f_law_ask_13 [(.cst (.int 0)), (.var 3), (.tup [])]) (.lst [])) (.cmp .eq (.var 5) (.lst []))) (.cmp .eq (.call f_law_ask_13 [(.cst (.int 2)), (.tup []), (.tup [])]) (.cst (.int 1))))]⟩
def allF : List FDef := [F_law_cell_at, F_law_mixed, F_law_draw, F_law_pick, F_law_word, F_law_barred, F_law_template, F_0, F_0, F_0, F_is_word, F_are_words, F_is_barred, F_is_whole, F_is_part, F_is_template, F_need_template, F_most_of, F_is_stand, F_need_stand, F_is_done, F_takes, F_may_skip, F_moves_at, F_moves, F_0, F_0, F_0, F_0, F_0, F_0, F_end_now, F_0, F_0, F_0, F_0, F_0, F_is_text, F_need_text, F_worths_of, F_runs, F_0, F_0, F_0, F_0, F_0, F_0, F_0, F_0, F_0, F_0, F_0, F_0, F_0, F_0, F_0, F_0, F_0, F_0, F_may_end, F_0, F_0, F_0, F_0, F_0, F_0, F_0, F_0, F_0, F_0, F_0, F_0, F_0, F_0, F_0, F_0, F_0, F_0, F_law_enough, F_law_free, F_law_takes, F_law_cap, F_law_moves, F_0, F_0, F_0, F_0, F_0, F_0, F_0, F_0, F_0, F_0, F_0, F_0, F_0, F_0, F_0, F_0, F_0, F_0, F_0, F_0, F_0, F_0, F_0, F_0, F_0, F_0, F_0, F_0, F_0, F_0, F_0, F_0, F_0, F_0, F_0, F_0, F_0, F_0, F_0, F_0, F_0, F_0, F_law_mixed_1, F_law_draw_1, F_law_pick_1, F_law_barred_1, F_law_template_1, F_0, F_0, F_0, F_law_which_1, F_0, F_0, F_0, F_0, F_0, F_0, F_law_odd, F_0, F_0, F_0, F_0, F_0, F_0, F_0, F_0, F_0, F_0, F_0, F_0, F_0, F_0, F_0, F_0, F_0, F_0, F_0, F_0, F_0, F_0, F_is_plain, F_words_of, F_0, F_0, F_0, F_joined, F_0, F_0, F_0, F_parts_around, F_0, F_0, F_0, F_how_often_taken, F_first_run, F_taken_by, F_marks, F_0, F_0, F_alike_words, F_0, F_law_ask_13, F_k29_law, F_0, F_0, F_0, F_0, F_0, F_0, F_0, F_0, F_0, F_0, F_0, F_0, F_0, F_0, F_0, F_0]
def Δ (n : Nat) : Option FDef := allF[n]?
end G
/-! P1: how the small programs are worked out by hand. -/
namespace G
open PySem
section
variable {α β γ : Type}
theorem bnd_r (a : α) (f : α → M β) : bnd (ret a) f = f a := rfl
theorem bnd_fail (f : α → M β) : bnd fail f = fail := rfl
theorem bnd_bnd (m : M α) (f : α → M β) (g : β → M γ) : bnd (bnd m f) g = bnd m fun a => bnd (f a) g := by
  funext s
  unfold bnd
  cases m s <;> rfl
theorem bnd_id (m : M α) : bnd m (fun a => ret a) = m := by
  funext s
  unfold bnd
  cases m s <;> rfl
theorem opt_some (a : α) : opt (some a) = ret a := rfl
def raiseM (c : Nat) : M α := fun s => .exc c s
theorem bnd_exc (c : Nat) (f : α → M β) : bnd (fun s => Res.exc c s) f = raiseM c := rfl
theorem bnd_raise (c : Nat) (f : α → M β) : bnd (raiseM c) f = raiseM c := rfl
theorem bnd_ite {p : Prop} [Decidable p] (x y : M α) (f : α → M β) : bnd (if p then x else y) f = if p then bnd x f else bnd y f := by split <;> rfl
theorem noexc_ret (a : α) : noexc (ret a) = ret a := rfl
end
theorem sem_at {k f : Nat} {ds : List D} {F : FDef} (h : Δ f = some F) (hl : ds.length = F.ar) : sem Δ (k + 1) f ds = runF (sem Δ k) F ds := by
  rw [sem, h]
  dsimp only
  rw [if_pos hl]
theorem blD_bl (b : Bool) : blD (.bl b) = ret b := rfl
theorem run_def (Γ : Nat → List D → M D) (F : FDef) (ds : List D) : runF Γ F ds = bnd (exs Γ F.body (startF F ds)) outF := rfl
theorem out_rt (d : D) : outF (.rt d) = ret d := rfl
theorem out_nx (ρ : Fr) : outF (.nx ρ) = ret .non := rfl
theorem ex_raise (Γ : Nat → List D → M D) (c : Nat) (ρ : Fr) : ex Γ (.raise c) ρ = raiseM c := by rw [ex]; rfl
/-! ### operators on what is known -/
theorem gv_i (i : Int) : (GV.int i).toD = .int i := rfl
theorem gv_s (x : Str) : (GV.str x).toD = .str x := rfl
theorem isi_of {t : Ty} {d : D} {b : Bool} (h : isTy t d = some b) : dIsi t d = some (.bl b) := by unfold dIsi; rw [h]; rfl
theorem ty_s (x : Str) : isTy .str (.str x) = some true := rfl
theorem ty_t (l : List D) : isTy .tuple (.tup l) = some true := rfl
theorem ty_st (l : List D) : isTy .str (.tup l) = some false := rfl
theorem ty_ts (x : Str) : isTy .tuple (.str x) = some false := rfl
theorem ty_i (i : Int) : isTy .int (.int i) = some true := rfl
theorem ty_bi (i : Int) : isTy .bool (.int i) = some false := rfl
theorem ty_bb (b : Bool) : isTy .bool (.bl b) = some true := rfl
theorem ty_l (l : List D) : isTy .list (.lst l) = some true := rfl
theorem len_s (x : Str) : dPrim .len [.str x] = some (.int x.length) := rfl
theorem len_t (l : List D) : dPrim .len [.tup l] = some (.int l.length) := rfl
theorem len_l (l : List D) : dPrim .len [.lst l] = some (.int l.length) := rfl
theorem len_c (l : List Int) : dPrim .len [.scr l] = some (.int l.length) := rfl
theorem pr_tl (l : List D) : dPrim .tpl [.lst l] = some (.tup l) := rfl
theorem pr_tt (l : List D) : dPrim .tpl [.tup l] = some (.tup l) := rfl
theorem pr_lt (l : List D) : dPrim .lst [.tup l] = some (.lst l) := rfl
theorem pr_ll (l : List D) : dPrim .lst [.lst l] = some (.lst l) := rfl
theorem cmp_lt (i j : Int) : dCmp .lt (.int i) (.int j) = some (.bl (decide (i < j))) := rfl
theorem cmp_le (i j : Int) : dCmp .le (.int i) (.int j) = some (.bl (decide (i ≤ j))) := rfl
theorem cmp_gt (i j : Int) : dCmp .gt (.int i) (.int j) = some (.bl (decide (j < i))) := rfl
theorem cmp_ge (i j : Int) : dCmp .ge (.int i) (.int j) = some (.bl (decide (j ≤ i))) := rfl
theorem eq_s (x y : Str) : dCmp .eq (.str x) (.str y) = some (.bl (x == y)) := rfl
theorem ne_s (x y : Str) : dCmp .ne (.str x) (.str y) = some (.bl (!(x == y))) := rfl
theorem eq_i (i j : Int) : dCmp .eq (.int i) (.int j) = some (.bl (i == j)) := rfl
theorem ne_i (i j : Int) : dCmp .ne (.int i) (.int j) = some (.bl (!(i == j))) := rfl
theorem eq_b (i j : Bool) : dCmp .eq (.bl i) (.bl j) = some (.bl (i == j)) := rfl
theorem ne_b (i j : Bool) : dCmp .ne (.bl i) (.bl j) = some (.bl (!(i == j))) := rfl
theorem add_i (i j : Int) : dBin .add (.int i) (.int j) = some (.int (i + j)) := rfl
theorem sub_i (i j : Int) : dBin .sub (.int i) (.int j) = some (.int (i - j)) := rfl
theorem mt_s (x y : Str) : dMt .strip (.str x) (.str y) = some (.str (stripS x y)) := rfl
theorem mtok_s (x : Str) : mtOk .strip (.str x) = true := rfl
theorem mtok_l (l : List D) : mtOk .cnt (.lst l) = true := rfl
theorem ite_bl (p q : Bool) : (if p = true then ret (D.bl q) else ret (D.bl false) : M D) = ret (.bl (p && q)) := by cases p <;> rfl
theorem ite_or (p q : Bool) : (if p = true then ret (D.bl true) else ret (D.bl q) : M D) = ret (.bl (p || q)) := by cases p <;> rfl
theorem ite_fl (p : Bool) : (if p = true then ret (D.bl false) else ret (D.bl true) : M D) = ret (.bl (!p)) := by cases p <;> rfl
theorem asg_nm (i : Nat) (ρ : Fr) (d : D) : asgT (.nm i) ρ d = setF ρ i (some (.sh d)) := rfl
theorem asg_tp (ts : List Tg) (ρ : Fr) (ds : List D) : asgT (.tp ts) ρ (.tup ds) = asgTs ts ρ ds := rfl
theorem asgs_nil (ρ : Fr) : asgTs [] ρ [] = some ρ := rfl
theorem asgs_cons (t : Tg) (ts : List Tg) (ρ : Fr) (d : D) (ds : List D) : asgTs (t :: ts) ρ (d :: ds) = (asgT t ρ d).bind fun ρ' => asgTs ts ρ' ds := rfl
theorem seq_t (l : List D) : seqOf (.tup l) = some l := rfl
theorem seq_l (l : List D) : seqOf (.lst l) = some l := rfl
theorem it_t (l : List D) : itemsOf (.tup l) = some l := rfl
theorem it_l (l : List D) : itemsOf (.lst l) = some l := rfl
inductive All2 {α β : Type} (R : α → β → Prop) : List α → List β → Prop
  | nil : All2 R [] []
  | cons {a : α} {b : β} {as : List α} {bs : List β} : R a b → All2 R as bs → All2 R (a :: as) (b :: bs)
theorem All2.length {α β : Type} {R : α → β → Prop} {as : List α} {bs : List β} (h : All2 R as bs) : bs.length = as.length := by
  induction h with
  | nil => rfl
  | cons _ _ ih => simp [ih]
theorem All2.all {α β : Type} {R : α → β → Prop} {P : β → Prop} {as : List α} {bs : List β} (h : All2 R as bs) (f : ∀ a b, R a b → P b) : ∀ b ∈ bs, P b := by
  induction h with
  | nil => exact fun _ m => nomatch m
  | cons r _ ih =>
    intro b m
    rcases List.mem_cons.mp m with rfl | m
    · exact f _ _ r
    · exact ih b m
/-! ### runs that draw -/
/-- from some draws on, with at most c more: an answer of which P holds -/
def Hl {α : Type} (c : Nat) (m : M α) (P : α → Prop) : Prop := ∀ n : Nat, n + c ≤ 10000000 → ∃ (a : α) (n' : Nat), m (some n) = .ok a (some n') ∧ n' ≤ n + c ∧ P a
section
variable {α β : Type} {c d : Nat} {m : M α} {P : α → Prop} {Q : β → Prop}
theorem Hl.ret {a : α} (h : P a) : Hl 0 (G.ret a) P := fun n _ => ⟨a, n, rfl, Nat.le_refl _, h⟩
theorem Hl.bnd {f : α → M β} (h : Hl c m P) (g : ∀ a, P a → Hl d (f a) Q) : Hl (c + d) (G.bnd m f) Q := fun n hn => by
  obtain ⟨a, n1, e1, l1, p1⟩ := h n (by omega)
  obtain ⟨b, n2, e2, l2, p2⟩ := g a p1 n1 (by omega)
  refine ⟨b, n2, ?_, by omega, p2⟩
  unfold G.bnd
  rw [e1]
  exact e2
theorem Hl.imp {P' : α → Prop} (h : Hl c m P) (f : ∀ a, P a → P' a) : Hl c m P' := fun n hn => by
  obtain ⟨a, n1, e1, l1, p1⟩ := h n hn
  exact ⟨a, n1, e1, l1, f a p1⟩
theorem Hl.mono (h : Hl c m P) (l : c ≤ d) : Hl d m P := fun n hn => by
  obtain ⟨a, n1, e1, l1, p1⟩ := h n (by omega)
  exact ⟨a, n1, e1, by omega, p1⟩
theorem Hl.noexc (h : Hl c m P) : Hl c (G.noexc m) P := fun n hn => by
  obtain ⟨a, n1, e1, l1, p1⟩ := h n hn
  refine ⟨a, n1, ?_, l1, p1⟩
  unfold G.noexc
  rw [e1]
theorem Hl.lenOk {l : List α} (h : l.length ≤ 1000000) : lenOk l = G.ret l := by unfold G.lenOk; rw [if_pos h]
/-- a comprehension without a test -/
theorem Hl.comp {step : D → M (Option D)} {R : D → D → Prop} : ∀ (ds : List D), (∀ x ∈ ds, Hl c (step x) fun o => ∃ y, o = some y ∧ R x y) → Hl (c * ds.length) (compL step ds) fun l => All2 R ds l
  | [], _ => Hl.ret .nil
  | x :: ds, h => by
    have := Hl.bnd (h x List.mem_cons_self) (d := c * ds.length) (f := fun o => G.bnd (compL step ds) fun r => G.ret (match o with | some x => x :: r | none => r)) (Q := fun l => All2 R (x :: ds) l) fun o ⟨y, e, q⟩ => by
      subst e
      exact (Hl.bnd (d := 0) (Hl.comp ds fun z hz => h z (List.mem_cons_of_mem _ hz)) fun l hl => Hl.ret (.cons q hl)).mono (by omega)
    exact this.mono (by rw [List.length_cons, Nat.mul_succ]; omega)
/-- a for: an invariant by the turn -/
theorem Hl.for_ {body : Fr → D → M Flw} {I : Nat → Fr → Prop} : ∀ (ds : List D) (i : Nat) (ρ : Fr), I i ρ → (∀ (j : Nat) (x : D) (ρ : Fr), ds[j]? = some x → I (i + j) ρ → Hl c (body ρ x) fun f => ∃ ρ', (f = .nx ρ' ∨ f = .ct ρ') ∧ I (i + j + 1) ρ') →
    Hl (c * ds.length) (forL body ds ρ) fun f => ∃ ρ', f = .nx ρ' ∧ I (i + ds.length) ρ'
  | [], i, ρ, h0, _ => Hl.ret ⟨ρ, rfl, h0⟩
  | x :: ds, i, ρ, h0, h => by
    have := Hl.bnd (h 0 x ρ rfl h0) (d := c * ds.length) (f := fun f => match f with | .nx ρ' => forL body ds ρ' | .ct ρ' => forL body ds ρ' | .rt d => G.ret (.rt d)) (Q := fun f => ∃ ρ', f = .nx ρ' ∧ I (i + (x :: ds).length) ρ') fun f ⟨ρ', e, h1⟩ => by
      have ih := Hl.for_ ds (i + 1) ρ' h1 fun j y ρ hj hI => by
        have := h (j + 1) y ρ (by simpa using hj) (by rw [show i + (j + 1) = i + 1 + j from by omega]; exact hI)
        rw [show i + (j + 1) + 1 = i + 1 + j + 1 from by omega] at this
        exact this
      rw [show i + 1 + ds.length = i + (x :: ds).length from by simp; omega] at ih
      rcases e with rfl | rfl
      · exact ih
      · exact ih
    exact this.mono (by rw [List.length_cons, Nat.mul_succ]; omega)
end
/-- a pure comprehension -/
theorem compL_pure {step : D → M (Option D)} {f : D → Option D} : ∀ (ds : List D), (∀ x ∈ ds, step x = ret (f x)) → compL step ds = ret (ds.filterMap f)
  | [], _ => rfl
  | x :: ds, h => by
    unfold compL
    rw [h x List.mem_cons_self, bnd_r, compL_pure ds fun z hz => h z (List.mem_cons_of_mem _ hz), bnd_r, List.filterMap_cons]
    cases f x <;> rfl
end G
/-! P2: draws. -/
namespace G
open PySem L2
theorem mul_i {i j : Int} (h : CMulB i j = true) : dBin .mul (.int i) (.int j) = some (.int (i * j)) := by
  show (if CMulB i j = true then _ else _) = _
  rw [if_pos h]
theorem cm_r {i j : Int} (h1 : -(2 ^ 64) < j) (h2 : j < 2 ^ 64) : CMulB i j = true := by
  unfold CMulB
  rw [decide_eq_true h1, decide_eq_true h2]
  simp
theorem cm_l {i j : Int} (h1 : -(2 ^ 64) < i) (h2 : i < 2 ^ 64) : CMulB i j = true := by
  unfold CMulB
  rw [decide_eq_true h1, decide_eq_true h2]
  simp
theorem mod_i {i j : Int} (h : 0 < j) : dBin .mod (.int i) (.int j) = some (.int (i % j)) := by
  show (if 0 < j then _ else _) = _
  rw [if_pos h]
theorem pow_i {i j : Int} (h : 0 ≤ j ∧ j ≤ 1000000 ∧ i.natAbs < 2 ^ 64) : dBin .pow (.int i) (.int j) = some (.int (i ^ j.toNat)) := by
  show (if _ then _ else _) = _
  rw [if_pos h]
theorem scr_eq (ns : List Int) : dCmp .eq (.scr ns) (.lst []) = some (.bl ns.isEmpty) := rfl
theorem c_cell (k : Nat) (ns : List Int) (i : Nat) : ∃ z : Int, sem Δ (k + 1) f_law_cell_at [.scr ns, .int i] = ret (.int z) := by
  rw [sem_at (F := F_law_cell_at) rfl rfl]
  unfold F_law_cell_at
  (try simp -implicitDefEqProofs only [run_def, startF, exs, ex, ev, evs, evo, iter, bnd_r, bnd_fail, bnd_bnd, opt_some, bnd_exc, bnd_raise, bnd_ite, blD_bl, out_rt, out_nx, ex_raise, List.map_cons, List.map_nil, List.cons_append, List.nil_append, List.length_cons, List.length_nil, List.replicate, Nat.reduceSub, Nat.reduceAdd, List.getElem?_cons_zero, List.getElem?_cons_succ, if_true, Bool.false_eq_true, if_false, reduceIte, setF, asg_nm, asg_tp, asgs_nil, asgs_cons, List.set_cons_zero, List.set_cons_succ, Option.bind_some, Nat.reduceLT, gv_i, gv_s, isi_of (ty_s _), isi_of (ty_t _), isi_of (ty_st _), isi_of (ty_ts _), isi_of (ty_i _), isi_of (ty_bi _), isi_of (ty_bb _), isi_of (ty_l _), len_s, len_t, len_l, len_c, pr_tl, pr_tt, pr_lt, pr_ll, cmp_lt, cmp_le, cmp_gt, cmp_ge, eq_s, ne_s, eq_i, ne_i, eq_b, ne_b, add_i, sub_i, mt_s, mtok_s, mtok_l, ite_bl, ite_or, ite_fl, bnd_id, wipeF, Tg.slots, Tg.slotsL, List.append_nil, noexc_ret, seq_t, seq_l, it_t, it_l, List.length_set])
  by_cases h : i < ns.length
  · have e : decide ((i : Int) < (ns.length : Int)) = true := decide_eq_true (by omega)
    rw [e]
    refine ⟨ns[i], ?_⟩
    have : dIdx (.scr ns) (.int (i : Int)) = some (.int ns[i]) := by
      show (atI ns (i : Int)).map D.int = _
      rw [atI_nat (List.getElem?_eq_getElem h)]; rfl
    rw [this]
    (try simp -implicitDefEqProofs only [run_def, startF, exs, ex, ev, evs, evo, iter, bnd_r, bnd_fail, bnd_bnd, opt_some, bnd_exc, bnd_raise, bnd_ite, blD_bl, out_rt, out_nx, ex_raise, List.map_cons, List.map_nil, List.cons_append, List.nil_append, List.length_cons, List.length_nil, List.replicate, Nat.reduceSub, Nat.reduceAdd, List.getElem?_cons_zero, List.getElem?_cons_succ, if_true, Bool.false_eq_true, if_false, reduceIte, setF, asg_nm, asg_tp, asgs_nil, asgs_cons, List.set_cons_zero, List.set_cons_succ, Option.bind_some, Nat.reduceLT, gv_i, gv_s, isi_of (ty_s _), isi_of (ty_t _), isi_of (ty_st _), isi_of (ty_ts _), isi_of (ty_i _), isi_of (ty_bi _), isi_of (ty_bb _), isi_of (ty_l _), len_s, len_t, len_l, len_c, pr_tl, pr_tt, pr_lt, pr_ll, cmp_lt, cmp_le, cmp_gt, cmp_ge, eq_s, ne_s, eq_i, ne_i, eq_b, ne_b, add_i, sub_i, mt_s, mtok_s, mtok_l, ite_bl, ite_or, ite_fl, bnd_id, wipeF, Tg.slots, Tg.slotsL, List.append_nil, noexc_ret, seq_t, seq_l, it_t, it_l, List.length_set])
  · have e : decide ((i : Int) < (ns.length : Int)) = false := decide_eq_false (by omega)
    rw [e, scr_eq]
    (try simp -implicitDefEqProofs only [run_def, startF, exs, ex, ev, evs, evo, iter, bnd_r, bnd_fail, bnd_bnd, opt_some, bnd_exc, bnd_raise, bnd_ite, blD_bl, out_rt, out_nx, ex_raise, List.map_cons, List.map_nil, List.cons_append, List.nil_append, List.length_cons, List.length_nil, List.replicate, Nat.reduceSub, Nat.reduceAdd, List.getElem?_cons_zero, List.getElem?_cons_succ, if_true, Bool.false_eq_true, if_false, reduceIte, setF, asg_nm, asg_tp, asgs_nil, asgs_cons, List.set_cons_zero, List.set_cons_succ, Option.bind_some, Nat.reduceLT, gv_i, gv_s, isi_of (ty_s _), isi_of (ty_t _), isi_of (ty_st _), isi_of (ty_ts _), isi_of (ty_i _), isi_of (ty_bi _), isi_of (ty_bb _), isi_of (ty_l _), len_s, len_t, len_l, len_c, pr_tl, pr_tt, pr_lt, pr_ll, cmp_lt, cmp_le, cmp_gt, cmp_ge, eq_s, ne_s, eq_i, ne_i, eq_b, ne_b, add_i, sub_i, mt_s, mtok_s, mtok_l, ite_bl, ite_or, ite_fl, bnd_id, wipeF, Tg.slots, Tg.slotsL, List.append_nil, noexc_ret, seq_t, seq_l, it_t, it_l, List.length_set])
    by_cases h0 : ns.length = 0
    · have : ns = [] := List.eq_nil_of_length_eq_zero h0
      subst this
      refine ⟨0, ?_⟩
      (try simp -implicitDefEqProofs only [run_def, startF, exs, ex, ev, evs, evo, iter, bnd_r, bnd_fail, bnd_bnd, opt_some, bnd_exc, bnd_raise, bnd_ite, blD_bl, out_rt, out_nx, ex_raise, List.map_cons, List.map_nil, List.cons_append, List.nil_append, List.length_cons, List.length_nil, List.replicate, Nat.reduceSub, Nat.reduceAdd, List.getElem?_cons_zero, List.getElem?_cons_succ, if_true, Bool.false_eq_true, if_false, reduceIte, setF, asg_nm, asg_tp, asgs_nil, asgs_cons, List.set_cons_zero, List.set_cons_succ, Option.bind_some, Nat.reduceLT, gv_i, gv_s, isi_of (ty_s _), isi_of (ty_t _), isi_of (ty_st _), isi_of (ty_ts _), isi_of (ty_i _), isi_of (ty_bi _), isi_of (ty_bb _), isi_of (ty_l _), len_s, len_t, len_l, len_c, pr_tl, pr_tt, pr_lt, pr_ll, cmp_lt, cmp_le, cmp_gt, cmp_ge, eq_s, ne_s, eq_i, ne_i, eq_b, ne_b, add_i, sub_i, mt_s, mtok_s, mtok_l, ite_bl, ite_or, ite_fl, bnd_id, wipeF, Tg.slots, Tg.slotsL, List.append_nil, noexc_ret, seq_t, seq_l, it_t, it_l, List.length_set])
      rfl
    · have : ns.isEmpty = false := by cases ns <;> simp at h0 ⊢
      rw [this]
      have hp : (0 : Int) < (ns.length : Int) := by omega
      have hm : ((i : Int) % (ns.length : Int)) = ((i % ns.length : Nat) : Int) := by omega
      have hl : i % ns.length < ns.length := Nat.mod_lt _ (by omega)
      have hx : dIdx (.scr ns) (.int ((i : Int) % (ns.length : Int))) = some (.int ns[i % ns.length]) := by
        show (atI ns _).map D.int = _
        rw [hm, atI_nat (List.getElem?_eq_getElem hl)]; rfl
      refine ⟨ns[i % ns.length] * 31 + i, ?_⟩
      rw [mod_i hp]
      (try simp -implicitDefEqProofs only [run_def, startF, exs, ex, ev, evs, evo, iter, bnd_r, bnd_fail, bnd_bnd, opt_some, bnd_exc, bnd_raise, bnd_ite, blD_bl, out_rt, out_nx, ex_raise, List.map_cons, List.map_nil, List.cons_append, List.nil_append, List.length_cons, List.length_nil, List.replicate, Nat.reduceSub, Nat.reduceAdd, List.getElem?_cons_zero, List.getElem?_cons_succ, if_true, Bool.false_eq_true, if_false, reduceIte, setF, asg_nm, asg_tp, asgs_nil, asgs_cons, List.set_cons_zero, List.set_cons_succ, Option.bind_some, Nat.reduceLT, gv_i, gv_s, isi_of (ty_s _), isi_of (ty_t _), isi_of (ty_st _), isi_of (ty_ts _), isi_of (ty_i _), isi_of (ty_bi _), isi_of (ty_bb _), isi_of (ty_l _), len_s, len_t, len_l, len_c, pr_tl, pr_tt, pr_lt, pr_ll, cmp_lt, cmp_le, cmp_gt, cmp_ge, eq_s, ne_s, eq_i, ne_i, eq_b, ne_b, add_i, sub_i, mt_s, mtok_s, mtok_l, ite_bl, ite_or, ite_fl, bnd_id, wipeF, Tg.slots, Tg.slotsL, List.append_nil, noexc_ret, seq_t, seq_l, it_t, it_l, List.length_set])
      rw [hx]
      (try simp -implicitDefEqProofs only [run_def, startF, exs, ex, ev, evs, evo, iter, bnd_r, bnd_fail, bnd_bnd, opt_some, bnd_exc, bnd_raise, bnd_ite, blD_bl, out_rt, out_nx, ex_raise, List.map_cons, List.map_nil, List.cons_append, List.nil_append, List.length_cons, List.length_nil, List.replicate, Nat.reduceSub, Nat.reduceAdd, List.getElem?_cons_zero, List.getElem?_cons_succ, if_true, Bool.false_eq_true, if_false, reduceIte, setF, asg_nm, asg_tp, asgs_nil, asgs_cons, List.set_cons_zero, List.set_cons_succ, Option.bind_some, Nat.reduceLT, gv_i, gv_s, isi_of (ty_s _), isi_of (ty_t _), isi_of (ty_st _), isi_of (ty_ts _), isi_of (ty_i _), isi_of (ty_bi _), isi_of (ty_bb _), isi_of (ty_l _), len_s, len_t, len_l, len_c, pr_tl, pr_tt, pr_lt, pr_ll, cmp_lt, cmp_le, cmp_gt, cmp_ge, eq_s, ne_s, eq_i, ne_i, eq_b, ne_b, add_i, sub_i, mt_s, mtok_s, mtok_l, ite_bl, ite_or, ite_fl, bnd_id, wipeF, Tg.slots, Tg.slotsL, List.append_nil, noexc_ret, seq_t, seq_l, it_t, it_l, List.length_set])
      rw [mul_i (cm_r (by decide) (by decide))]
      (try simp -implicitDefEqProofs only [run_def, startF, exs, ex, ev, evs, evo, iter, bnd_r, bnd_fail, bnd_bnd, opt_some, bnd_exc, bnd_raise, bnd_ite, blD_bl, out_rt, out_nx, ex_raise, List.map_cons, List.map_nil, List.cons_append, List.nil_append, List.length_cons, List.length_nil, List.replicate, Nat.reduceSub, Nat.reduceAdd, List.getElem?_cons_zero, List.getElem?_cons_succ, if_true, Bool.false_eq_true, if_false, reduceIte, setF, asg_nm, asg_tp, asgs_nil, asgs_cons, List.set_cons_zero, List.set_cons_succ, Option.bind_some, Nat.reduceLT, gv_i, gv_s, isi_of (ty_s _), isi_of (ty_t _), isi_of (ty_st _), isi_of (ty_ts _), isi_of (ty_i _), isi_of (ty_bi _), isi_of (ty_bb _), isi_of (ty_l _), len_s, len_t, len_l, len_c, pr_tl, pr_tt, pr_lt, pr_ll, cmp_lt, cmp_le, cmp_gt, cmp_ge, eq_s, ne_s, eq_i, ne_i, eq_b, ne_b, add_i, sub_i, mt_s, mtok_s, mtok_l, ite_bl, ite_or, ite_fl, bnd_id, wipeF, Tg.slots, Tg.slotsL, List.append_nil, noexc_ret, seq_t, seq_l, it_t, it_l, List.length_set])
theorem mod_bd (z : Int) {m : Nat} (h : 0 < m) : ∃ i : Nat, i < m ∧ z % (m : Int) = (i : Int) := by
  have h1 := Int.emod_nonneg z (b := (m : Int)) (by omega)
  have h2 := Int.emod_lt_of_pos z (b := (m : Int)) (by omega)
  exact ⟨(z % (m : Int)).toNat, by omega, by omega⟩
theorem c_mixed1 (k : Nat) (ns : List Int) (i m : Nat) (h : 0 < m) : ∃ j : Nat, j < m ∧ sem Δ (k + 2) f_law_mixed_1 [.scr ns, .int i, .int m] = ret (.int j) := by
  rw [sem_at (F := F_law_mixed_1) rfl rfl]
  unfold F_law_mixed_1
  obtain ⟨z, hz⟩ := c_cell k ns i
  (try simp -implicitDefEqProofs only [run_def, startF, exs, ex, ev, evs, evo, iter, bnd_r, bnd_fail, bnd_bnd, opt_some, bnd_exc, bnd_raise, bnd_ite, blD_bl, out_rt, out_nx, ex_raise, List.map_cons, List.map_nil, List.cons_append, List.nil_append, List.length_cons, List.length_nil, List.replicate, Nat.reduceSub, Nat.reduceAdd, List.getElem?_cons_zero, List.getElem?_cons_succ, if_true, Bool.false_eq_true, if_false, reduceIte, setF, asg_nm, asg_tp, asgs_nil, asgs_cons, List.set_cons_zero, List.set_cons_succ, Option.bind_some, Nat.reduceLT, gv_i, gv_s, isi_of (ty_s _), isi_of (ty_t _), isi_of (ty_st _), isi_of (ty_ts _), isi_of (ty_i _), isi_of (ty_bi _), isi_of (ty_bb _), isi_of (ty_l _), len_s, len_t, len_l, len_c, pr_tl, pr_tt, pr_lt, pr_ll, cmp_lt, cmp_le, cmp_gt, cmp_ge, eq_s, ne_s, eq_i, ne_i, eq_b, ne_b, add_i, sub_i, mt_s, mtok_s, mtok_l, ite_bl, ite_or, ite_fl, bnd_id, wipeF, Tg.slots, Tg.slotsL, List.append_nil, noexc_ret, seq_t, seq_l, it_t, it_l, List.length_set])
  rw [hz]
  (try simp -implicitDefEqProofs only [run_def, startF, exs, ex, ev, evs, evo, iter, bnd_r, bnd_fail, bnd_bnd, opt_some, bnd_exc, bnd_raise, bnd_ite, blD_bl, out_rt, out_nx, ex_raise, List.map_cons, List.map_nil, List.cons_append, List.nil_append, List.length_cons, List.length_nil, List.replicate, Nat.reduceSub, Nat.reduceAdd, List.getElem?_cons_zero, List.getElem?_cons_succ, if_true, Bool.false_eq_true, if_false, reduceIte, setF, asg_nm, asg_tp, asgs_nil, asgs_cons, List.set_cons_zero, List.set_cons_succ, Option.bind_some, Nat.reduceLT, gv_i, gv_s, isi_of (ty_s _), isi_of (ty_t _), isi_of (ty_st _), isi_of (ty_ts _), isi_of (ty_i _), isi_of (ty_bi _), isi_of (ty_bb _), isi_of (ty_l _), len_s, len_t, len_l, len_c, pr_tl, pr_tt, pr_lt, pr_ll, cmp_lt, cmp_le, cmp_gt, cmp_ge, eq_s, ne_s, eq_i, ne_i, eq_b, ne_b, add_i, sub_i, mt_s, mtok_s, mtok_l, ite_bl, ite_or, ite_fl, bnd_id, wipeF, Tg.slots, Tg.slotsL, List.append_nil, noexc_ret, seq_t, seq_l, it_t, it_l, List.length_set])
  rw [mul_i (cm_r (by decide) (by decide)), mul_i (cm_l (by decide) (by decide))]
  (try simp -implicitDefEqProofs only [run_def, startF, exs, ex, ev, evs, evo, iter, bnd_r, bnd_fail, bnd_bnd, opt_some, bnd_exc, bnd_raise, bnd_ite, blD_bl, out_rt, out_nx, ex_raise, List.map_cons, List.map_nil, List.cons_append, List.nil_append, List.length_cons, List.length_nil, List.replicate, Nat.reduceSub, Nat.reduceAdd, List.getElem?_cons_zero, List.getElem?_cons_succ, if_true, Bool.false_eq_true, if_false, reduceIte, setF, asg_nm, asg_tp, asgs_nil, asgs_cons, List.set_cons_zero, List.set_cons_succ, Option.bind_some, Nat.reduceLT, gv_i, gv_s, isi_of (ty_s _), isi_of (ty_t _), isi_of (ty_st _), isi_of (ty_ts _), isi_of (ty_i _), isi_of (ty_bi _), isi_of (ty_bb _), isi_of (ty_l _), len_s, len_t, len_l, len_c, pr_tl, pr_tt, pr_lt, pr_ll, cmp_lt, cmp_le, cmp_gt, cmp_ge, eq_s, ne_s, eq_i, ne_i, eq_b, ne_b, add_i, sub_i, mt_s, mtok_s, mtok_l, ite_bl, ite_or, ite_fl, bnd_id, wipeF, Tg.slots, Tg.slotsL, List.append_nil, noexc_ret, seq_t, seq_l, it_t, it_l, List.length_set])
  rw [mod_i (by decide)]
  (try simp -implicitDefEqProofs only [run_def, startF, exs, ex, ev, evs, evo, iter, bnd_r, bnd_fail, bnd_bnd, opt_some, bnd_exc, bnd_raise, bnd_ite, blD_bl, out_rt, out_nx, ex_raise, List.map_cons, List.map_nil, List.cons_append, List.nil_append, List.length_cons, List.length_nil, List.replicate, Nat.reduceSub, Nat.reduceAdd, List.getElem?_cons_zero, List.getElem?_cons_succ, if_true, Bool.false_eq_true, if_false, reduceIte, setF, asg_nm, asg_tp, asgs_nil, asgs_cons, List.set_cons_zero, List.set_cons_succ, Option.bind_some, Nat.reduceLT, gv_i, gv_s, isi_of (ty_s _), isi_of (ty_t _), isi_of (ty_st _), isi_of (ty_ts _), isi_of (ty_i _), isi_of (ty_bi _), isi_of (ty_bb _), isi_of (ty_l _), len_s, len_t, len_l, len_c, pr_tl, pr_tt, pr_lt, pr_ll, cmp_lt, cmp_le, cmp_gt, cmp_ge, eq_s, ne_s, eq_i, ne_i, eq_b, ne_b, add_i, sub_i, mt_s, mtok_s, mtok_l, ite_bl, ite_or, ite_fl, bnd_id, wipeF, Tg.slots, Tg.slotsL, List.append_nil, noexc_ret, seq_t, seq_l, it_t, it_l, List.length_set])
  generalize hd : (z * 1103515245 + 7919 * (i : Int) + 12345) % 2147483647 = d
  have d1 : 0 ≤ d := hd ▸ Int.emod_nonneg _ (by decide)
  have d2 : d < 2147483647 := hd ▸ Int.emod_lt_of_pos _ (by decide)
  rw [pow_i ⟨by decide, by decide, by omega⟩]
  (try simp -implicitDefEqProofs only [run_def, startF, exs, ex, ev, evs, evo, iter, bnd_r, bnd_fail, bnd_bnd, opt_some, bnd_exc, bnd_raise, bnd_ite, blD_bl, out_rt, out_nx, ex_raise, List.map_cons, List.map_nil, List.cons_append, List.nil_append, List.length_cons, List.length_nil, List.replicate, Nat.reduceSub, Nat.reduceAdd, List.getElem?_cons_zero, List.getElem?_cons_succ, if_true, Bool.false_eq_true, if_false, reduceIte, setF, asg_nm, asg_tp, asgs_nil, asgs_cons, List.set_cons_zero, List.set_cons_succ, Option.bind_some, Nat.reduceLT, gv_i, gv_s, isi_of (ty_s _), isi_of (ty_t _), isi_of (ty_st _), isi_of (ty_ts _), isi_of (ty_i _), isi_of (ty_bi _), isi_of (ty_bb _), isi_of (ty_l _), len_s, len_t, len_l, len_c, pr_tl, pr_tt, pr_lt, pr_ll, cmp_lt, cmp_le, cmp_gt, cmp_ge, eq_s, ne_s, eq_i, ne_i, eq_b, ne_b, add_i, sub_i, mt_s, mtok_s, mtok_l, ite_bl, ite_or, ite_fl, bnd_id, wipeF, Tg.slots, Tg.slotsL, List.append_nil, noexc_ret, seq_t, seq_l, it_t, it_l, List.length_set])
  rw [mod_i (by decide)]
  (try simp -implicitDefEqProofs only [run_def, startF, exs, ex, ev, evs, evo, iter, bnd_r, bnd_fail, bnd_bnd, opt_some, bnd_exc, bnd_raise, bnd_ite, blD_bl, out_rt, out_nx, ex_raise, List.map_cons, List.map_nil, List.cons_append, List.nil_append, List.length_cons, List.length_nil, List.replicate, Nat.reduceSub, Nat.reduceAdd, List.getElem?_cons_zero, List.getElem?_cons_succ, if_true, Bool.false_eq_true, if_false, reduceIte, setF, asg_nm, asg_tp, asgs_nil, asgs_cons, List.set_cons_zero, List.set_cons_succ, Option.bind_some, Nat.reduceLT, gv_i, gv_s, isi_of (ty_s _), isi_of (ty_t _), isi_of (ty_st _), isi_of (ty_ts _), isi_of (ty_i _), isi_of (ty_bi _), isi_of (ty_bb _), isi_of (ty_l _), len_s, len_t, len_l, len_c, pr_tl, pr_tt, pr_lt, pr_ll, cmp_lt, cmp_le, cmp_gt, cmp_ge, eq_s, ne_s, eq_i, ne_i, eq_b, ne_b, add_i, sub_i, mt_s, mtok_s, mtok_l, ite_bl, ite_or, ite_fl, bnd_id, wipeF, Tg.slots, Tg.slotsL, List.append_nil, noexc_ret, seq_t, seq_l, it_t, it_l, List.length_set])
  rw [mod_i (by decide)]
  (try simp -implicitDefEqProofs only [run_def, startF, exs, ex, ev, evs, evo, iter, bnd_r, bnd_fail, bnd_bnd, opt_some, bnd_exc, bnd_raise, bnd_ite, blD_bl, out_rt, out_nx, ex_raise, List.map_cons, List.map_nil, List.cons_append, List.nil_append, List.length_cons, List.length_nil, List.replicate, Nat.reduceSub, Nat.reduceAdd, List.getElem?_cons_zero, List.getElem?_cons_succ, if_true, Bool.false_eq_true, if_false, reduceIte, setF, asg_nm, asg_tp, asgs_nil, asgs_cons, List.set_cons_zero, List.set_cons_succ, Option.bind_some, Nat.reduceLT, gv_i, gv_s, isi_of (ty_s _), isi_of (ty_t _), isi_of (ty_st _), isi_of (ty_ts _), isi_of (ty_i _), isi_of (ty_bi _), isi_of (ty_bb _), isi_of (ty_l _), len_s, len_t, len_l, len_c, pr_tl, pr_tt, pr_lt, pr_ll, cmp_lt, cmp_le, cmp_gt, cmp_ge, eq_s, ne_s, eq_i, ne_i, eq_b, ne_b, add_i, sub_i, mt_s, mtok_s, mtok_l, ite_bl, ite_or, ite_fl, bnd_id, wipeF, Tg.slots, Tg.slotsL, List.append_nil, noexc_ret, seq_t, seq_l, it_t, it_l, List.length_set])
  rw [mod_i (by omega)]
  (try simp -implicitDefEqProofs only [run_def, startF, exs, ex, ev, evs, evo, iter, bnd_r, bnd_fail, bnd_bnd, opt_some, bnd_exc, bnd_raise, bnd_ite, blD_bl, out_rt, out_nx, ex_raise, List.map_cons, List.map_nil, List.cons_append, List.nil_append, List.length_cons, List.length_nil, List.replicate, Nat.reduceSub, Nat.reduceAdd, List.getElem?_cons_zero, List.getElem?_cons_succ, if_true, Bool.false_eq_true, if_false, reduceIte, setF, asg_nm, asg_tp, asgs_nil, asgs_cons, List.set_cons_zero, List.set_cons_succ, Option.bind_some, Nat.reduceLT, gv_i, gv_s, isi_of (ty_s _), isi_of (ty_t _), isi_of (ty_st _), isi_of (ty_ts _), isi_of (ty_i _), isi_of (ty_bi _), isi_of (ty_bb _), isi_of (ty_l _), len_s, len_t, len_l, len_c, pr_tl, pr_tt, pr_lt, pr_ll, cmp_lt, cmp_le, cmp_gt, cmp_ge, eq_s, ne_s, eq_i, ne_i, eq_b, ne_b, add_i, sub_i, mt_s, mtok_s, mtok_l, ite_bl, ite_or, ite_fl, bnd_id, wipeF, Tg.slots, Tg.slotsL, List.append_nil, noexc_ret, seq_t, seq_l, it_t, it_l, List.length_set])
  obtain ⟨j, h1, h2⟩ := mod_bd (d ^ (5 : Int).toNat % 2147483647 % 999983) h
  exact ⟨j, h1, by rw [h2]⟩
theorem c_mixed0 (k : Nat) (ns : List Int) (i m : Nat) (h : 0 < m) : ∃ j : Nat, j < m ∧ sem Δ (k + 2) f_law_mixed [.scr ns, .int i, .int m] = ret (.int j) := by
  rw [sem_at (F := F_law_mixed) rfl rfl]
  unfold F_law_mixed
  obtain ⟨z, hz⟩ := c_cell k ns i
  (try simp -implicitDefEqProofs only [run_def, startF, exs, ex, ev, evs, evo, iter, bnd_r, bnd_fail, bnd_bnd, opt_some, bnd_exc, bnd_raise, bnd_ite, blD_bl, out_rt, out_nx, ex_raise, List.map_cons, List.map_nil, List.cons_append, List.nil_append, List.length_cons, List.length_nil, List.replicate, Nat.reduceSub, Nat.reduceAdd, List.getElem?_cons_zero, List.getElem?_cons_succ, if_true, Bool.false_eq_true, if_false, reduceIte, setF, asg_nm, asg_tp, asgs_nil, asgs_cons, List.set_cons_zero, List.set_cons_succ, Option.bind_some, Nat.reduceLT, gv_i, gv_s, isi_of (ty_s _), isi_of (ty_t _), isi_of (ty_st _), isi_of (ty_ts _), isi_of (ty_i _), isi_of (ty_bi _), isi_of (ty_bb _), isi_of (ty_l _), len_s, len_t, len_l, len_c, pr_tl, pr_tt, pr_lt, pr_ll, cmp_lt, cmp_le, cmp_gt, cmp_ge, eq_s, ne_s, eq_i, ne_i, eq_b, ne_b, add_i, sub_i, mt_s, mtok_s, mtok_l, ite_bl, ite_or, ite_fl, bnd_id, wipeF, Tg.slots, Tg.slotsL, List.append_nil, noexc_ret, seq_t, seq_l, it_t, it_l, List.length_set])
  rw [hz]
  (try simp -implicitDefEqProofs only [run_def, startF, exs, ex, ev, evs, evo, iter, bnd_r, bnd_fail, bnd_bnd, opt_some, bnd_exc, bnd_raise, bnd_ite, blD_bl, out_rt, out_nx, ex_raise, List.map_cons, List.map_nil, List.cons_append, List.nil_append, List.length_cons, List.length_nil, List.replicate, Nat.reduceSub, Nat.reduceAdd, List.getElem?_cons_zero, List.getElem?_cons_succ, if_true, Bool.false_eq_true, if_false, reduceIte, setF, asg_nm, asg_tp, asgs_nil, asgs_cons, List.set_cons_zero, List.set_cons_succ, Option.bind_some, Nat.reduceLT, gv_i, gv_s, isi_of (ty_s _), isi_of (ty_t _), isi_of (ty_st _), isi_of (ty_ts _), isi_of (ty_i _), isi_of (ty_bi _), isi_of (ty_bb _), isi_of (ty_l _), len_s, len_t, len_l, len_c, pr_tl, pr_tt, pr_lt, pr_ll, cmp_lt, cmp_le, cmp_gt, cmp_ge, eq_s, ne_s, eq_i, ne_i, eq_b, ne_b, add_i, sub_i, mt_s, mtok_s, mtok_l, ite_bl, ite_or, ite_fl, bnd_id, wipeF, Tg.slots, Tg.slotsL, List.append_nil, noexc_ret, seq_t, seq_l, it_t, it_l, List.length_set])
  rw [mul_i (cm_l (by decide) (by decide))]
  (try simp -implicitDefEqProofs only [run_def, startF, exs, ex, ev, evs, evo, iter, bnd_r, bnd_fail, bnd_bnd, opt_some, bnd_exc, bnd_raise, bnd_ite, blD_bl, out_rt, out_nx, ex_raise, List.map_cons, List.map_nil, List.cons_append, List.nil_append, List.length_cons, List.length_nil, List.replicate, Nat.reduceSub, Nat.reduceAdd, List.getElem?_cons_zero, List.getElem?_cons_succ, if_true, Bool.false_eq_true, if_false, reduceIte, setF, asg_nm, asg_tp, asgs_nil, asgs_cons, List.set_cons_zero, List.set_cons_succ, Option.bind_some, Nat.reduceLT, gv_i, gv_s, isi_of (ty_s _), isi_of (ty_t _), isi_of (ty_st _), isi_of (ty_ts _), isi_of (ty_i _), isi_of (ty_bi _), isi_of (ty_bb _), isi_of (ty_l _), len_s, len_t, len_l, len_c, pr_tl, pr_tt, pr_lt, pr_ll, cmp_lt, cmp_le, cmp_gt, cmp_ge, eq_s, ne_s, eq_i, ne_i, eq_b, ne_b, add_i, sub_i, mt_s, mtok_s, mtok_l, ite_bl, ite_or, ite_fl, bnd_id, wipeF, Tg.slots, Tg.slotsL, List.append_nil, noexc_ret, seq_t, seq_l, it_t, it_l, List.length_set])
  rw [mul_i (cm_r (by decide) (by decide))]
  (try simp -implicitDefEqProofs only [run_def, startF, exs, ex, ev, evs, evo, iter, bnd_r, bnd_fail, bnd_bnd, opt_some, bnd_exc, bnd_raise, bnd_ite, blD_bl, out_rt, out_nx, ex_raise, List.map_cons, List.map_nil, List.cons_append, List.nil_append, List.length_cons, List.length_nil, List.replicate, Nat.reduceSub, Nat.reduceAdd, List.getElem?_cons_zero, List.getElem?_cons_succ, if_true, Bool.false_eq_true, if_false, reduceIte, setF, asg_nm, asg_tp, asgs_nil, asgs_cons, List.set_cons_zero, List.set_cons_succ, Option.bind_some, Nat.reduceLT, gv_i, gv_s, isi_of (ty_s _), isi_of (ty_t _), isi_of (ty_st _), isi_of (ty_ts _), isi_of (ty_i _), isi_of (ty_bi _), isi_of (ty_bb _), isi_of (ty_l _), len_s, len_t, len_l, len_c, pr_tl, pr_tt, pr_lt, pr_ll, cmp_lt, cmp_le, cmp_gt, cmp_ge, eq_s, ne_s, eq_i, ne_i, eq_b, ne_b, add_i, sub_i, mt_s, mtok_s, mtok_l, ite_bl, ite_or, ite_fl, bnd_id, wipeF, Tg.slots, Tg.slotsL, List.append_nil, noexc_ret, seq_t, seq_l, it_t, it_l, List.length_set])
  rw [mod_i (by decide)]
  (try simp -implicitDefEqProofs only [run_def, startF, exs, ex, ev, evs, evo, iter, bnd_r, bnd_fail, bnd_bnd, opt_some, bnd_exc, bnd_raise, bnd_ite, blD_bl, out_rt, out_nx, ex_raise, List.map_cons, List.map_nil, List.cons_append, List.nil_append, List.length_cons, List.length_nil, List.replicate, Nat.reduceSub, Nat.reduceAdd, List.getElem?_cons_zero, List.getElem?_cons_succ, if_true, Bool.false_eq_true, if_false, reduceIte, setF, asg_nm, asg_tp, asgs_nil, asgs_cons, List.set_cons_zero, List.set_cons_succ, Option.bind_some, Nat.reduceLT, gv_i, gv_s, isi_of (ty_s _), isi_of (ty_t _), isi_of (ty_st _), isi_of (ty_ts _), isi_of (ty_i _), isi_of (ty_bi _), isi_of (ty_bb _), isi_of (ty_l _), len_s, len_t, len_l, len_c, pr_tl, pr_tt, pr_lt, pr_ll, cmp_lt, cmp_le, cmp_gt, cmp_ge, eq_s, ne_s, eq_i, ne_i, eq_b, ne_b, add_i, sub_i, mt_s, mtok_s, mtok_l, ite_bl, ite_or, ite_fl, bnd_id, wipeF, Tg.slots, Tg.slotsL, List.append_nil, noexc_ret, seq_t, seq_l, it_t, it_l, List.length_set])
  generalize hd : (z + 7919 * (i : Int) + 1) * 48271 % 2147483647 = d
  have d1 : 0 ≤ d := hd ▸ Int.emod_nonneg _ (by decide)
  have d2 : d < 2147483647 := hd ▸ Int.emod_lt_of_pos _ (by decide)
  rw [mul_i (cm_l (by omega) (by omega)), mul_i (cm_l (by decide) (by decide))]
  (try simp -implicitDefEqProofs only [run_def, startF, exs, ex, ev, evs, evo, iter, bnd_r, bnd_fail, bnd_bnd, opt_some, bnd_exc, bnd_raise, bnd_ite, blD_bl, out_rt, out_nx, ex_raise, List.map_cons, List.map_nil, List.cons_append, List.nil_append, List.length_cons, List.length_nil, List.replicate, Nat.reduceSub, Nat.reduceAdd, List.getElem?_cons_zero, List.getElem?_cons_succ, if_true, Bool.false_eq_true, if_false, reduceIte, setF, asg_nm, asg_tp, asgs_nil, asgs_cons, List.set_cons_zero, List.set_cons_succ, Option.bind_some, Nat.reduceLT, gv_i, gv_s, isi_of (ty_s _), isi_of (ty_t _), isi_of (ty_st _), isi_of (ty_ts _), isi_of (ty_i _), isi_of (ty_bi _), isi_of (ty_bb _), isi_of (ty_l _), len_s, len_t, len_l, len_c, pr_tl, pr_tt, pr_lt, pr_ll, cmp_lt, cmp_le, cmp_gt, cmp_ge, eq_s, ne_s, eq_i, ne_i, eq_b, ne_b, add_i, sub_i, mt_s, mtok_s, mtok_l, ite_bl, ite_or, ite_fl, bnd_id, wipeF, Tg.slots, Tg.slotsL, List.append_nil, noexc_ret, seq_t, seq_l, it_t, it_l, List.length_set])
  rw [mod_i (by decide)]
  (try simp -implicitDefEqProofs only [run_def, startF, exs, ex, ev, evs, evo, iter, bnd_r, bnd_fail, bnd_bnd, opt_some, bnd_exc, bnd_raise, bnd_ite, blD_bl, out_rt, out_nx, ex_raise, List.map_cons, List.map_nil, List.cons_append, List.nil_append, List.length_cons, List.length_nil, List.replicate, Nat.reduceSub, Nat.reduceAdd, List.getElem?_cons_zero, List.getElem?_cons_succ, if_true, Bool.false_eq_true, if_false, reduceIte, setF, asg_nm, asg_tp, asgs_nil, asgs_cons, List.set_cons_zero, List.set_cons_succ, Option.bind_some, Nat.reduceLT, gv_i, gv_s, isi_of (ty_s _), isi_of (ty_t _), isi_of (ty_st _), isi_of (ty_ts _), isi_of (ty_i _), isi_of (ty_bi _), isi_of (ty_bb _), isi_of (ty_l _), len_s, len_t, len_l, len_c, pr_tl, pr_tt, pr_lt, pr_ll, cmp_lt, cmp_le, cmp_gt, cmp_ge, eq_s, ne_s, eq_i, ne_i, eq_b, ne_b, add_i, sub_i, mt_s, mtok_s, mtok_l, ite_bl, ite_or, ite_fl, bnd_id, wipeF, Tg.slots, Tg.slotsL, List.append_nil, noexc_ret, seq_t, seq_l, it_t, it_l, List.length_set])
  rw [mod_i (by omega)]
  (try simp -implicitDefEqProofs only [run_def, startF, exs, ex, ev, evs, evo, iter, bnd_r, bnd_fail, bnd_bnd, opt_some, bnd_exc, bnd_raise, bnd_ite, blD_bl, out_rt, out_nx, ex_raise, List.map_cons, List.map_nil, List.cons_append, List.nil_append, List.length_cons, List.length_nil, List.replicate, Nat.reduceSub, Nat.reduceAdd, List.getElem?_cons_zero, List.getElem?_cons_succ, if_true, Bool.false_eq_true, if_false, reduceIte, setF, asg_nm, asg_tp, asgs_nil, asgs_cons, List.set_cons_zero, List.set_cons_succ, Option.bind_some, Nat.reduceLT, gv_i, gv_s, isi_of (ty_s _), isi_of (ty_t _), isi_of (ty_st _), isi_of (ty_ts _), isi_of (ty_i _), isi_of (ty_bi _), isi_of (ty_bb _), isi_of (ty_l _), len_s, len_t, len_l, len_c, pr_tl, pr_tt, pr_lt, pr_ll, cmp_lt, cmp_le, cmp_gt, cmp_ge, eq_s, ne_s, eq_i, ne_i, eq_b, ne_b, add_i, sub_i, mt_s, mtok_s, mtok_l, ite_bl, ite_or, ite_fl, bnd_id, wipeF, Tg.slots, Tg.slotsL, List.append_nil, noexc_ret, seq_t, seq_l, it_t, it_l, List.length_set])
  obtain ⟨j, h1, h2⟩ := mod_bd ((d * d + 7 * d + (i : Int)) % 2147483629) h
  exact ⟨j, h1, by rw [h2]⟩
theorem c_draw1 (k : Nat) (ns : List Int) (m : Nat) (h : 0 < m) : Hl 1 (sem Δ (k + 3) f_law_draw_1 [.scr ns, .town, .int m]) fun d => ∃ i : Nat, i < m ∧ d = .int i := fun n hn => by
  obtain ⟨j, h1, h2⟩ := c_mixed1 k ns (n + 1) m h
  refine ⟨.int j, n + 1, ?_, Nat.le_refl _, j, h1, rfl⟩
  rw [sem_at (F := F_law_draw_1) rfl rfl]
  unfold F_law_draw_1
  (try simp -implicitDefEqProofs only [run_def, startF, exs, ex, ev, evs, evo, iter, bnd_r, bnd_fail, bnd_bnd, opt_some, bnd_exc, bnd_raise, bnd_ite, blD_bl, out_rt, out_nx, ex_raise, List.map_cons, List.map_nil, List.cons_append, List.nil_append, List.length_cons, List.length_nil, List.replicate, Nat.reduceSub, Nat.reduceAdd, List.getElem?_cons_zero, List.getElem?_cons_succ, if_true, Bool.false_eq_true, if_false, reduceIte, setF, asg_nm, asg_tp, asgs_nil, asgs_cons, List.set_cons_zero, List.set_cons_succ, Option.bind_some, Nat.reduceLT, gv_i, gv_s, isi_of (ty_s _), isi_of (ty_t _), isi_of (ty_st _), isi_of (ty_ts _), isi_of (ty_i _), isi_of (ty_bi _), isi_of (ty_bb _), isi_of (ty_l _), len_s, len_t, len_l, len_c, pr_tl, pr_tt, pr_lt, pr_ll, cmp_lt, cmp_le, cmp_gt, cmp_ge, eq_s, ne_s, eq_i, ne_i, eq_b, ne_b, add_i, sub_i, mt_s, mtok_s, mtok_l, ite_bl, ite_or, ite_fl, bnd_id, wipeF, Tg.slots, Tg.slotsL, List.append_nil, noexc_ret, seq_t, seq_l, it_t, it_l, List.length_set])
  unfold bnd
  have hlt : n < sizeLine := by rw [sizeLine_eq]; omega
  simp only [Option.getD_some, if_pos hlt]
  simp [ret, outF] at h2 ⊢
  simp [h2]
  rfl
theorem c_draw0 (k : Nat) (ns : List Int) (m : Nat) (h : 0 < m) : Hl 1 (sem Δ (k + 3) f_law_draw [.scr ns, .town, .int m]) fun d => ∃ i : Nat, i < m ∧ d = .int i := fun n hn => by
  obtain ⟨j, h1, h2⟩ := c_mixed0 k ns (n + 1) m h
  refine ⟨.int j, n + 1, ?_, Nat.le_refl _, j, h1, rfl⟩
  rw [sem_at (F := F_law_draw) rfl rfl]
  unfold F_law_draw
  (try simp -implicitDefEqProofs only [run_def, startF, exs, ex, ev, evs, evo, iter, bnd_r, bnd_fail, bnd_bnd, opt_some, bnd_exc, bnd_raise, bnd_ite, blD_bl, out_rt, out_nx, ex_raise, List.map_cons, List.map_nil, List.cons_append, List.nil_append, List.length_cons, List.length_nil, List.replicate, Nat.reduceSub, Nat.reduceAdd, List.getElem?_cons_zero, List.getElem?_cons_succ, if_true, Bool.false_eq_true, if_false, reduceIte, setF, asg_nm, asg_tp, asgs_nil, asgs_cons, List.set_cons_zero, List.set_cons_succ, Option.bind_some, Nat.reduceLT, gv_i, gv_s, isi_of (ty_s _), isi_of (ty_t _), isi_of (ty_st _), isi_of (ty_ts _), isi_of (ty_i _), isi_of (ty_bi _), isi_of (ty_bb _), isi_of (ty_l _), len_s, len_t, len_l, len_c, pr_tl, pr_tt, pr_lt, pr_ll, cmp_lt, cmp_le, cmp_gt, cmp_ge, eq_s, ne_s, eq_i, ne_i, eq_b, ne_b, add_i, sub_i, mt_s, mtok_s, mtok_l, ite_bl, ite_or, ite_fl, bnd_id, wipeF, Tg.slots, Tg.slotsL, List.append_nil, noexc_ret, seq_t, seq_l, it_t, it_l, List.length_set])
  unfold bnd
  have hlt : n < sizeLine := by rw [sizeLine_eq]; omega
  simp only [Option.getD_some, if_pos hlt]
  simp [ret, outF] at h2 ⊢
  simp [h2]
  rfl
theorem idx_l {l : List D} {i : Nat} {d : D} (h : l[i]? = some d) : dIdx (.lst l) (.int (i : Int)) = some d := atI_nat h
theorem idx_t {l : List D} {i : Nat} {d : D} (h : l[i]? = some d) : dIdx (.tup l) (.int (i : Int)) = some d := atI_nat h
theorem c_pick1 (k : Nat) (ns : List Int) (l : List D) (h : 0 < l.length) : Hl 1 (sem Δ (k + 4) f_law_pick_1 [.scr ns, .town, .lst l]) fun d => d ∈ l := by
  rw [sem_at (F := F_law_pick_1) rfl rfl]
  unfold F_law_pick_1
  (try simp -implicitDefEqProofs only [run_def, startF, exs, ex, ev, evs, evo, iter, bnd_r, bnd_fail, bnd_bnd, opt_some, bnd_exc, bnd_raise, bnd_ite, blD_bl, out_rt, out_nx, ex_raise, List.map_cons, List.map_nil, List.cons_append, List.nil_append, List.length_cons, List.length_nil, List.replicate, Nat.reduceSub, Nat.reduceAdd, List.getElem?_cons_zero, List.getElem?_cons_succ, if_true, Bool.false_eq_true, if_false, reduceIte, setF, asg_nm, asg_tp, asgs_nil, asgs_cons, List.set_cons_zero, List.set_cons_succ, Option.bind_some, Nat.reduceLT, gv_i, gv_s, isi_of (ty_s _), isi_of (ty_t _), isi_of (ty_st _), isi_of (ty_ts _), isi_of (ty_i _), isi_of (ty_bi _), isi_of (ty_bb _), isi_of (ty_l _), len_s, len_t, len_l, len_c, pr_tl, pr_tt, pr_lt, pr_ll, cmp_lt, cmp_le, cmp_gt, cmp_ge, eq_s, ne_s, eq_i, ne_i, eq_b, ne_b, add_i, sub_i, mt_s, mtok_s, mtok_l, ite_bl, ite_or, ite_fl, bnd_id, wipeF, Tg.slots, Tg.slotsL, List.append_nil, noexc_ret, seq_t, seq_l, it_t, it_l, List.length_set])
  refine (Hl.bnd (d := 0) (c_draw1 k ns l.length h) fun d ⟨i, h1, e⟩ => ?_)
  subst e
  rw [idx_l (List.getElem?_eq_getElem h1)]
  exact Hl.ret (List.getElem_mem h1)
theorem c_pick0 (k : Nat) (ns : List Int) (l : List D) (h : 0 < l.length) : Hl 1 (sem Δ (k + 4) f_law_pick [.scr ns, .town, .lst l]) fun d => d ∈ l := by
  rw [sem_at (F := F_law_pick) rfl rfl]
  unfold F_law_pick
  (try simp -implicitDefEqProofs only [run_def, startF, exs, ex, ev, evs, evo, iter, bnd_r, bnd_fail, bnd_bnd, opt_some, bnd_exc, bnd_raise, bnd_ite, blD_bl, out_rt, out_nx, ex_raise, List.map_cons, List.map_nil, List.cons_append, List.nil_append, List.length_cons, List.length_nil, List.replicate, Nat.reduceSub, Nat.reduceAdd, List.getElem?_cons_zero, List.getElem?_cons_succ, if_true, Bool.false_eq_true, if_false, reduceIte, setF, asg_nm, asg_tp, asgs_nil, asgs_cons, List.set_cons_zero, List.set_cons_succ, Option.bind_some, Nat.reduceLT, gv_i, gv_s, isi_of (ty_s _), isi_of (ty_t _), isi_of (ty_st _), isi_of (ty_ts _), isi_of (ty_i _), isi_of (ty_bi _), isi_of (ty_bb _), isi_of (ty_l _), len_s, len_t, len_l, len_c, pr_tl, pr_tt, pr_lt, pr_ll, cmp_lt, cmp_le, cmp_gt, cmp_ge, eq_s, ne_s, eq_i, ne_i, eq_b, ne_b, add_i, sub_i, mt_s, mtok_s, mtok_l, ite_bl, ite_or, ite_fl, bnd_id, wipeF, Tg.slots, Tg.slotsL, List.append_nil, noexc_ret, seq_t, seq_l, it_t, it_l, List.length_set])
  refine (Hl.bnd (d := 0) (c_draw0 k ns l.length h) fun d ⟨i, h1, e⟩ => ?_)
  subst e
  rw [idx_l (List.getElem?_eq_getElem h1)]
  exact Hl.ret (List.getElem_mem h1)
end G
/-! P3: equality of data; words, parts, templates. -/
namespace G
open PySem L2
/-! ### equality of data -/
mutual
/-- no truth value, no def, no dict within -/
def D.pr : D → Bool
  | .non => true
  | .int _ => true
  | .str _ => true
  | .tup l => D.prs l
  | .lst l => D.prs l
  | _ => false
def D.prs : List D → Bool
  | [] => true
  | d :: l => d.pr && D.prs l
end
mutual
theorem D.pr_plain : ∀ d : D, d.pr = true → d.plain = true
  | .non, _ => rfl
  | .int _, _ => rfl
  | .str _, _ => rfl
  | .tup l, h => D.prs_plain l h
  | .lst l, h => D.prs_plain l h
theorem D.prs_plain : ∀ l : List D, D.prs l = true → D.plains l = true
  | [], _ => rfl
  | d :: l, h => by
    obtain ⟨h1, h2⟩ := Bool.and_eq_true_iff.mp (show (d.pr && D.prs l) = true from h)
    show (d.plain && D.plains l) = true
    rw [D.pr_plain d h1, D.prs_plain l h2]; rfl
end
mutual
theorem D.eqb_self : ∀ d : D, d.plain = true → d.eqb d = true
  | .non, _ => rfl
  | .bl b, _ => by show (b == b) = true; simp
  | .int i, _ => by show (i == i) = true; simp
  | .str x, _ => by show (x == x) = true; simp
  | .tup l, h => D.eqbs_self l h
  | .lst l, h => D.eqbs_self l h
theorem D.eqbs_self : ∀ l : List D, D.plains l = true → D.eqbs l l = true
  | [], _ => rfl
  | d :: l, h => by
    obtain ⟨h1, h2⟩ := Bool.and_eq_true_iff.mp (show (d.plain && D.plains l) = true from h)
    show (d.eqb d && D.eqbs l l) = true
    rw [D.eqb_self d h1, D.eqbs_self l h2]; rfl
end
mutual
theorem D.eqb_eq : ∀ a b : D, a.pr = true → b.pr = true → a.eqb b = true → a = b
  | .non, b, _, hb, h => by cases b <;> first | rfl | cases h
  | .int i, b, _, hb, h => by
    cases b <;> first | (cases h; done) | (cases hb; done) | skip
    exact congrArg D.int (eq_of_beq h)
  | .str x, b, _, hb, h => by
    cases b <;> first | (cases h; done) | skip
    exact congrArg D.str (eq_of_beq h)
  | .tup l, b, ha, hb, h => by
    cases b <;> first | (cases h; done) | skip
    exact congrArg D.tup (D.eqbs_eq l _ ha hb h)
  | .lst l, b, ha, hb, h => by
    cases b <;> first | (cases h; done) | skip
    exact congrArg D.lst (D.eqbs_eq l _ ha hb h)
theorem D.eqbs_eq : ∀ a b : List D, D.prs a = true → D.prs b = true → D.eqbs a b = true → a = b
  | [], b, _, _, h => by cases b <;> first | rfl | cases h
  | x :: a, b, ha, hb, h => by
    cases b with
    | nil => cases h
    | cons y b =>
      obtain ⟨a1, a2⟩ := Bool.and_eq_true_iff.mp (show (x.pr && D.prs a) = true from ha)
      obtain ⟨b1, b2⟩ := Bool.and_eq_true_iff.mp (show (y.pr && D.prs b) = true from hb)
      obtain ⟨c1, c2⟩ := Bool.and_eq_true_iff.mp (show (x.eqb y && D.eqbs a b) = true from h)
      rw [D.eqb_eq x y a1 b1 c1, D.eqbs_eq a b a2 b2 c2]
end
theorem D.prs_iff {l : List D} : D.prs l = true ↔ ∀ d ∈ l, d.pr = true := by
  induction l with
  | nil => exact ⟨fun _ _ m => (nomatch m), fun _ => rfl⟩
  | cons d l ih =>
    show (d.pr && D.prs l) = true ↔ _
    rw [Bool.and_eq_true, ih, List.forall_mem_cons]
theorem D.deps_le {l : List D} {n : Nat} (h : ∀ d ∈ l, d.dep ≤ n) : D.deps l ≤ n := by
  induction l with
  | nil => exact Nat.zero_le _
  | cons d l ih =>
    show max d.dep (D.deps l) ≤ n
    exact Nat.max_le.mpr ⟨h d List.mem_cons_self, ih fun x m => h x (List.mem_cons_of_mem _ m)⟩
theorem dep_t {l : List D} {n : Nat} (h : ∀ d ∈ l, d.dep ≤ n) : (D.tup l).dep ≤ n + 1 := Nat.succ_le_succ (D.deps_le h)
theorem dep_l {l : List D} {n : Nat} (h : ∀ d ∈ l, d.dep ≤ n) : (D.lst l).dep ≤ n + 1 := Nat.succ_le_succ (D.deps_le h)
theorem eqOk_l {a b : D} (ha : a.plain = true) (hb : b.plain = true) (h : a.dep ≤ 60) : a.eqOk b = true := by
  unfold D.eqOk
  rw [ha, hb, decide_eq_true (show min a.dep b.dep ≤ 60 by omega)]; rfl
theorem eqOk_r {a b : D} (ha : a.plain = true) (hb : b.plain = true) (h : b.dep ≤ 60) : a.eqOk b = true := by
  unfold D.eqOk
  rw [ha, hb, decide_eq_true (show min a.dep b.dep ≤ 60 by omega)]; rfl
theorem eq_d {a b : D} (h : a.eqOk b = true) : dCmp .eq a b = some (.bl (a.eqb b)) := by
  show (if a.eqOk b = true then _ else _) = _
  rw [if_pos h]
theorem ne_d {a b : D} (h : a.eqOk b = true) : dCmp .ne a b = some (.bl (!a.eqb b)) := by
  show (if a.eqOk b = true then _ else _) = _
  rw [if_pos h]
theorem eqb_no {a b : D} (ha : a.pr = true) (hb : b.pr = true) (h : a ≠ b) : a.eqb b = false := by
  cases e : a.eqb b with
  | false => rfl
  | true => exact absurd (D.eqb_eq a b ha hb e) h
/-- a == b, where both are pure: whether they are the same -/
theorem eqb_inj {α : Type} [DecidableEq α] {f : α → D} (hf : ∀ x, (f x).pr = true) (inj : ∀ x y, f x = f y → x = y) (x y : α) : (f x).eqb (f y) = decide (x = y) := by
  by_cases e : x = y
  · subst e
    rw [D.eqb_self _ (D.pr_plain _ (hf x)), decide_eq_true rfl]
  · rw [decide_eq_false e, eqb_no (hf x) (hf y) fun z => e (inj x y z)]
/-! ### words -/
def encS (xs : List Str) : D := .tup (xs.map .str)
theorem strs_pr (xs : List Str) : D.prs (xs.map .str) = true := D.prs_iff.mpr fun d m => by
  obtain ⟨x, _, rfl⟩ := List.mem_map.mp m
  rfl
theorem strs_dep (xs : List Str) : ∀ d ∈ xs.map D.str, d.dep ≤ 0 := fun d m => by
  obtain ⟨x, _, rfl⟩ := List.mem_map.mp m
  exact Nat.le_refl 0
theorem str_inj {xs ys : List Str} (h : xs.map D.str = ys.map D.str) : xs = ys := by
  induction xs generalizing ys with
  | nil => cases ys <;> first | rfl | cases h
  | cons x xs ih =>
    cases ys with
    | nil => cases h
    | cons y ys =>
      rw [List.map_cons, List.map_cons, List.cons.injEq] at h
      rw [D.str.inj h.1, ih h.2]
theorem strsOf_map (xs : List Str) : strsOf (xs.map D.str) = some xs := by
  induction xs with
  | nil => rfl
  | cons x xs ih => show (strsOf (xs.map D.str)).map (x :: ·) = _; rw [ih]; rfl
theorem sset_t {xs : List Str} (h : xs.length ≤ 60) : dSset (.tup (xs.map .str)) = some (.lst ((sortS (dedupS xs)).map .str)) := by
  show (strsOf (xs.map D.str)).bind _ = _
  rw [strsOf_map]
  show (if xs.length ≤ 60 then _ else _) = _
  rw [if_pos h]
theorem sset_l {xs : List Str} (h : xs.length ≤ 60) : dSset (.lst (xs.map .str)) = some (.lst ((sortS (dedupS xs)).map .str)) := by
  show (strsOf (xs.map D.str)).bind _ = _
  rw [strsOf_map]
  show (if xs.length ≤ 60 then _ else _) = _
  rw [if_pos h]
theorem lset_l {xs : List Str} (h : xs.length ≤ 60) : dLset (.lst (xs.map .str)) = some (.int (dedupS xs).length) := by
  have e : dLsetS (.lst (xs.map .str)) = some (.int (dedupS xs).length) := by
    show (strsOf (xs.map D.str)).bind _ = _
    rw [strsOf_map]
    show (if xs.length ≤ 60 then _ else _) = _
    rw [if_pos h]
  unfold dLset
  rw [e]
theorem bls_map {α : Type} (f : α → Bool) (l : List α) : blsOf (l.map fun x => D.bl (f x)) = some (l.map f) := by
  induction l with
  | nil => rfl
  | cons x l ih => show (blsOf (l.map fun x => D.bl (f x))).map (f x :: ·) = _; rw [ih]; rfl
theorem all_map {α : Type} (f : α → Bool) (l : List α) : dPrim .all [.lst (l.map fun x => D.bl (f x))] = some (.bl (l.all f)) := by
  show (blsOf (l.map fun x => D.bl (f x))).map _ = _
  rw [bls_map]
  show some (D.bl ((l.map f).all id)) = _
  rw [List.all_map]; rfl
def LET : Str := "abcdefghijklmnopqrstuvwxyz"
def wordB (x : Str) : Bool := (decide ((1 : Int) ≤ x.length) && decide ((x.length : Int) ≤ 4)) && (stripS x LET == "")
theorem c_is_word (k : Nat) (x : Str) : sem Δ (k + 1) f_is_word [.str x] = ret (.bl (wordB x)) := by
  rw [sem_at (F := F_is_word) rfl rfl]
  unfold F_is_word
  (try simp -implicitDefEqProofs only [run_def, startF, exs, ex, ev, evs, evo, iter, bnd_r, bnd_fail, bnd_bnd, opt_some, bnd_exc, bnd_raise, bnd_ite, blD_bl, out_rt, out_nx, ex_raise, List.map_cons, List.map_nil, List.cons_append, List.nil_append, List.length_cons, List.length_nil, List.replicate, Nat.reduceSub, Nat.reduceAdd, List.getElem?_cons_zero, List.getElem?_cons_succ, if_true, Bool.false_eq_true, if_false, reduceIte, setF, asg_nm, asg_tp, asgs_nil, asgs_cons, List.set_cons_zero, List.set_cons_succ, Option.bind_some, Nat.reduceLT, gv_i, gv_s, isi_of (ty_s _), isi_of (ty_t _), isi_of (ty_st _), isi_of (ty_ts _), isi_of (ty_i _), isi_of (ty_bi _), isi_of (ty_bb _), isi_of (ty_l _), len_s, len_t, len_l, len_c, pr_tl, pr_tt, pr_lt, pr_ll, cmp_lt, cmp_le, cmp_gt, cmp_ge, eq_s, ne_s, eq_i, ne_i, eq_b, ne_b, add_i, sub_i, mt_s, mtok_s, mtok_l, ite_bl, ite_or, ite_fl, bnd_id, wipeF, Tg.slots, Tg.slotsL, List.append_nil, noexc_ret, seq_t, seq_l, it_t, it_l, List.length_set])
  unfold wordB LET
  cases decide ((1 : Int) ≤ x.length) <;> rfl
theorem fm_map {α : Type} (l : List α) (f : α → D) (g : D → Option D) (h : α → D) (e : ∀ x ∈ l, g (f x) = some (h x)) : (l.map f).filterMap g = l.map h := by
  induction l with
  | nil => rfl
  | cons x l ih =>
    rw [List.map_cons, List.filterMap_cons, e x List.mem_cons_self, ih fun y m => e y (List.mem_cons_of_mem _ m)]
    rfl
/-- a comprehension over what is encoded, each by itself -/
theorem comp_map {α : Type} {step : D → M (Option D)} (l : List α) (f : α → D) (h : α → D) (e : ∀ x ∈ l, step (f x) = ret (some (h x))) : compL step (l.map f) = ret (l.map h) := by
  induction l with
  | nil => rfl
  | cons x l ih =>
    rw [List.map_cons]
    unfold compL
    rw [e x List.mem_cons_self, bnd_r, ih fun y m => e y (List.mem_cons_of_mem _ m)]
    rfl
theorem comp_fm {α : Type} {step : D → M (Option D)} (l : List α) (f : α → D) (h : α → Option D) (e : ∀ x ∈ l, step (f x) = ret (h x)) : compL step (l.map f) = ret (l.filterMap h) := by
  induction l with
  | nil => rfl
  | cons x l ih =>
    rw [List.map_cons]
    unfold compL
    rw [e x List.mem_cons_self, bnd_r, ih fun y m => e y (List.mem_cons_of_mem _ m), bnd_r, List.filterMap_cons]
    cases h x <;> rfl
theorem c_are_words (k : Nat) (xs : List Str) (h : xs.length ≤ 1000000) : sem Δ (k + 2) f_are_words [encS xs] = ret (.bl (xs.all wordB)) := by
  rw [sem_at (F := F_are_words) rfl rfl]
  unfold F_are_words encS
  (try simp -implicitDefEqProofs only [run_def, startF, exs, ex, ev, evs, evo, iter, bnd_r, bnd_fail, bnd_bnd, opt_some, bnd_exc, bnd_raise, bnd_ite, blD_bl, out_rt, out_nx, ex_raise, List.map_cons, List.map_nil, List.cons_append, List.nil_append, List.length_cons, List.length_nil, List.replicate, Nat.reduceSub, Nat.reduceAdd, List.getElem?_cons_zero, List.getElem?_cons_succ, if_true, Bool.false_eq_true, if_false, reduceIte, setF, asg_nm, asg_tp, asgs_nil, asgs_cons, List.set_cons_zero, List.set_cons_succ, Option.bind_some, Nat.reduceLT, gv_i, gv_s, isi_of (ty_s _), isi_of (ty_t _), isi_of (ty_st _), isi_of (ty_ts _), isi_of (ty_i _), isi_of (ty_bi _), isi_of (ty_bb _), isi_of (ty_l _), len_s, len_t, len_l, len_c, pr_tl, pr_tt, pr_lt, pr_ll, cmp_lt, cmp_le, cmp_gt, cmp_ge, eq_s, ne_s, eq_i, ne_i, eq_b, ne_b, add_i, sub_i, mt_s, mtok_s, mtok_l, ite_bl, ite_or, ite_fl, bnd_id, wipeF, Tg.slots, Tg.slotsL, List.append_nil, noexc_ret, seq_t, seq_l, it_t, it_l, List.length_set])
  rw [Hl.lenOk (by simpa using h), bnd_r, comp_map xs D.str (fun x => .bl (wordB x)) fun x _ => ?_]
  · simp only [bnd_r, noexc_ret, all_map, opt_some]
  · (try simp -implicitDefEqProofs only [run_def, startF, exs, ex, ev, evs, evo, iter, bnd_r, bnd_fail, bnd_bnd, opt_some, bnd_exc, bnd_raise, bnd_ite, blD_bl, out_rt, out_nx, ex_raise, List.map_cons, List.map_nil, List.cons_append, List.nil_append, List.length_cons, List.length_nil, List.replicate, Nat.reduceSub, Nat.reduceAdd, List.getElem?_cons_zero, List.getElem?_cons_succ, if_true, Bool.false_eq_true, if_false, reduceIte, setF, asg_nm, asg_tp, asgs_nil, asgs_cons, List.set_cons_zero, List.set_cons_succ, Option.bind_some, Nat.reduceLT, gv_i, gv_s, isi_of (ty_s _), isi_of (ty_t _), isi_of (ty_st _), isi_of (ty_ts _), isi_of (ty_i _), isi_of (ty_bi _), isi_of (ty_bb _), isi_of (ty_l _), len_s, len_t, len_l, len_c, pr_tl, pr_tt, pr_lt, pr_ll, cmp_lt, cmp_le, cmp_gt, cmp_ge, eq_s, ne_s, eq_i, ne_i, eq_b, ne_b, add_i, sub_i, mt_s, mtok_s, mtok_l, ite_bl, ite_or, ite_fl, bnd_id, wipeF, Tg.slots, Tg.slotsL, List.append_nil, noexc_ret, seq_t, seq_l, it_t, it_l, List.length_set])
    rw [c_is_word]
    rfl
def barsB (bs : List Str) : Bool := bs.all wordB && (decide ((bs.length : Int) ≤ 3) && decide (bs = sortS (dedupS bs)))
theorem lstS_eq (xs ys : List Str) : dCmp .eq (.lst (xs.map .str)) (.lst (ys.map .str)) = some (.bl (decide (xs = ys))) := by
  have p : ∀ zs : List Str, (D.lst (zs.map .str)).pr = true := strs_pr
  rw [eq_d (eqOk_l (D.pr_plain _ (p xs)) (D.pr_plain _ (p ys)) (Nat.le_trans (dep_l (strs_dep xs)) (by decide)))]
  rw [eqb_inj (f := fun zs : List Str => D.lst (zs.map .str)) p fun x y e => str_inj (D.lst.inj e)]
theorem c_is_barred (k : Nat) (bs : List Str) (h : bs.length ≤ 60) : sem Δ (k + 3) f_is_barred [encS bs] = ret (.bl (barsB bs)) := by
  rw [sem_at (F := F_is_barred) rfl rfl]
  unfold F_is_barred
  (try simp -implicitDefEqProofs only [run_def, startF, exs, ex, ev, evs, evo, iter, bnd_r, bnd_fail, bnd_bnd, opt_some, bnd_exc, bnd_raise, bnd_ite, blD_bl, out_rt, out_nx, ex_raise, List.map_cons, List.map_nil, List.cons_append, List.nil_append, List.length_cons, List.length_nil, List.replicate, Nat.reduceSub, Nat.reduceAdd, List.getElem?_cons_zero, List.getElem?_cons_succ, if_true, Bool.false_eq_true, if_false, reduceIte, setF, asg_nm, asg_tp, asgs_nil, asgs_cons, List.set_cons_zero, List.set_cons_succ, Option.bind_some, Nat.reduceLT, gv_i, gv_s, isi_of (ty_s _), isi_of (ty_t _), isi_of (ty_st _), isi_of (ty_ts _), isi_of (ty_i _), isi_of (ty_bi _), isi_of (ty_bb _), isi_of (ty_l _), len_s, len_t, len_l, len_c, pr_tl, pr_tt, pr_lt, pr_ll, cmp_lt, cmp_le, cmp_gt, cmp_ge, eq_s, ne_s, eq_i, ne_i, eq_b, ne_b, add_i, sub_i, mt_s, mtok_s, mtok_l, ite_bl, ite_or, ite_fl, bnd_id, wipeF, Tg.slots, Tg.slotsL, List.append_nil, noexc_ret, seq_t, seq_l, it_t, it_l, List.length_set])
  rw [c_are_words k bs (by omega)]
  unfold barsB encS
  (try simp -implicitDefEqProofs only [run_def, startF, exs, ex, ev, evs, evo, iter, bnd_r, bnd_fail, bnd_bnd, opt_some, bnd_exc, bnd_raise, bnd_ite, blD_bl, out_rt, out_nx, ex_raise, List.map_cons, List.map_nil, List.cons_append, List.nil_append, List.length_cons, List.length_nil, List.replicate, Nat.reduceSub, Nat.reduceAdd, List.getElem?_cons_zero, List.getElem?_cons_succ, if_true, Bool.false_eq_true, if_false, reduceIte, setF, asg_nm, asg_tp, asgs_nil, asgs_cons, List.set_cons_zero, List.set_cons_succ, Option.bind_some, Nat.reduceLT, gv_i, gv_s, isi_of (ty_s _), isi_of (ty_t _), isi_of (ty_st _), isi_of (ty_ts _), isi_of (ty_i _), isi_of (ty_bi _), isi_of (ty_bb _), isi_of (ty_l _), len_s, len_t, len_l, len_c, pr_tl, pr_tt, pr_lt, pr_ll, cmp_lt, cmp_le, cmp_gt, cmp_ge, eq_s, ne_s, eq_i, ne_i, eq_b, ne_b, add_i, sub_i, mt_s, mtok_s, mtok_l, ite_bl, ite_or, ite_fl, bnd_id, wipeF, Tg.slots, Tg.slotsL, List.append_nil, noexc_ret, seq_t, seq_l, it_t, it_l, List.length_set])
  rw [sset_t h]
  (try simp -implicitDefEqProofs only [run_def, startF, exs, ex, ev, evs, evo, iter, bnd_r, bnd_fail, bnd_bnd, opt_some, bnd_exc, bnd_raise, bnd_ite, blD_bl, out_rt, out_nx, ex_raise, List.map_cons, List.map_nil, List.cons_append, List.nil_append, List.length_cons, List.length_nil, List.replicate, Nat.reduceSub, Nat.reduceAdd, List.getElem?_cons_zero, List.getElem?_cons_succ, if_true, Bool.false_eq_true, if_false, reduceIte, setF, asg_nm, asg_tp, asgs_nil, asgs_cons, List.set_cons_zero, List.set_cons_succ, Option.bind_some, Nat.reduceLT, gv_i, gv_s, isi_of (ty_s _), isi_of (ty_t _), isi_of (ty_st _), isi_of (ty_ts _), isi_of (ty_i _), isi_of (ty_bi _), isi_of (ty_bb _), isi_of (ty_l _), len_s, len_t, len_l, len_c, pr_tl, pr_tt, pr_lt, pr_ll, cmp_lt, cmp_le, cmp_gt, cmp_ge, eq_s, ne_s, eq_i, ne_i, eq_b, ne_b, add_i, sub_i, mt_s, mtok_s, mtok_l, ite_bl, ite_or, ite_fl, bnd_id, wipeF, Tg.slots, Tg.slotsL, List.append_nil, noexc_ret, seq_t, seq_l, it_t, it_l, List.length_set])
  rw [lstS_eq]
  (try simp -implicitDefEqProofs only [run_def, startF, exs, ex, ev, evs, evo, iter, bnd_r, bnd_fail, bnd_bnd, opt_some, bnd_exc, bnd_raise, bnd_ite, blD_bl, out_rt, out_nx, ex_raise, List.map_cons, List.map_nil, List.cons_append, List.nil_append, List.length_cons, List.length_nil, List.replicate, Nat.reduceSub, Nat.reduceAdd, List.getElem?_cons_zero, List.getElem?_cons_succ, if_true, Bool.false_eq_true, if_false, reduceIte, setF, asg_nm, asg_tp, asgs_nil, asgs_cons, List.set_cons_zero, List.set_cons_succ, Option.bind_some, Nat.reduceLT, gv_i, gv_s, isi_of (ty_s _), isi_of (ty_t _), isi_of (ty_st _), isi_of (ty_ts _), isi_of (ty_i _), isi_of (ty_bi _), isi_of (ty_bb _), isi_of (ty_l _), len_s, len_t, len_l, len_c, pr_tl, pr_tt, pr_lt, pr_ll, cmp_lt, cmp_le, cmp_gt, cmp_ge, eq_s, ne_s, eq_i, ne_i, eq_b, ne_b, add_i, sub_i, mt_s, mtok_s, mtok_l, ite_bl, ite_or, ite_fl, bnd_id, wipeF, Tg.slots, Tg.slotsL, List.append_nil, noexc_ret, seq_t, seq_l, it_t, it_l, List.length_set])
  simp
theorem c_is_whole (k : Nat) (i lo hi : Int) : sem Δ (k + 1) f_is_whole [.int i, .int lo, .int hi] = ret (.bl (decide (lo ≤ i) && decide (i ≤ hi))) := by
  rw [sem_at (F := F_is_whole) rfl rfl]
  unfold F_is_whole
  (try simp -implicitDefEqProofs only [run_def, startF, exs, ex, ev, evs, evo, iter, bnd_r, bnd_fail, bnd_bnd, opt_some, bnd_exc, bnd_raise, bnd_ite, blD_bl, out_rt, out_nx, ex_raise, List.map_cons, List.map_nil, List.cons_append, List.nil_append, List.length_cons, List.length_nil, List.replicate, Nat.reduceSub, Nat.reduceAdd, List.getElem?_cons_zero, List.getElem?_cons_succ, if_true, Bool.false_eq_true, if_false, reduceIte, setF, asg_nm, asg_tp, asgs_nil, asgs_cons, List.set_cons_zero, List.set_cons_succ, Option.bind_some, Nat.reduceLT, gv_i, gv_s, isi_of (ty_s _), isi_of (ty_t _), isi_of (ty_st _), isi_of (ty_ts _), isi_of (ty_i _), isi_of (ty_bi _), isi_of (ty_bb _), isi_of (ty_l _), len_s, len_t, len_l, len_c, pr_tl, pr_tt, pr_lt, pr_ll, cmp_lt, cmp_le, cmp_gt, cmp_ge, eq_s, ne_s, eq_i, ne_i, eq_b, ne_b, add_i, sub_i, mt_s, mtok_s, mtok_l, ite_bl, ite_or, ite_fl, bnd_id, wipeF, Tg.slots, Tg.slotsL, List.append_nil, noexc_ret, seq_t, seq_l, it_t, it_l, List.length_set])
  rfl
inductive Part where
  | word (w : Str) | one (n : Str) (bs : List Str) | sm (n : Str) (lo : Nat) (bs : List Str)
  deriving DecidableEq
def Part.enc : Part → D
  | .word w => .tup [.str "word", .str w]
  | .one n bs => .tup [.str "one", .str n, encS bs]
  | .sm n lo bs => .tup [.str "some", .str n, .int lo, encS bs]
def Part.ok : Part → Bool
  | .word w => wordB w
  | .one n bs => wordB n && barsB bs
  | .sm n lo bs => wordB n && (decide (lo ≤ 2) && barsB bs)
def encT (ps : List Part) : D := .tup (ps.map Part.enc)
theorem barsB_len {bs : List Str} (h : barsB bs = true) : bs.length ≤ 3 := by
  unfold barsB at h
  simp only [Bool.and_eq_true, decide_eq_true_eq] at h
  omega
theorem sg_w : dSget (.str "word") = some (.int 2) := rfl
theorem sg_o : dSget (.str "one") = some (.int 3) := rfl
theorem sg_s : dSget (.str "some") = some (.int 4) := rfl
theorem ix (l : List D) (i : Nat) (d : D) (h : l[i]? = some d) : dIdx (.tup l) (.int ((i : Nat) : Int)) = some d := idx_t h
theorem ix0 (a : D) (l : List D) : dIdx (.tup (a :: l)) (.int 0) = some a := ix _ 0 a rfl
theorem ix1 (a b : D) (l : List D) : dIdx (.tup (a :: b :: l)) (.int 1) = some b := ix _ 1 b rfl
theorem ix2 (a b c : D) (l : List D) : dIdx (.tup (a :: b :: c :: l)) (.int 2) = some c := ix _ 2 c rfl
theorem ixl (l : List D) (a : D) : dIdx (.tup (l ++ [a])) (.int (-1)) = some a := atI_last l a
theorem ixl2 (a b : D) : dIdx (.tup [a, b]) (.int (-1)) = some b := ixl [a] b
theorem ixl3 (a b c : D) : dIdx (.tup [a, b, c]) (.int (-1)) = some c := ixl [a, b] c
theorem ixl4 (a b c d : D) : dIdx (.tup [a, b, c, d]) (.int (-1)) = some d := ixl [a, b, c] d
theorem c_is_part (k : Nat) (p : Part) (h : p.ok = true) : sem Δ (k + 4) f_is_part [p.enc] = ret (.bl true) := by
  rw [sem_at (F := F_is_part) rfl rfl]
  unfold F_is_part
  cases p with
  | word w =>
    have h : wordB w = true := h
    unfold Part.enc
    (try simp -implicitDefEqProofs only [run_def, startF, exs, ex, ev, evs, evo, iter, bnd_r, bnd_fail, bnd_bnd, opt_some, bnd_exc, bnd_raise, bnd_ite, blD_bl, out_rt, out_nx, ex_raise, List.map_cons, List.map_nil, List.cons_append, List.nil_append, List.length_cons, List.length_nil, List.replicate, Nat.reduceSub, Nat.reduceAdd, List.getElem?_cons_zero, List.getElem?_cons_succ, if_true, Bool.false_eq_true, if_false, reduceIte, setF, asg_nm, asg_tp, asgs_nil, asgs_cons, List.set_cons_zero, List.set_cons_succ, Option.bind_some, Nat.reduceLT, gv_i, gv_s, isi_of (ty_s _), isi_of (ty_t _), isi_of (ty_st _), isi_of (ty_ts _), isi_of (ty_i _), isi_of (ty_bi _), isi_of (ty_bb _), isi_of (ty_l _), len_s, len_t, len_l, len_c, pr_tl, pr_tt, pr_lt, pr_ll, cmp_lt, cmp_le, cmp_gt, cmp_ge, eq_s, ne_s, eq_i, ne_i, eq_b, ne_b, add_i, sub_i, mt_s, mtok_s, mtok_l, ite_bl, ite_or, ite_fl, bnd_id, wipeF, Tg.slots, Tg.slotsL, List.append_nil, noexc_ret, seq_t, seq_l, it_t, it_l, List.length_set])
    simp only [ix0, ix1, opt_some, bnd_r, sg_w]
    (try simp -implicitDefEqProofs only [run_def, startF, exs, ex, ev, evs, evo, iter, bnd_r, bnd_fail, bnd_bnd, opt_some, bnd_exc, bnd_raise, bnd_ite, blD_bl, out_rt, out_nx, ex_raise, List.map_cons, List.map_nil, List.cons_append, List.nil_append, List.length_cons, List.length_nil, List.replicate, Nat.reduceSub, Nat.reduceAdd, List.getElem?_cons_zero, List.getElem?_cons_succ, if_true, Bool.false_eq_true, if_false, reduceIte, setF, asg_nm, asg_tp, asgs_nil, asgs_cons, List.set_cons_zero, List.set_cons_succ, Option.bind_some, Nat.reduceLT, gv_i, gv_s, isi_of (ty_s _), isi_of (ty_t _), isi_of (ty_st _), isi_of (ty_ts _), isi_of (ty_i _), isi_of (ty_bi _), isi_of (ty_bb _), isi_of (ty_l _), len_s, len_t, len_l, len_c, pr_tl, pr_tt, pr_lt, pr_ll, cmp_lt, cmp_le, cmp_gt, cmp_ge, eq_s, ne_s, eq_i, ne_i, eq_b, ne_b, add_i, sub_i, mt_s, mtok_s, mtok_l, ite_bl, ite_or, ite_fl, bnd_id, wipeF, Tg.slots, Tg.slotsL, List.append_nil, noexc_ret, seq_t, seq_l, it_t, it_l, List.length_set])
    rw [c_is_word, h]
    rfl
  | one n bs =>
    obtain ⟨h1, h2⟩ := Bool.and_eq_true_iff.mp (show (wordB n && barsB bs) = true from h)
    unfold Part.enc
    (try simp -implicitDefEqProofs only [run_def, startF, exs, ex, ev, evs, evo, iter, bnd_r, bnd_fail, bnd_bnd, opt_some, bnd_exc, bnd_raise, bnd_ite, blD_bl, out_rt, out_nx, ex_raise, List.map_cons, List.map_nil, List.cons_append, List.nil_append, List.length_cons, List.length_nil, List.replicate, Nat.reduceSub, Nat.reduceAdd, List.getElem?_cons_zero, List.getElem?_cons_succ, if_true, Bool.false_eq_true, if_false, reduceIte, setF, asg_nm, asg_tp, asgs_nil, asgs_cons, List.set_cons_zero, List.set_cons_succ, Option.bind_some, Nat.reduceLT, gv_i, gv_s, isi_of (ty_s _), isi_of (ty_t _), isi_of (ty_st _), isi_of (ty_ts _), isi_of (ty_i _), isi_of (ty_bi _), isi_of (ty_bb _), isi_of (ty_l _), len_s, len_t, len_l, len_c, pr_tl, pr_tt, pr_lt, pr_ll, cmp_lt, cmp_le, cmp_gt, cmp_ge, eq_s, ne_s, eq_i, ne_i, eq_b, ne_b, add_i, sub_i, mt_s, mtok_s, mtok_l, ite_bl, ite_or, ite_fl, bnd_id, wipeF, Tg.slots, Tg.slotsL, List.append_nil, noexc_ret, seq_t, seq_l, it_t, it_l, List.length_set])
    simp only [ix0, ix1, ixl3, opt_some, bnd_r, sg_o]
    (try simp -implicitDefEqProofs only [run_def, startF, exs, ex, ev, evs, evo, iter, bnd_r, bnd_fail, bnd_bnd, opt_some, bnd_exc, bnd_raise, bnd_ite, blD_bl, out_rt, out_nx, ex_raise, List.map_cons, List.map_nil, List.cons_append, List.nil_append, List.length_cons, List.length_nil, List.replicate, Nat.reduceSub, Nat.reduceAdd, List.getElem?_cons_zero, List.getElem?_cons_succ, if_true, Bool.false_eq_true, if_false, reduceIte, setF, asg_nm, asg_tp, asgs_nil, asgs_cons, List.set_cons_zero, List.set_cons_succ, Option.bind_some, Nat.reduceLT, gv_i, gv_s, isi_of (ty_s _), isi_of (ty_t _), isi_of (ty_st _), isi_of (ty_ts _), isi_of (ty_i _), isi_of (ty_bi _), isi_of (ty_bb _), isi_of (ty_l _), len_s, len_t, len_l, len_c, pr_tl, pr_tt, pr_lt, pr_ll, cmp_lt, cmp_le, cmp_gt, cmp_ge, eq_s, ne_s, eq_i, ne_i, eq_b, ne_b, add_i, sub_i, mt_s, mtok_s, mtok_l, ite_bl, ite_or, ite_fl, bnd_id, wipeF, Tg.slots, Tg.slotsL, List.append_nil, noexc_ret, seq_t, seq_l, it_t, it_l, List.length_set])
    rw [c_is_word, h1, c_is_barred _ _ (by have := barsB_len h2; omega), h2]
    rfl
  | sm n lo bs =>
    obtain ⟨h1, h2⟩ := Bool.and_eq_true_iff.mp (show (wordB n && (decide (lo ≤ 2) && barsB bs)) = true from h)
    obtain ⟨h2, h3⟩ := Bool.and_eq_true_iff.mp h2
    have h2 : lo ≤ 2 := by simpa using h2
    unfold Part.enc
    (try simp -implicitDefEqProofs only [run_def, startF, exs, ex, ev, evs, evo, iter, bnd_r, bnd_fail, bnd_bnd, opt_some, bnd_exc, bnd_raise, bnd_ite, blD_bl, out_rt, out_nx, ex_raise, List.map_cons, List.map_nil, List.cons_append, List.nil_append, List.length_cons, List.length_nil, List.replicate, Nat.reduceSub, Nat.reduceAdd, List.getElem?_cons_zero, List.getElem?_cons_succ, if_true, Bool.false_eq_true, if_false, reduceIte, setF, asg_nm, asg_tp, asgs_nil, asgs_cons, List.set_cons_zero, List.set_cons_succ, Option.bind_some, Nat.reduceLT, gv_i, gv_s, isi_of (ty_s _), isi_of (ty_t _), isi_of (ty_st _), isi_of (ty_ts _), isi_of (ty_i _), isi_of (ty_bi _), isi_of (ty_bb _), isi_of (ty_l _), len_s, len_t, len_l, len_c, pr_tl, pr_tt, pr_lt, pr_ll, cmp_lt, cmp_le, cmp_gt, cmp_ge, eq_s, ne_s, eq_i, ne_i, eq_b, ne_b, add_i, sub_i, mt_s, mtok_s, mtok_l, ite_bl, ite_or, ite_fl, bnd_id, wipeF, Tg.slots, Tg.slotsL, List.append_nil, noexc_ret, seq_t, seq_l, it_t, it_l, List.length_set])
    simp only [ix0, ix1, ix2, ixl4, opt_some, bnd_r, sg_s]
    (try simp -implicitDefEqProofs only [run_def, startF, exs, ex, ev, evs, evo, iter, bnd_r, bnd_fail, bnd_bnd, opt_some, bnd_exc, bnd_raise, bnd_ite, blD_bl, out_rt, out_nx, ex_raise, List.map_cons, List.map_nil, List.cons_append, List.nil_append, List.length_cons, List.length_nil, List.replicate, Nat.reduceSub, Nat.reduceAdd, List.getElem?_cons_zero, List.getElem?_cons_succ, if_true, Bool.false_eq_true, if_false, reduceIte, setF, asg_nm, asg_tp, asgs_nil, asgs_cons, List.set_cons_zero, List.set_cons_succ, Option.bind_some, Nat.reduceLT, gv_i, gv_s, isi_of (ty_s _), isi_of (ty_t _), isi_of (ty_st _), isi_of (ty_ts _), isi_of (ty_i _), isi_of (ty_bi _), isi_of (ty_bb _), isi_of (ty_l _), len_s, len_t, len_l, len_c, pr_tl, pr_tt, pr_lt, pr_ll, cmp_lt, cmp_le, cmp_gt, cmp_ge, eq_s, ne_s, eq_i, ne_i, eq_b, ne_b, add_i, sub_i, mt_s, mtok_s, mtok_l, ite_bl, ite_or, ite_fl, bnd_id, wipeF, Tg.slots, Tg.slotsL, List.append_nil, noexc_ret, seq_t, seq_l, it_t, it_l, List.length_set])
    rw [c_is_word, h1, c_is_whole, c_is_barred _ _ (by have := barsB_len h3; omega), h3]
    have e1 : decide ((0 : Int) ≤ (lo : Int)) = true := decide_eq_true (by omega)
    have e2 : decide ((lo : Int) ≤ 2) = true := decide_eq_true (by omega)
    rw [e1, e2]
    rfl
def Part.gap : Part → Option Str
  | .word _ => none
  | .one n _ => some n
  | .sm n _ _ => some n
def gapsOf (ps : List Part) : List Str := ps.filterMap Part.gap
def gapsB (ps : List Part) : Bool := decide ((dedupS (gapsOf ps)).length = (gapsOf ps).length)
structure TplOk (ps : List Part) : Prop where
  len : ps.length ≤ 6
  ok : ∀ p ∈ ps, p.ok = true
  gaps : gapsB ps = true
theorem pt_word (p : Part) : dIdx p.enc (.int 0) = some (.str (match p with | .word _ => "word" | .one _ _ => "one" | .sm _ _ _ => "some")) := by cases p <;> rfl
theorem pt_name (p : Part) : dIdx p.enc (.int 1) = some (.str (match p with | .word w => w | .one n _ => n | .sm n _ _ => n)) := by cases p <;> rfl
def Part.isW : Part → Bool
  | .word _ => true
  | _ => false
def Part.nm : Part → Str
  | .word w => w
  | .one n _ => n
  | .sm n _ _ => n
theorem kind_eq (p : Part) : dCmp .eq (.str (match p with | .word _ => "word" | .one _ _ => "one" | .sm _ _ _ => "some")) (.str "word") = some (.bl p.isW) := by cases p <;> rfl
theorem kind_ne (p : Part) : dCmp .ne (.str (match p with | .word _ => "word" | .one _ _ => "one" | .sm _ _ _ => "some")) (.str "word") = some (.bl (!p.isW)) := by cases p <;> rfl
theorem nm_eq (p : Part) : (match p with | .word w => w | .one n _ => n | .sm n _ _ => n) = p.nm := by cases p <;> rfl
theorem ints_eq (i j : Nat) : (((i : Nat) : Int) == ((j : Nat) : Int)) = decide (i = j) := by
  by_cases e : i = j
  · subst e; simp
  · rw [decide_eq_false e]
    exact beq_eq_false_iff_ne.mpr fun z => e (by omega)
theorem gaps_fm (ps : List Part) : (ps.filterMap fun p => if (!p.isW) = true then some (D.str p.nm) else none) = (gapsOf ps).map D.str := by
  unfold gapsOf
  induction ps with
  | nil => rfl
  | cons p ps ih =>
    rw [List.filterMap_cons, List.filterMap_cons, ih]
    cases p <;> rfl
theorem gapsOf_len (ps : List Part) : (gapsOf ps).length ≤ ps.length := List.length_filterMap_le ..
theorem c_is_template (k : Nat) (ps : List Part) (h : ∀ p ∈ ps, p.ok = true) : sem Δ (k + 5) f_is_template [encT ps] = ret (.bl (decide (ps.length ≤ 6) && gapsB ps)) := by
  rw [sem_at (F := F_is_template) rfl rfl]
  unfold F_is_template encT
  (try simp -implicitDefEqProofs only [run_def, startF, exs, ex, ev, evs, evo, iter, bnd_r, bnd_fail, bnd_bnd, opt_some, bnd_exc, bnd_raise, bnd_ite, blD_bl, out_rt, out_nx, ex_raise, List.map_cons, List.map_nil, List.cons_append, List.nil_append, List.length_cons, List.length_nil, List.replicate, Nat.reduceSub, Nat.reduceAdd, List.getElem?_cons_zero, List.getElem?_cons_succ, if_true, Bool.false_eq_true, if_false, reduceIte, setF, asg_nm, asg_tp, asgs_nil, asgs_cons, List.set_cons_zero, List.set_cons_succ, Option.bind_some, Nat.reduceLT, gv_i, gv_s, isi_of (ty_s _), isi_of (ty_t _), isi_of (ty_st _), isi_of (ty_ts _), isi_of (ty_i _), isi_of (ty_bi _), isi_of (ty_bb _), isi_of (ty_l _), len_s, len_t, len_l, len_c, pr_tl, pr_tt, pr_lt, pr_ll, cmp_lt, cmp_le, cmp_gt, cmp_ge, eq_s, ne_s, eq_i, ne_i, eq_b, ne_b, add_i, sub_i, mt_s, mtok_s, mtok_l, ite_bl, ite_or, ite_fl, bnd_id, wipeF, Tg.slots, Tg.slotsL, List.append_nil, noexc_ret, seq_t, seq_l, it_t, it_l, List.length_set])
  by_cases hl : ps.length ≤ 6
  · have e1 : decide ((6 : Int) < (((ps.map Part.enc).length : Nat) : Int)) = false := decide_eq_false (by rw [List.length_map]; omega)
    rw [e1]
    (try simp -implicitDefEqProofs only [run_def, startF, exs, ex, ev, evs, evo, iter, bnd_r, bnd_fail, bnd_bnd, opt_some, bnd_exc, bnd_raise, bnd_ite, blD_bl, out_rt, out_nx, ex_raise, List.map_cons, List.map_nil, List.cons_append, List.nil_append, List.length_cons, List.length_nil, List.replicate, Nat.reduceSub, Nat.reduceAdd, List.getElem?_cons_zero, List.getElem?_cons_succ, if_true, Bool.false_eq_true, if_false, reduceIte, setF, asg_nm, asg_tp, asgs_nil, asgs_cons, List.set_cons_zero, List.set_cons_succ, Option.bind_some, Nat.reduceLT, gv_i, gv_s, isi_of (ty_s _), isi_of (ty_t _), isi_of (ty_st _), isi_of (ty_ts _), isi_of (ty_i _), isi_of (ty_bi _), isi_of (ty_bb _), isi_of (ty_l _), len_s, len_t, len_l, len_c, pr_tl, pr_tt, pr_lt, pr_ll, cmp_lt, cmp_le, cmp_gt, cmp_ge, eq_s, ne_s, eq_i, ne_i, eq_b, ne_b, add_i, sub_i, mt_s, mtok_s, mtok_l, ite_bl, ite_or, ite_fl, bnd_id, wipeF, Tg.slots, Tg.slotsL, List.append_nil, noexc_ret, seq_t, seq_l, it_t, it_l, List.length_set])
    rw [Hl.lenOk (by simp; omega), bnd_r, comp_map ps Part.enc (fun x => .bl true) fun x m => by rw [c_is_part k x (h x m)]; rfl, bnd_r, bnd_r]
    (try simp -implicitDefEqProofs only [run_def, startF, exs, ex, ev, evs, evo, iter, bnd_r, bnd_fail, bnd_bnd, opt_some, bnd_exc, bnd_raise, bnd_ite, blD_bl, out_rt, out_nx, ex_raise, List.map_cons, List.map_nil, List.cons_append, List.nil_append, List.length_cons, List.length_nil, List.replicate, Nat.reduceSub, Nat.reduceAdd, List.getElem?_cons_zero, List.getElem?_cons_succ, if_true, Bool.false_eq_true, if_false, reduceIte, setF, asg_nm, asg_tp, asgs_nil, asgs_cons, List.set_cons_zero, List.set_cons_succ, Option.bind_some, Nat.reduceLT, gv_i, gv_s, isi_of (ty_s _), isi_of (ty_t _), isi_of (ty_st _), isi_of (ty_ts _), isi_of (ty_i _), isi_of (ty_bi _), isi_of (ty_bb _), isi_of (ty_l _), len_s, len_t, len_l, len_c, pr_tl, pr_tt, pr_lt, pr_ll, cmp_lt, cmp_le, cmp_gt, cmp_ge, eq_s, ne_s, eq_i, ne_i, eq_b, ne_b, add_i, sub_i, mt_s, mtok_s, mtok_l, ite_bl, ite_or, ite_fl, bnd_id, wipeF, Tg.slots, Tg.slotsL, List.append_nil, noexc_ret, seq_t, seq_l, it_t, it_l, List.length_set])
    rw [all_map (fun _ => true)]
    have ea : (ps.all fun _ => true) = true := by simp
    rw [ea]
    (try simp -implicitDefEqProofs only [run_def, startF, exs, ex, ev, evs, evo, iter, bnd_r, bnd_fail, bnd_bnd, opt_some, bnd_exc, bnd_raise, bnd_ite, blD_bl, out_rt, out_nx, ex_raise, List.map_cons, List.map_nil, List.cons_append, List.nil_append, List.length_cons, List.length_nil, List.replicate, Nat.reduceSub, Nat.reduceAdd, List.getElem?_cons_zero, List.getElem?_cons_succ, if_true, Bool.false_eq_true, if_false, reduceIte, setF, asg_nm, asg_tp, asgs_nil, asgs_cons, List.set_cons_zero, List.set_cons_succ, Option.bind_some, Nat.reduceLT, gv_i, gv_s, isi_of (ty_s _), isi_of (ty_t _), isi_of (ty_st _), isi_of (ty_ts _), isi_of (ty_i _), isi_of (ty_bi _), isi_of (ty_bb _), isi_of (ty_l _), len_s, len_t, len_l, len_c, pr_tl, pr_tt, pr_lt, pr_ll, cmp_lt, cmp_le, cmp_gt, cmp_ge, eq_s, ne_s, eq_i, ne_i, eq_b, ne_b, add_i, sub_i, mt_s, mtok_s, mtok_l, ite_bl, ite_or, ite_fl, bnd_id, wipeF, Tg.slots, Tg.slotsL, List.append_nil, noexc_ret, seq_t, seq_l, it_t, it_l, List.length_set])
    simp only [Bool.not_true, Bool.false_eq_true, if_false]
    (try simp -implicitDefEqProofs only [run_def, startF, exs, ex, ev, evs, evo, iter, bnd_r, bnd_fail, bnd_bnd, opt_some, bnd_exc, bnd_raise, bnd_ite, blD_bl, out_rt, out_nx, ex_raise, List.map_cons, List.map_nil, List.cons_append, List.nil_append, List.length_cons, List.length_nil, List.replicate, Nat.reduceSub, Nat.reduceAdd, List.getElem?_cons_zero, List.getElem?_cons_succ, if_true, Bool.false_eq_true, if_false, reduceIte, setF, asg_nm, asg_tp, asgs_nil, asgs_cons, List.set_cons_zero, List.set_cons_succ, Option.bind_some, Nat.reduceLT, gv_i, gv_s, isi_of (ty_s _), isi_of (ty_t _), isi_of (ty_st _), isi_of (ty_ts _), isi_of (ty_i _), isi_of (ty_bi _), isi_of (ty_bb _), isi_of (ty_l _), len_s, len_t, len_l, len_c, pr_tl, pr_tt, pr_lt, pr_ll, cmp_lt, cmp_le, cmp_gt, cmp_ge, eq_s, ne_s, eq_i, ne_i, eq_b, ne_b, add_i, sub_i, mt_s, mtok_s, mtok_l, ite_bl, ite_or, ite_fl, bnd_id, wipeF, Tg.slots, Tg.slotsL, List.append_nil, noexc_ret, seq_t, seq_l, it_t, it_l, List.length_set])
    rw [comp_fm ps Part.enc (fun p => if (!p.isW) = true then some (D.str p.nm) else none) fun p _ => ?_]
    · (try simp -implicitDefEqProofs only [run_def, startF, exs, ex, ev, evs, evo, iter, bnd_r, bnd_fail, bnd_bnd, opt_some, bnd_exc, bnd_raise, bnd_ite, blD_bl, out_rt, out_nx, ex_raise, List.map_cons, List.map_nil, List.cons_append, List.nil_append, List.length_cons, List.length_nil, List.replicate, Nat.reduceSub, Nat.reduceAdd, List.getElem?_cons_zero, List.getElem?_cons_succ, if_true, Bool.false_eq_true, if_false, reduceIte, setF, asg_nm, asg_tp, asgs_nil, asgs_cons, List.set_cons_zero, List.set_cons_succ, Option.bind_some, Nat.reduceLT, gv_i, gv_s, isi_of (ty_s _), isi_of (ty_t _), isi_of (ty_st _), isi_of (ty_ts _), isi_of (ty_i _), isi_of (ty_bi _), isi_of (ty_bb _), isi_of (ty_l _), len_s, len_t, len_l, len_c, pr_tl, pr_tt, pr_lt, pr_ll, cmp_lt, cmp_le, cmp_gt, cmp_ge, eq_s, ne_s, eq_i, ne_i, eq_b, ne_b, add_i, sub_i, mt_s, mtok_s, mtok_l, ite_bl, ite_or, ite_fl, bnd_id, wipeF, Tg.slots, Tg.slotsL, List.append_nil, noexc_ret, seq_t, seq_l, it_t, it_l, List.length_set])
      rw [gaps_fm, lset_l (by have := gapsOf_len ps; omega)]
      (try simp -implicitDefEqProofs only [run_def, startF, exs, ex, ev, evs, evo, iter, bnd_r, bnd_fail, bnd_bnd, opt_some, bnd_exc, bnd_raise, bnd_ite, blD_bl, out_rt, out_nx, ex_raise, List.map_cons, List.map_nil, List.cons_append, List.nil_append, List.length_cons, List.length_nil, List.replicate, Nat.reduceSub, Nat.reduceAdd, List.getElem?_cons_zero, List.getElem?_cons_succ, if_true, Bool.false_eq_true, if_false, reduceIte, setF, asg_nm, asg_tp, asgs_nil, asgs_cons, List.set_cons_zero, List.set_cons_succ, Option.bind_some, Nat.reduceLT, gv_i, gv_s, isi_of (ty_s _), isi_of (ty_t _), isi_of (ty_st _), isi_of (ty_ts _), isi_of (ty_i _), isi_of (ty_bi _), isi_of (ty_bb _), isi_of (ty_l _), len_s, len_t, len_l, len_c, pr_tl, pr_tt, pr_lt, pr_ll, cmp_lt, cmp_le, cmp_gt, cmp_ge, eq_s, ne_s, eq_i, ne_i, eq_b, ne_b, add_i, sub_i, mt_s, mtok_s, mtok_l, ite_bl, ite_or, ite_fl, bnd_id, wipeF, Tg.slots, Tg.slotsL, List.append_nil, noexc_ret, seq_t, seq_l, it_t, it_l, List.length_set])
      rw [List.length_map, ints_eq, decide_eq_true hl]
      rfl
    · rw [pt_word, pt_name]
      (try simp -implicitDefEqProofs only [run_def, startF, exs, ex, ev, evs, evo, iter, bnd_r, bnd_fail, bnd_bnd, opt_some, bnd_exc, bnd_raise, bnd_ite, blD_bl, out_rt, out_nx, ex_raise, List.map_cons, List.map_nil, List.cons_append, List.nil_append, List.length_cons, List.length_nil, List.replicate, Nat.reduceSub, Nat.reduceAdd, List.getElem?_cons_zero, List.getElem?_cons_succ, if_true, Bool.false_eq_true, if_false, reduceIte, setF, asg_nm, asg_tp, asgs_nil, asgs_cons, List.set_cons_zero, List.set_cons_succ, Option.bind_some, Nat.reduceLT, gv_i, gv_s, isi_of (ty_s _), isi_of (ty_t _), isi_of (ty_st _), isi_of (ty_ts _), isi_of (ty_i _), isi_of (ty_bi _), isi_of (ty_bb _), isi_of (ty_l _), len_s, len_t, len_l, len_c, pr_tl, pr_tt, pr_lt, pr_ll, cmp_lt, cmp_le, cmp_gt, cmp_ge, eq_s, ne_s, eq_i, ne_i, eq_b, ne_b, add_i, sub_i, mt_s, mtok_s, mtok_l, ite_bl, ite_or, ite_fl, bnd_id, wipeF, Tg.slots, Tg.slotsL, List.append_nil, noexc_ret, seq_t, seq_l, it_t, it_l, List.length_set])
      cases p <;> rfl
  · have e1 : decide ((6 : Int) < (((ps.map Part.enc).length : Nat) : Int)) = true := decide_eq_true (by rw [List.length_map]; omega)
    rw [e1, decide_eq_false hl]
    rfl
theorem c_need (k : Nat) {ps : List Part} (h : TplOk ps) : sem Δ (k + 6) f_need_template [encT ps] = ret .non := by
  rw [sem_at (F := F_need_template) rfl rfl]
  unfold F_need_template
  (try simp -implicitDefEqProofs only [run_def, startF, exs, ex, ev, evs, evo, iter, bnd_r, bnd_fail, bnd_bnd, opt_some, bnd_exc, bnd_raise, bnd_ite, blD_bl, out_rt, out_nx, ex_raise, List.map_cons, List.map_nil, List.cons_append, List.nil_append, List.length_cons, List.length_nil, List.replicate, Nat.reduceSub, Nat.reduceAdd, List.getElem?_cons_zero, List.getElem?_cons_succ, if_true, Bool.false_eq_true, if_false, reduceIte, setF, asg_nm, asg_tp, asgs_nil, asgs_cons, List.set_cons_zero, List.set_cons_succ, Option.bind_some, Nat.reduceLT, gv_i, gv_s, isi_of (ty_s _), isi_of (ty_t _), isi_of (ty_st _), isi_of (ty_ts _), isi_of (ty_i _), isi_of (ty_bi _), isi_of (ty_bb _), isi_of (ty_l _), len_s, len_t, len_l, len_c, pr_tl, pr_tt, pr_lt, pr_ll, cmp_lt, cmp_le, cmp_gt, cmp_ge, eq_s, ne_s, eq_i, ne_i, eq_b, ne_b, add_i, sub_i, mt_s, mtok_s, mtok_l, ite_bl, ite_or, ite_fl, bnd_id, wipeF, Tg.slots, Tg.slotsL, List.append_nil, noexc_ret, seq_t, seq_l, it_t, it_l, List.length_set])
  rw [c_is_template k ps h.ok, decide_eq_true h.len, h.gaps]
  rfl
end G
/-! P4: drawn templates of the later laws. -/
namespace G
open PySem L2
theorem dedupS_id : ∀ {l : List Str}, l.Nodup → dedupS l = l
  | [], _ => rfl
  | x :: l, h => by
    obtain ⟨h1, h2⟩ := List.nodup_cons.mp h
    unfold dedupS
    rw [if_neg (by simpa using h1), dedupS_id h2]
theorem sortS_id {l : List Str} (h : UpS l) : sortS l = l := up_unique (sortS_up l) h (sortS_perm l)
theorem canon_nodup (xs : List Str) : (sortS (dedupS xs)).Nodup := (sortS_perm _).nodup_iff.mpr (dedupS_nodup xs)
theorem canon (xs : List Str) : sortS (dedupS (sortS (dedupS xs))) = sortS (dedupS xs) := by
  rw [dedupS_id (canon_nodup xs), sortS_id (sortS_up _)]
theorem canon_mem {xs : List Str} {x : Str} : x ∈ sortS (dedupS xs) ↔ x ∈ xs := ((sortS_perm _).mem_iff).trans dedupS_mem
theorem canon_len (xs : List Str) : (sortS (dedupS xs)).length ≤ xs.length := by
  rw [(sortS_perm _).length_eq]
  induction xs with
  | nil => exact Nat.le_refl _
  | cons x r ih =>
    unfold dedupS
    split
    · simp only [List.length_cons]; omega
    · simp only [List.length_cons]; omega
theorem canon_bars {xs : List Str} (h1 : ∀ x ∈ xs, wordB x = true) (h2 : xs.length ≤ 3) : barsB (sortS (dedupS xs)) = true := by
  unfold barsB
  have a : (sortS (dedupS xs)).all wordB = true := List.all_eq_true.mpr fun x m => h1 x (canon_mem.mp m)
  have b := canon_len xs
  rw [a, decide_eq_true (by omega), decide_eq_true (canon xs).symm]; rfl
theorem rng_nat {n : Nat} (h : n ≤ 1000000) : rngD 0 ((n : Nat) : Int) = some ((List.range n).map fun (k : Nat) => D.int (k : Int)) := by
  unfold rngD
  rw [if_pos (by refine ⟨by decide, by decide, by omega, by omega, by omega⟩)]
  have : ((n : Int) - 0).toNat = n := by omega
  rw [this]
  simp
theorem all2_strs {β : Type} {P : Str → Prop} {ds : List β} {l : List D} (h : All2 (fun _ y => ∃ x, y = D.str x ∧ P x) ds l) : ∃ xs : List Str, l = xs.map D.str ∧ xs.length = ds.length ∧ ∀ x ∈ xs, P x := by
  induction h with
  | nil => exact ⟨[], rfl, rfl, fun _ m => nomatch m⟩
  | cons r _ ih =>
    obtain ⟨x, rfl, q⟩ := r
    obtain ⟨xs, rfl, e, f⟩ := ih
    refine ⟨x :: xs, rfl, by simp [e], fun y m => ?_⟩
    rcases List.mem_cons.mp m with rfl | m
    · exact q
    · exact f y m
theorem Hl.lc {c : Nat} {step : D → M (Option D)} {R : D → D → Prop} (ds : List D) (h : ∀ x ∈ ds, Hl c (step x) fun o => ∃ y, o = some y ∧ R x y) : Hl (c * ds.length) (G.noexc (G.bnd (compL step ds) fun l => G.ret (D.lst l))) fun d => ∃ l, d = .lst l ∧ All2 R ds l :=
  Hl.noexc ((Hl.bnd (d := 0) (Hl.comp ds h) fun l q => Hl.ret ⟨l, rfl, q⟩))
theorem Hl.some {c : Nat} {m : M D} {P : D → Prop} (h : Hl c m P) : Hl c (G.bnd m fun x => G.ret (Option.some x)) fun o => ∃ y, o = Option.some y ∧ P y :=
  Hl.bnd (d := 0) h fun a p => Hl.ret ⟨a, rfl, p⟩
theorem mem_strs {d : D} {l : List Str} (h : d ∈ l.map D.str) : ∃ x, d = .str x ∧ x ∈ l := by
  obtain ⟨x, m, rfl⟩ := List.mem_map.mp h
  exact ⟨x, rfl, m⟩
theorem abc_word : ∀ x ∈ ([("a" : Str), "b", "c"] : List Str), wordB x = true := by decide +kernel
theorem c_barred1 (k : Nat) (ns : List Int) : Hl 3 (sem Δ (k + 5) f_law_barred_1 [.scr ns, .town]) fun d => ∃ bs : List Str, d = encS bs ∧ barsB bs = true ∧ (∀ b ∈ bs, b ∈ ([("a" : Str), "b", "c"] : List Str)) ∧ bs.length ≤ 2 := by
  rw [sem_at (F := F_law_barred_1) rfl rfl]
  unfold F_law_barred_1
  (try simp -implicitDefEqProofs only [run_def, startF, exs, ex, ev, evs, evo, iter, bnd_r, bnd_fail, bnd_bnd, opt_some, bnd_exc, bnd_raise, bnd_ite, blD_bl, out_rt, out_nx, ex_raise, List.map_cons, List.map_nil, List.cons_append, List.nil_append, List.length_cons, List.length_nil, List.replicate, Nat.reduceSub, Nat.reduceAdd, List.getElem?_cons_zero, List.getElem?_cons_succ, if_true, Bool.false_eq_true, if_false, reduceIte, setF, asg_nm, asg_tp, asgs_nil, asgs_cons, List.set_cons_zero, List.set_cons_succ, Option.bind_some, Nat.reduceLT, gv_i, gv_s, isi_of (ty_s _), isi_of (ty_t _), isi_of (ty_st _), isi_of (ty_ts _), isi_of (ty_i _), isi_of (ty_bi _), isi_of (ty_bb _), isi_of (ty_l _), len_s, len_t, len_l, len_c, pr_tl, pr_tt, pr_lt, pr_ll, cmp_lt, cmp_le, cmp_gt, cmp_ge, eq_s, ne_s, eq_i, ne_i, eq_b, ne_b, add_i, sub_i, mt_s, mtok_s, mtok_l, ite_bl, ite_or, ite_fl, bnd_id, wipeF, Tg.slots, Tg.slotsL, List.append_nil, noexc_ret, seq_t, seq_l, it_t, it_l, List.length_set])
  refine (Hl.bnd (d := 2) (c_draw1 (k + 1) ns 3 (by decide)) fun d ⟨i, hi, e⟩ => ?_).mono (by decide)
  subst e
  (try simp -implicitDefEqProofs only [run_def, startF, exs, ex, ev, evs, evo, iter, bnd_r, bnd_fail, bnd_bnd, opt_some, bnd_exc, bnd_raise, bnd_ite, blD_bl, out_rt, out_nx, ex_raise, List.map_cons, List.map_nil, List.cons_append, List.nil_append, List.length_cons, List.length_nil, List.replicate, Nat.reduceSub, Nat.reduceAdd, List.getElem?_cons_zero, List.getElem?_cons_succ, if_true, Bool.false_eq_true, if_false, reduceIte, setF, asg_nm, asg_tp, asgs_nil, asgs_cons, List.set_cons_zero, List.set_cons_succ, Option.bind_some, Nat.reduceLT, gv_i, gv_s, isi_of (ty_s _), isi_of (ty_t _), isi_of (ty_st _), isi_of (ty_ts _), isi_of (ty_i _), isi_of (ty_bi _), isi_of (ty_bb _), isi_of (ty_l _), len_s, len_t, len_l, len_c, pr_tl, pr_tt, pr_lt, pr_ll, cmp_lt, cmp_le, cmp_gt, cmp_ge, eq_s, ne_s, eq_i, ne_i, eq_b, ne_b, add_i, sub_i, mt_s, mtok_s, mtok_l, ite_bl, ite_or, ite_fl, bnd_id, wipeF, Tg.slots, Tg.slotsL, List.append_nil, noexc_ret, seq_t, seq_l, it_t, it_l, List.length_set])
  rw [rng_nat (by omega)]
  (try simp -implicitDefEqProofs only [run_def, startF, exs, ex, ev, evs, evo, iter, bnd_r, bnd_fail, bnd_bnd, opt_some, bnd_exc, bnd_raise, bnd_ite, blD_bl, out_rt, out_nx, ex_raise, List.map_cons, List.map_nil, List.cons_append, List.nil_append, List.length_cons, List.length_nil, List.replicate, Nat.reduceSub, Nat.reduceAdd, List.getElem?_cons_zero, List.getElem?_cons_succ, if_true, Bool.false_eq_true, if_false, reduceIte, setF, asg_nm, asg_tp, asgs_nil, asgs_cons, List.set_cons_zero, List.set_cons_succ, Option.bind_some, Nat.reduceLT, gv_i, gv_s, isi_of (ty_s _), isi_of (ty_t _), isi_of (ty_st _), isi_of (ty_ts _), isi_of (ty_i _), isi_of (ty_bi _), isi_of (ty_bb _), isi_of (ty_l _), len_s, len_t, len_l, len_c, pr_tl, pr_tt, pr_lt, pr_ll, cmp_lt, cmp_le, cmp_gt, cmp_ge, eq_s, ne_s, eq_i, ne_i, eq_b, ne_b, add_i, sub_i, mt_s, mtok_s, mtok_l, ite_bl, ite_or, ite_fl, bnd_id, wipeF, Tg.slots, Tg.slotsL, List.append_nil, noexc_ret, seq_t, seq_l, it_t, it_l, List.length_set])
  rw [Hl.lenOk (by simp; omega)]
  (try simp -implicitDefEqProofs only [run_def, startF, exs, ex, ev, evs, evo, iter, bnd_r, bnd_fail, bnd_bnd, opt_some, bnd_exc, bnd_raise, bnd_ite, blD_bl, out_rt, out_nx, ex_raise, List.map_cons, List.map_nil, List.cons_append, List.nil_append, List.length_cons, List.length_nil, List.replicate, Nat.reduceSub, Nat.reduceAdd, List.getElem?_cons_zero, List.getElem?_cons_succ, if_true, Bool.false_eq_true, if_false, reduceIte, setF, asg_nm, asg_tp, asgs_nil, asgs_cons, List.set_cons_zero, List.set_cons_succ, Option.bind_some, Nat.reduceLT, gv_i, gv_s, isi_of (ty_s _), isi_of (ty_t _), isi_of (ty_st _), isi_of (ty_ts _), isi_of (ty_i _), isi_of (ty_bi _), isi_of (ty_bb _), isi_of (ty_l _), len_s, len_t, len_l, len_c, pr_tl, pr_tt, pr_lt, pr_ll, cmp_lt, cmp_le, cmp_gt, cmp_ge, eq_s, ne_s, eq_i, ne_i, eq_b, ne_b, add_i, sub_i, mt_s, mtok_s, mtok_l, ite_bl, ite_or, ite_fl, bnd_id, wipeF, Tg.slots, Tg.slotsL, List.append_nil, noexc_ret, seq_t, seq_l, it_t, it_l, List.length_set])
  refine (Hl.bnd (d := 0) (Hl.lc (c := 1) (R := fun _ y => ∃ x, y = D.str x ∧ x ∈ ([("a" : Str), "b", "c"] : List Str)) _ fun x _ => Hl.some ((c_pick1 k ns _ (by decide)).imp fun d m => mem_strs (l := [("a" : Str), "b", "c"]) m)) fun d ⟨l, e, q⟩ => ?_).mono (by simp; omega)
  subst e
  obtain ⟨xs, rfl, h1, h2⟩ := all2_strs q
  have h1 : xs.length = i := by simpa using h1
  rw [sset_l (by omega)]
  (try simp -implicitDefEqProofs only [run_def, startF, exs, ex, ev, evs, evo, iter, bnd_r, bnd_fail, bnd_bnd, opt_some, bnd_exc, bnd_raise, bnd_ite, blD_bl, out_rt, out_nx, ex_raise, List.map_cons, List.map_nil, List.cons_append, List.nil_append, List.length_cons, List.length_nil, List.replicate, Nat.reduceSub, Nat.reduceAdd, List.getElem?_cons_zero, List.getElem?_cons_succ, if_true, Bool.false_eq_true, if_false, reduceIte, setF, asg_nm, asg_tp, asgs_nil, asgs_cons, List.set_cons_zero, List.set_cons_succ, Option.bind_some, Nat.reduceLT, gv_i, gv_s, isi_of (ty_s _), isi_of (ty_t _), isi_of (ty_st _), isi_of (ty_ts _), isi_of (ty_i _), isi_of (ty_bi _), isi_of (ty_bb _), isi_of (ty_l _), len_s, len_t, len_l, len_c, pr_tl, pr_tt, pr_lt, pr_ll, cmp_lt, cmp_le, cmp_gt, cmp_ge, eq_s, ne_s, eq_i, ne_i, eq_b, ne_b, add_i, sub_i, mt_s, mtok_s, mtok_l, ite_bl, ite_or, ite_fl, bnd_id, wipeF, Tg.slots, Tg.slotsL, List.append_nil, noexc_ret, seq_t, seq_l, it_t, it_l, List.length_set])
  have := canon_len xs
  exact Hl.ret ⟨_, rfl, canon_bars (fun x m => abc_word x (h2 x m)) (by omega), fun b m => h2 b (canon_mem.mp m), by omega⟩
def names6 : List Str := ["x", "y", "z", "what", "rest", "name"]
/-- a drawn template of the later laws -/
structure Drawn1 (ps : List Part) : Prop where
  ok : ∀ p ∈ ps, p.ok = true
  gaps : (gapsOf ps).Sublist (names6.take ps.length)
  len : ps.length ≤ 6
  words : ∀ w, Part.word w ∈ ps → w ∈ ([("a" : Str), "b", "get"] : List Str)
  bars1 : ∀ n bs, Part.one n bs ∈ ps → (∀ b ∈ bs, b ∈ ([("a" : Str), "b", "c"] : List Str)) ∧ bs.length ≤ 2
  bars2 : ∀ n lo bs, Part.sm n lo bs ∈ ps → (∀ b ∈ bs, b ∈ ([("a" : Str), "b", "c"] : List Str)) ∧ bs.length ≤ 2 ∧ lo ≤ 2
theorem Drawn1.tpl {ps : List Part} (h : Drawn1 ps) : TplOk ps := by
  refine ⟨h.len, h.ok, ?_⟩
  unfold gapsB
  have nd : (gapsOf ps).Nodup := (h.gaps.trans (List.take_sublist _ _)).nodup (by decide +kernel)
  rw [dedupS_id nd]
  exact decide_eq_true rfl
theorem gapsOf_app (ps : List Part) (p : Part) : gapsOf (ps ++ [p]) = gapsOf ps ++ p.gap.toList := by
  unfold gapsOf
  rw [List.filterMap_append]
  congr 1
theorem encT_app (ps : List Part) (p : Part) (h : ps.length ≤ 1000) : dBin .add (encT ps) (.tup [p.enc]) = some (encT (ps ++ [p])) := by
  unfold encT
  show (if (ps.map Part.enc).length + 1 ≤ sizeLine then _ else _) = _
  rw [if_pos (by rw [List.length_map, sizeLine_eq]; omega), List.map_append]
  rfl
theorem Drawn1.nil : Drawn1 [] := ⟨fun _ m => (nomatch m), List.Sublist.refl _, Nat.zero_le _, fun _ m => (nomatch m), fun _ _ m => (nomatch m), fun _ _ _ m => (nomatch m)⟩
theorem Drawn1.add {ps : List Part} {p : Part} (h : Drawn1 ps) (l : ps.length < 6) (ok : p.ok = true) (g : p.gap = none ∨ p.gap = names6[ps.length]?)
    (hw : ∀ w, p = .word w → w ∈ ([("a" : Str), "b", "get"] : List Str)) (h1 : ∀ n bs, p = .one n bs → (∀ b ∈ bs, b ∈ ([("a" : Str), "b", "c"] : List Str)) ∧ bs.length ≤ 2)
    (h2 : ∀ n lo bs, p = .sm n lo bs → (∀ b ∈ bs, b ∈ ([("a" : Str), "b", "c"] : List Str)) ∧ bs.length ≤ 2 ∧ lo ≤ 2) : Drawn1 (ps ++ [p]) := by
  refine ⟨fun q m => ?_, ?_, by simp; omega, fun w m => ?_, fun n bs m => ?_, fun n lo bs m => ?_⟩
  · rcases List.mem_append.mp m with m | m
    · exact h.ok q m
    · rw [List.mem_singleton.mp m]; exact ok
  · rw [gapsOf_app, List.length_append, List.length_singleton, List.take_add_one]
    refine List.Sublist.append h.gaps ?_
    rcases g with g | g
    · rw [g]; exact List.nil_sublist _
    · rw [g]; exact List.Sublist.refl _
  · rcases List.mem_append.mp m with m | m
    · exact h.words w m
    · exact hw w (List.mem_singleton.mp m).symm
  · rcases List.mem_append.mp m with m | m
    · exact h.bars1 n bs m
    · exact h1 n bs (List.mem_singleton.mp m).symm
  · rcases List.mem_append.mp m with m | m
    · exact h.bars2 n lo bs m
    · exact h2 n lo bs (List.mem_singleton.mp m).symm
theorem names6_word : ∀ x ∈ names6, wordB x = true := by decide +kernel
theorem abg_word : ∀ x ∈ ([("a" : Str), "b", "get"] : List Str), wordB x = true := by decide +kernel
abbrev gapsL : D := .lst (names6.map D.str)
theorem draw1_i (k : Nat) (ns : List Int) {z : Int} {m : Nat} (e : z = (m : Int)) (h : 0 < m) : Hl 1 (sem Δ (k + 3) f_law_draw_1 [.scr ns, .town, .int z]) fun d => ∃ i : Nat, i < m ∧ d = .int i := by
  subst e
  exact c_draw1 k ns m h
theorem range_get {n i : Nat} {x : D} (h : ((List.range n).map fun (k : Nat) => D.int (k : Int))[i]? = some x) : x = .int (i : Int) ∧ i < n := by
  rw [List.getElem?_map] at h
  obtain ⟨j, h1, rfl⟩ := Option.map_eq_some_iff.mp h
  obtain ⟨h2, h3⟩ := List.getElem?_eq_some_iff.mp h1
  rw [List.getElem_range] at h3
  rw [List.length_range] at h2
  subst h3
  exact ⟨rfl, h2⟩
theorem c_template1 (k : Nat) (ns : List Int) (most : Nat) (hm : most ≤ 6) : Hl 31 (sem Δ (k + 6) f_law_template_1 [.scr ns, .town, .int most]) fun d => ∃ ps, d = encT ps ∧ Drawn1 ps ∧ ps.length ≤ most := by
  rw [sem_at (F := F_law_template_1) rfl rfl]
  unfold F_law_template_1
  (try simp -implicitDefEqProofs only [run_def, startF, exs, ex, ev, evs, evo, iter, bnd_r, bnd_fail, bnd_bnd, opt_some, bnd_exc, bnd_raise, bnd_ite, blD_bl, out_rt, out_nx, ex_raise, List.map_cons, List.map_nil, List.cons_append, List.nil_append, List.length_cons, List.length_nil, List.replicate, Nat.reduceSub, Nat.reduceAdd, List.getElem?_cons_zero, List.getElem?_cons_succ, if_true, Bool.false_eq_true, if_false, reduceIte, setF, asg_nm, asg_tp, asgs_nil, asgs_cons, List.set_cons_zero, List.set_cons_succ, Option.bind_some, Nat.reduceLT, gv_i, gv_s, isi_of (ty_s _), isi_of (ty_t _), isi_of (ty_st _), isi_of (ty_ts _), isi_of (ty_i _), isi_of (ty_bi _), isi_of (ty_bb _), isi_of (ty_l _), len_s, len_t, len_l, len_c, pr_tl, pr_tt, pr_lt, pr_ll, cmp_lt, cmp_le, cmp_gt, cmp_ge, eq_s, ne_s, eq_i, ne_i, eq_b, ne_b, add_i, sub_i, mt_s, mtok_s, mtok_l, ite_bl, ite_or, ite_fl, bnd_id, wipeF, Tg.slots, Tg.slotsL, List.append_nil, noexc_ret, seq_t, seq_l, it_t, it_l, List.length_set])
  refine (Hl.bnd (d := 30) (draw1_i (k + 2) ns (m := most + 1) (by omega) (by omega)) fun d ⟨n, hn, e⟩ => ?_).mono (by decide)
  subst e
  (try simp -implicitDefEqProofs only [run_def, startF, exs, ex, ev, evs, evo, iter, bnd_r, bnd_fail, bnd_bnd, opt_some, bnd_exc, bnd_raise, bnd_ite, blD_bl, out_rt, out_nx, ex_raise, List.map_cons, List.map_nil, List.cons_append, List.nil_append, List.length_cons, List.length_nil, List.replicate, Nat.reduceSub, Nat.reduceAdd, List.getElem?_cons_zero, List.getElem?_cons_succ, if_true, Bool.false_eq_true, if_false, reduceIte, setF, asg_nm, asg_tp, asgs_nil, asgs_cons, List.set_cons_zero, List.set_cons_succ, Option.bind_some, Nat.reduceLT, gv_i, gv_s, isi_of (ty_s _), isi_of (ty_t _), isi_of (ty_st _), isi_of (ty_ts _), isi_of (ty_i _), isi_of (ty_bi _), isi_of (ty_bb _), isi_of (ty_l _), len_s, len_t, len_l, len_c, pr_tl, pr_tt, pr_lt, pr_ll, cmp_lt, cmp_le, cmp_gt, cmp_ge, eq_s, ne_s, eq_i, ne_i, eq_b, ne_b, add_i, sub_i, mt_s, mtok_s, mtok_l, ite_bl, ite_or, ite_fl, bnd_id, wipeF, Tg.slots, Tg.slotsL, List.append_nil, noexc_ret, seq_t, seq_l, it_t, it_l, List.length_set])
  rw [rng_nat (by omega)]
  (try simp -implicitDefEqProofs only [run_def, startF, exs, ex, ev, evs, evo, iter, bnd_r, bnd_fail, bnd_bnd, opt_some, bnd_exc, bnd_raise, bnd_ite, blD_bl, out_rt, out_nx, ex_raise, List.map_cons, List.map_nil, List.cons_append, List.nil_append, List.length_cons, List.length_nil, List.replicate, Nat.reduceSub, Nat.reduceAdd, List.getElem?_cons_zero, List.getElem?_cons_succ, if_true, Bool.false_eq_true, if_false, reduceIte, setF, asg_nm, asg_tp, asgs_nil, asgs_cons, List.set_cons_zero, List.set_cons_succ, Option.bind_some, Nat.reduceLT, gv_i, gv_s, isi_of (ty_s _), isi_of (ty_t _), isi_of (ty_st _), isi_of (ty_ts _), isi_of (ty_i _), isi_of (ty_bi _), isi_of (ty_bb _), isi_of (ty_l _), len_s, len_t, len_l, len_c, pr_tl, pr_tt, pr_lt, pr_ll, cmp_lt, cmp_le, cmp_gt, cmp_ge, eq_s, ne_s, eq_i, ne_i, eq_b, ne_b, add_i, sub_i, mt_s, mtok_s, mtok_l, ite_bl, ite_or, ite_fl, bnd_id, wipeF, Tg.slots, Tg.slotsL, List.append_nil, noexc_ret, seq_t, seq_l, it_t, it_l, List.length_set])
  refine (Hl.bnd (d := 0) (Hl.for_ (c := 5) (I := fun i ρ => ∃ ps x5 x6 x7, ρ = [some (.sh (.scr ns)), some (.sh .town), some (.sh (.int most)), some (.sh (encT ps)), some (.sh gapsL), x5, x6, x7] ∧ Drawn1 ps ∧ ps.length = i) _ 0 _ ⟨[], _, _, _, rfl, Drawn1.nil, rfl⟩ ?_) ?_).mono ?_
  · rintro i x ρ hx ⟨ps, x5, x6, x7, rfl, hd, hl⟩
    obtain ⟨rfl, hi⟩ := range_get hx
    rw [Nat.zero_add] at hl
    (try simp -implicitDefEqProofs only [run_def, startF, exs, ex, ev, evs, evo, iter, bnd_r, bnd_fail, bnd_bnd, opt_some, bnd_exc, bnd_raise, bnd_ite, blD_bl, out_rt, out_nx, ex_raise, List.map_cons, List.map_nil, List.cons_append, List.nil_append, List.length_cons, List.length_nil, List.replicate, Nat.reduceSub, Nat.reduceAdd, List.getElem?_cons_zero, List.getElem?_cons_succ, if_true, Bool.false_eq_true, if_false, reduceIte, setF, asg_nm, asg_tp, asgs_nil, asgs_cons, List.set_cons_zero, List.set_cons_succ, Option.bind_some, Nat.reduceLT, gv_i, gv_s, isi_of (ty_s _), isi_of (ty_t _), isi_of (ty_st _), isi_of (ty_ts _), isi_of (ty_i _), isi_of (ty_bi _), isi_of (ty_bb _), isi_of (ty_l _), len_s, len_t, len_l, len_c, pr_tl, pr_tt, pr_lt, pr_ll, cmp_lt, cmp_le, cmp_gt, cmp_ge, eq_s, ne_s, eq_i, ne_i, eq_b, ne_b, add_i, sub_i, mt_s, mtok_s, mtok_l, ite_bl, ite_or, ite_fl, bnd_id, wipeF, Tg.slots, Tg.slotsL, List.append_nil, noexc_ret, seq_t, seq_l, it_t, it_l, List.length_set])
    have h6 : ps.length < 6 := by omega
    have hi6 : i < names6.length := by show i < 6; omega
    have hg : names6[i]? = some names6[i] := List.getElem?_eq_getElem hi6
    have wn : wordB names6[i] = true := names6_word _ (List.getElem_mem _)
    have hx : dIdx gapsL (D.int ↑i) = some (.str names6[i]) := idx_l (by rw [List.getElem?_map, hg]; rfl)
    refine (Hl.bnd (d := 4) (c_draw1 (k + 2) ns 3 (by decide)) fun d ⟨j, hj, e⟩ => ?_).mono (by decide)
    subst e
    (try simp -implicitDefEqProofs only [run_def, startF, exs, ex, ev, evs, evo, iter, bnd_r, bnd_fail, bnd_bnd, opt_some, bnd_exc, bnd_raise, bnd_ite, blD_bl, out_rt, out_nx, ex_raise, List.map_cons, List.map_nil, List.cons_append, List.nil_append, List.length_cons, List.length_nil, List.replicate, Nat.reduceSub, Nat.reduceAdd, List.getElem?_cons_zero, List.getElem?_cons_succ, if_true, Bool.false_eq_true, if_false, reduceIte, setF, asg_nm, asg_tp, asgs_nil, asgs_cons, List.set_cons_zero, List.set_cons_succ, Option.bind_some, Nat.reduceLT, gv_i, gv_s, isi_of (ty_s _), isi_of (ty_t _), isi_of (ty_st _), isi_of (ty_ts _), isi_of (ty_i _), isi_of (ty_bi _), isi_of (ty_bb _), isi_of (ty_l _), len_s, len_t, len_l, len_c, pr_tl, pr_tt, pr_lt, pr_ll, cmp_lt, cmp_le, cmp_gt, cmp_ge, eq_s, ne_s, eq_i, ne_i, eq_b, ne_b, add_i, sub_i, mt_s, mtok_s, mtok_l, ite_bl, ite_or, ite_fl, bnd_id, wipeF, Tg.slots, Tg.slotsL, List.append_nil, noexc_ret, seq_t, seq_l, it_t, it_l, List.length_set])
    match j, hj with
    | 0, _ =>
      refine (Hl.bnd (d := 0) (c_pick1 (k + 1) ns _ (by decide)) fun d m => ?_).mono (by decide)
      obtain ⟨w, rfl, hw⟩ := mem_strs (l := [("a" : Str), "b", "get"]) m
      rw [show D.tup [D.str (Str.ofString "word"), D.str w] = (Part.word w).enc from rfl, encT_app ps _ (by omega)]
      exact Hl.ret ⟨_, .inl rfl, ps ++ [.word w], _, _, _, rfl, hd.add (p := .word w) h6 (abg_word w hw) (.inl rfl) (fun _ e => by cases e; exact hw) (fun _ _ e => by cases e) (fun _ _ _ e => by cases e), by simp [hl]⟩
    | 1, _ =>
      simp only [show ((((1 : Nat) : Int)) == 0) = false from rfl, show ((((1 : Nat) : Int)) == 1) = true from rfl, Bool.false_eq_true, if_false, if_true]
      rw [hx]
      (try simp -implicitDefEqProofs only [run_def, startF, exs, ex, ev, evs, evo, iter, bnd_r, bnd_fail, bnd_bnd, opt_some, bnd_exc, bnd_raise, bnd_ite, blD_bl, out_rt, out_nx, ex_raise, List.map_cons, List.map_nil, List.cons_append, List.nil_append, List.length_cons, List.length_nil, List.replicate, Nat.reduceSub, Nat.reduceAdd, List.getElem?_cons_zero, List.getElem?_cons_succ, if_true, Bool.false_eq_true, if_false, reduceIte, setF, asg_nm, asg_tp, asgs_nil, asgs_cons, List.set_cons_zero, List.set_cons_succ, Option.bind_some, Nat.reduceLT, gv_i, gv_s, isi_of (ty_s _), isi_of (ty_t _), isi_of (ty_st _), isi_of (ty_ts _), isi_of (ty_i _), isi_of (ty_bi _), isi_of (ty_bb _), isi_of (ty_l _), len_s, len_t, len_l, len_c, pr_tl, pr_tt, pr_lt, pr_ll, cmp_lt, cmp_le, cmp_gt, cmp_ge, eq_s, ne_s, eq_i, ne_i, eq_b, ne_b, add_i, sub_i, mt_s, mtok_s, mtok_l, ite_bl, ite_or, ite_fl, bnd_id, wipeF, Tg.slots, Tg.slotsL, List.append_nil, noexc_ret, seq_t, seq_l, it_t, it_l, List.length_set])
      refine (Hl.bnd (d := 0) (c_barred1 k ns) fun d ⟨bs, e, h1, h2, h3⟩ => ?_).mono (by decide)
      subst e
      rw [show D.tup [D.str (Str.ofString "one"), D.str names6[i], encS bs] = (Part.one names6[i] bs).enc from rfl, encT_app ps _ (by omega)]
      refine Hl.ret ⟨_, .inl rfl, ps ++ [.one names6[i] bs], _, _, _, rfl, hd.add h6 ?_ (.inr (by rw [hl, hg]; rfl)) (fun _ e => by cases e) (fun _ _ e => by cases e; exact ⟨h2, h3⟩) (fun _ _ _ e => by cases e), by simp [hl]⟩
      show (wordB _ && barsB _) = true
      rw [wn, h1]; rfl
    | 2, _ =>
      simp only [show ((((2 : Nat) : Int)) == 0) = false from rfl, show ((((2 : Nat) : Int)) == 1) = false from rfl, Bool.false_eq_true, if_false]
      refine (Hl.bnd (d := 3) (c_pick1 (k + 1) ns _ (by decide)) fun d m => ?_).mono (by decide)
      obtain ⟨lo, rfl, hlo⟩ : ∃ lo : Nat, d = .int lo ∧ lo ≤ 2 := by
        simp only [List.mem_cons, List.not_mem_nil, or_false] at m
        rcases m with rfl | rfl | rfl | rfl
        · exact ⟨0, rfl, by decide⟩
        · exact ⟨0, rfl, by decide⟩
        · exact ⟨1, rfl, by decide⟩
        · exact ⟨2, rfl, by decide⟩
      rw [hx]
      (try simp -implicitDefEqProofs only [run_def, startF, exs, ex, ev, evs, evo, iter, bnd_r, bnd_fail, bnd_bnd, opt_some, bnd_exc, bnd_raise, bnd_ite, blD_bl, out_rt, out_nx, ex_raise, List.map_cons, List.map_nil, List.cons_append, List.nil_append, List.length_cons, List.length_nil, List.replicate, Nat.reduceSub, Nat.reduceAdd, List.getElem?_cons_zero, List.getElem?_cons_succ, if_true, Bool.false_eq_true, if_false, reduceIte, setF, asg_nm, asg_tp, asgs_nil, asgs_cons, List.set_cons_zero, List.set_cons_succ, Option.bind_some, Nat.reduceLT, gv_i, gv_s, isi_of (ty_s _), isi_of (ty_t _), isi_of (ty_st _), isi_of (ty_ts _), isi_of (ty_i _), isi_of (ty_bi _), isi_of (ty_bb _), isi_of (ty_l _), len_s, len_t, len_l, len_c, pr_tl, pr_tt, pr_lt, pr_ll, cmp_lt, cmp_le, cmp_gt, cmp_ge, eq_s, ne_s, eq_i, ne_i, eq_b, ne_b, add_i, sub_i, mt_s, mtok_s, mtok_l, ite_bl, ite_or, ite_fl, bnd_id, wipeF, Tg.slots, Tg.slotsL, List.append_nil, noexc_ret, seq_t, seq_l, it_t, it_l, List.length_set])
      refine (Hl.bnd (d := 0) (c_barred1 k ns) fun d ⟨bs, e, h1, h2, h3⟩ => ?_).mono (by decide)
      subst e
      rw [show D.tup [D.str (Str.ofString "some"), D.str names6[i], D.int lo, encS bs] = (Part.sm names6[i] lo bs).enc from rfl, encT_app ps _ (by omega)]
      refine Hl.ret ⟨_, .inl rfl, ps ++ [.sm names6[i] lo bs], _, _, _, rfl, hd.add h6 ?_ (.inr (by rw [hl, hg]; rfl)) (fun _ e => by cases e) (fun _ _ e => by cases e) (fun _ _ _ e => by cases e; exact ⟨h2, h3, hlo⟩), by simp [hl]⟩
      show (wordB _ && (decide _ && barsB _)) = true
      rw [wn, h1, decide_eq_true hlo]; rfl
  · rintro f ⟨ρ, rfl, ps, x5, x6, x7, rfl, hd, hl⟩
    (try simp -implicitDefEqProofs only [run_def, startF, exs, ex, ev, evs, evo, iter, bnd_r, bnd_fail, bnd_bnd, opt_some, bnd_exc, bnd_raise, bnd_ite, blD_bl, out_rt, out_nx, ex_raise, List.map_cons, List.map_nil, List.cons_append, List.nil_append, List.length_cons, List.length_nil, List.replicate, Nat.reduceSub, Nat.reduceAdd, List.getElem?_cons_zero, List.getElem?_cons_succ, if_true, Bool.false_eq_true, if_false, reduceIte, setF, asg_nm, asg_tp, asgs_nil, asgs_cons, List.set_cons_zero, List.set_cons_succ, Option.bind_some, Nat.reduceLT, gv_i, gv_s, isi_of (ty_s _), isi_of (ty_t _), isi_of (ty_st _), isi_of (ty_ts _), isi_of (ty_i _), isi_of (ty_bi _), isi_of (ty_bb _), isi_of (ty_l _), len_s, len_t, len_l, len_c, pr_tl, pr_tt, pr_lt, pr_ll, cmp_lt, cmp_le, cmp_gt, cmp_ge, eq_s, ne_s, eq_i, ne_i, eq_b, ne_b, add_i, sub_i, mt_s, mtok_s, mtok_l, ite_bl, ite_or, ite_fl, bnd_id, wipeF, Tg.slots, Tg.slotsL, List.append_nil, noexc_ret, seq_t, seq_l, it_t, it_l, List.length_set])
    refine Hl.ret ⟨ps, rfl, hd, ?_⟩
    simp at hl
    omega
  · simp; omega
end G
/-! P5: slices, loops without draws; joining. -/
namespace G
open PySem L2
theorem take_min {α : Type} (l : List α) (i : Nat) : l.take (min i l.length) = l.take i := by
  by_cases h : i ≤ l.length
  · rw [Nat.min_eq_left h]
  · rw [Nat.min_eq_right (by omega), List.take_of_length_le (Nat.le_refl _), List.take_of_length_le (by omega)]
theorem cut_to {α : Type} (l : List α) (i : Nat) : cutL l none (some (i : Int)) = l.take i := by
  unfold cutL
  rw [HT.sIx_none, HT.sIx_nat, List.drop_zero, Nat.sub_zero, take_min]
theorem cut_fr {α : Type} (l : List α) (i : Nat) : cutL l (some (i : Int)) none = l.drop i := by
  unfold cutL
  rw [HT.sIx_nat, HT.sIx_none]
  by_cases h : i ≤ l.length
  · rw [Nat.min_eq_left h, List.take_of_length_le (by simp)]
  · rw [Nat.min_eq_right (by omega), List.drop_length, List.drop_eq_nil_of_le (by omega)]; simp
theorem cut_ff {α : Type} (l : List α) (i j : Nat) : cutL l (some (i : Int)) (some (j : Int)) = (l.drop i).take (j - i) := by
  unfold cutL
  rw [HT.sIx_nat, HT.sIx_nat]
  by_cases h : i ≤ l.length
  · rw [Nat.min_eq_left h]
    by_cases h2 : j ≤ l.length
    · rw [Nat.min_eq_left h2]
    · rw [Nat.min_eq_right (by omega), List.take_of_length_le (by simp), List.take_of_length_le (by simp; omega)]
  · rw [show min i l.length = l.length from Nat.min_eq_right (by omega), List.drop_length, List.drop_eq_nil_of_le (by omega)]; simp
theorem sl_to (l : List D) (i : Nat) : dSl (.tup l) none (some (i : Int)) = some (.tup (l.take i)) := by
  show some (D.tup (cutL l none (some (i : Int)))) = _
  rw [cut_to]
theorem sl_fr (l : List D) (i : Nat) : dSl (.tup l) (some (i : Int)) none = some (.tup (l.drop i)) := by
  show some (D.tup (cutL l (some (i : Int)) none)) = _
  rw [cut_fr]
/-- a for without draws, that goes to its end: s is what it holds -/
theorem forL_go {σ : Type} {body : Fr → D → M Flw} (rho : σ → Fr) (f : σ → D → σ) : ∀ (ds : List D) (s : σ), (∀ s d, d ∈ ds → body (rho s) d = ret (.nx (rho (f s d)))) → forL body ds (rho s) = ret (.nx (rho (ds.foldl f s)))
  | [], s, _ => rfl
  | d :: ds, s, h => by
    unfold forL
    rw [h s d List.mem_cons_self, bnd_r]
    exact forL_go rho f ds (f s d) fun s d m => h s d (List.mem_cons_of_mem _ m)
theorem enc_pr (p : Part) : p.enc.pr = true := by
  cases p with
  | word w => rfl
  | one n bs =>
    show (true && (true && ((encS bs).pr && true))) = true
    rw [show (encS bs).pr = true from strs_pr bs]; rfl
  | sm n lo bs =>
    show (true && (true && (true && ((encS bs).pr && true)))) = true
    rw [show (encS bs).pr = true from strs_pr bs]; rfl
theorem encS_dep (bs : List Str) : (encS bs).dep ≤ 1 := dep_t (strs_dep bs)
theorem enc_dep (p : Part) : p.enc.dep ≤ 2 := by
  cases p with
  | word w => exact (by decide : (1 : Nat) ≤ 2)
  | one n bs =>
    refine dep_t fun d m => ?_
    simp only [List.mem_cons, List.not_mem_nil, or_false] at m
    rcases m with rfl | rfl | rfl
    · exact Nat.zero_le _
    · exact Nat.zero_le _
    · exact encS_dep bs
  | sm n lo bs =>
    refine dep_t fun d m => ?_
    simp only [List.mem_cons, List.not_mem_nil, or_false] at m
    rcases m with rfl | rfl | rfl | rfl
    · exact Nat.zero_le _
    · exact Nat.zero_le _
    · exact Nat.zero_le _
    · exact encS_dep bs
theorem encT_pr (ps : List Part) : (encT ps).pr = true := D.prs_iff.mpr fun d m => by
  obtain ⟨p, _, rfl⟩ := List.mem_map.mp m
  exact enc_pr p
theorem encT_dep (ps : List Part) : (encT ps).dep ≤ 3 := dep_t fun d m => by
  obtain ⟨p, _, rfl⟩ := List.mem_map.mp m
  exact enc_dep p
theorem encS_inj {xs ys : List Str} (h : encS xs = encS ys) : xs = ys := str_inj (D.tup.inj h)
theorem enc_inj : ∀ p q : Part, p.enc = q.enc → p = q := fun p q h => by
  cases p <;> cases q <;> simp only [Part.enc, D.tup.injEq, List.cons.injEq, D.str.injEq, D.int.injEq, and_true] at h
  · rw [h.2]
  · exact absurd h.1 (by decide)
  · exact absurd h.1 (by decide)
  · exact absurd h.1 (by decide)
  · rw [h.2.1, encS_inj h.2.2]
  · exact absurd h.1 (by decide)
  · exact absurd h.1 (by decide)
  · exact absurd h.1 (by decide)
  · obtain ⟨_, h1, h2, h3⟩ := h
    rw [h1, encS_inj h3, show _ = _ from Int.ofNat_inj.mp h2]
theorem map_inj {α β : Type} {f : α → β} (hf : ∀ x y, f x = f y → x = y) : ∀ {l m : List α}, l.map f = m.map f → l = m
  | [], [], _ => rfl
  | [], _ :: _, h => by cases h
  | _ :: _, [], h => by cases h
  | x :: l, y :: m, h => by
    rw [List.map_cons, List.map_cons, List.cons.injEq] at h
    rw [hf x y h.1, map_inj hf h.2]
theorem encT_inj {ps qs : List Part} (h : encT ps = encT qs) : ps = qs := map_inj enc_inj (D.tup.inj h)
theorem encT_eq (ps qs : List Part) : dCmp .eq (encT ps) (encT qs) = some (.bl (decide (ps = qs))) := by
  rw [eq_d (eqOk_l (D.pr_plain _ (encT_pr ps)) (D.pr_plain _ (encT_pr qs)) (Nat.le_trans (encT_dep ps) (by decide))), eqb_inj (f := encT) encT_pr fun x y => encT_inj]
theorem encT_ne (ps qs : List Part) : dCmp .ne (encT ps) (encT qs) = some (.bl (!decide (ps = qs))) := by
  rw [ne_d (eqOk_l (D.pr_plain _ (encT_pr ps)) (D.pr_plain _ (encT_pr qs)) (Nat.le_trans (encT_dep ps) (by decide))), eqb_inj (f := encT) encT_pr fun x y => encT_inj]
theorem lstS_ne (xs ys : List Str) : dCmp .ne (.lst (xs.map .str)) (.lst (ys.map .str)) = some (.bl (!decide (xs = ys))) := by
  have p : ∀ zs : List Str, (D.lst (zs.map .str)).pr = true := strs_pr
  rw [ne_d (eqOk_l (D.pr_plain _ (p xs)) (D.pr_plain _ (p ys)) (Nat.le_trans (dep_l (strs_dep xs)) (by decide)))]
  rw [eqb_inj (f := fun zs : List Str => D.lst (zs.map .str)) p fun x y e => str_inj (D.lst.inj e)]
theorem encT_add (ps qs : List Part) (h : ps.length + qs.length ≤ 1000) : dBin .add (encT ps) (encT qs) = some (encT (ps ++ qs)) := by
  unfold encT
  show (if (ps.map Part.enc).length + (qs.map Part.enc).length ≤ sizeLine then _ else _) = _
  rw [if_pos (by rw [List.length_map, List.length_map, sizeLine_eq]; omega), List.map_append]
def wordsOf (ps : List Part) : List Str := ps.filterMap fun p => if p.isW = true then some p.nm else none
theorem words_fm (ps : List Part) : (ps.filterMap fun p => if p.isW = true then some (D.str p.nm) else none) = (wordsOf ps).map D.str := by
  unfold wordsOf
  induction ps with
  | nil => rfl
  | cons p ps ih =>
    rw [List.filterMap_cons, List.filterMap_cons, ih]
    cases p <;> rfl
theorem c_words_of (k : Nat) {ps : List Part} (h : TplOk ps) : sem Δ (k + 7) f_words_of [encT ps] = ret (.lst ((wordsOf ps).map .str)) := by
  rw [sem_at (F := F_words_of) rfl rfl]
  unfold F_words_of
  (try simp -implicitDefEqProofs only [run_def, startF, exs, ex, ev, evs, evo, iter, bnd_r, bnd_fail, bnd_bnd, opt_some, bnd_exc, bnd_raise, bnd_ite, blD_bl, out_rt, out_nx, ex_raise, List.map_cons, List.map_nil, List.cons_append, List.nil_append, List.length_cons, List.length_nil, List.replicate, Nat.reduceSub, Nat.reduceAdd, List.getElem?_cons_zero, List.getElem?_cons_succ, if_true, Bool.false_eq_true, if_false, reduceIte, setF, asg_nm, asg_tp, asgs_nil, asgs_cons, List.set_cons_zero, List.set_cons_succ, Option.bind_some, Nat.reduceLT, gv_i, gv_s, isi_of (ty_s _), isi_of (ty_t _), isi_of (ty_st _), isi_of (ty_ts _), isi_of (ty_i _), isi_of (ty_bi _), isi_of (ty_bb _), isi_of (ty_l _), len_s, len_t, len_l, len_c, pr_tl, pr_tt, pr_lt, pr_ll, cmp_lt, cmp_le, cmp_gt, cmp_ge, eq_s, ne_s, eq_i, ne_i, eq_b, ne_b, add_i, sub_i, mt_s, mtok_s, mtok_l, ite_bl, ite_or, ite_fl, bnd_id, wipeF, Tg.slots, Tg.slotsL, List.append_nil, noexc_ret, seq_t, seq_l, it_t, it_l, List.length_set])
  rw [c_need k h]
  unfold encT
  have := h.len
  (try simp -implicitDefEqProofs only [run_def, startF, exs, ex, ev, evs, evo, iter, bnd_r, bnd_fail, bnd_bnd, opt_some, bnd_exc, bnd_raise, bnd_ite, blD_bl, out_rt, out_nx, ex_raise, List.map_cons, List.map_nil, List.cons_append, List.nil_append, List.length_cons, List.length_nil, List.replicate, Nat.reduceSub, Nat.reduceAdd, List.getElem?_cons_zero, List.getElem?_cons_succ, if_true, Bool.false_eq_true, if_false, reduceIte, setF, asg_nm, asg_tp, asgs_nil, asgs_cons, List.set_cons_zero, List.set_cons_succ, Option.bind_some, Nat.reduceLT, gv_i, gv_s, isi_of (ty_s _), isi_of (ty_t _), isi_of (ty_st _), isi_of (ty_ts _), isi_of (ty_i _), isi_of (ty_bi _), isi_of (ty_bb _), isi_of (ty_l _), len_s, len_t, len_l, len_c, pr_tl, pr_tt, pr_lt, pr_ll, cmp_lt, cmp_le, cmp_gt, cmp_ge, eq_s, ne_s, eq_i, ne_i, eq_b, ne_b, add_i, sub_i, mt_s, mtok_s, mtok_l, ite_bl, ite_or, ite_fl, bnd_id, wipeF, Tg.slots, Tg.slotsL, List.append_nil, noexc_ret, seq_t, seq_l, it_t, it_l, List.length_set])
  rw [Hl.lenOk (by simp; omega), bnd_r, comp_fm ps Part.enc (fun p => if p.isW = true then some (D.str p.nm) else none) fun p _ => ?_]
  · (try simp -implicitDefEqProofs only [run_def, startF, exs, ex, ev, evs, evo, iter, bnd_r, bnd_fail, bnd_bnd, opt_some, bnd_exc, bnd_raise, bnd_ite, blD_bl, out_rt, out_nx, ex_raise, List.map_cons, List.map_nil, List.cons_append, List.nil_append, List.length_cons, List.length_nil, List.replicate, Nat.reduceSub, Nat.reduceAdd, List.getElem?_cons_zero, List.getElem?_cons_succ, if_true, Bool.false_eq_true, if_false, reduceIte, setF, asg_nm, asg_tp, asgs_nil, asgs_cons, List.set_cons_zero, List.set_cons_succ, Option.bind_some, Nat.reduceLT, gv_i, gv_s, isi_of (ty_s _), isi_of (ty_t _), isi_of (ty_st _), isi_of (ty_ts _), isi_of (ty_i _), isi_of (ty_bi _), isi_of (ty_bb _), isi_of (ty_l _), len_s, len_t, len_l, len_c, pr_tl, pr_tt, pr_lt, pr_ll, cmp_lt, cmp_le, cmp_gt, cmp_ge, eq_s, ne_s, eq_i, ne_i, eq_b, ne_b, add_i, sub_i, mt_s, mtok_s, mtok_l, ite_bl, ite_or, ite_fl, bnd_id, wipeF, Tg.slots, Tg.slotsL, List.append_nil, noexc_ret, seq_t, seq_l, it_t, it_l, List.length_set])
    rw [words_fm]
  · rw [pt_word, pt_name]
    (try simp -implicitDefEqProofs only [run_def, startF, exs, ex, ev, evs, evo, iter, bnd_r, bnd_fail, bnd_bnd, opt_some, bnd_exc, bnd_raise, bnd_ite, blD_bl, out_rt, out_nx, ex_raise, List.map_cons, List.map_nil, List.cons_append, List.nil_append, List.length_cons, List.length_nil, List.replicate, Nat.reduceSub, Nat.reduceAdd, List.getElem?_cons_zero, List.getElem?_cons_succ, if_true, Bool.false_eq_true, if_false, reduceIte, setF, asg_nm, asg_tp, asgs_nil, asgs_cons, List.set_cons_zero, List.set_cons_succ, Option.bind_some, Nat.reduceLT, gv_i, gv_s, isi_of (ty_s _), isi_of (ty_t _), isi_of (ty_st _), isi_of (ty_ts _), isi_of (ty_i _), isi_of (ty_bi _), isi_of (ty_bb _), isi_of (ty_l _), len_s, len_t, len_l, len_c, pr_tl, pr_tt, pr_lt, pr_ll, cmp_lt, cmp_le, cmp_gt, cmp_ge, eq_s, ne_s, eq_i, ne_i, eq_b, ne_b, add_i, sub_i, mt_s, mtok_s, mtok_l, ite_bl, ite_or, ite_fl, bnd_id, wipeF, Tg.slots, Tg.slotsL, List.append_nil, noexc_ret, seq_t, seq_l, it_t, it_l, List.length_set])
    cases p <;> rfl
theorem c_is_plain (k : Nat) {ps : List Part} (h : TplOk ps) : sem Δ (k + 7) f_is_plain [encT ps] = ret (.bl (ps.all Part.isW)) := by
  rw [sem_at (F := F_is_plain) rfl rfl]
  unfold F_is_plain
  (try simp -implicitDefEqProofs only [run_def, startF, exs, ex, ev, evs, evo, iter, bnd_r, bnd_fail, bnd_bnd, opt_some, bnd_exc, bnd_raise, bnd_ite, blD_bl, out_rt, out_nx, ex_raise, List.map_cons, List.map_nil, List.cons_append, List.nil_append, List.length_cons, List.length_nil, List.replicate, Nat.reduceSub, Nat.reduceAdd, List.getElem?_cons_zero, List.getElem?_cons_succ, if_true, Bool.false_eq_true, if_false, reduceIte, setF, asg_nm, asg_tp, asgs_nil, asgs_cons, List.set_cons_zero, List.set_cons_succ, Option.bind_some, Nat.reduceLT, gv_i, gv_s, isi_of (ty_s _), isi_of (ty_t _), isi_of (ty_st _), isi_of (ty_ts _), isi_of (ty_i _), isi_of (ty_bi _), isi_of (ty_bb _), isi_of (ty_l _), len_s, len_t, len_l, len_c, pr_tl, pr_tt, pr_lt, pr_ll, cmp_lt, cmp_le, cmp_gt, cmp_ge, eq_s, ne_s, eq_i, ne_i, eq_b, ne_b, add_i, sub_i, mt_s, mtok_s, mtok_l, ite_bl, ite_or, ite_fl, bnd_id, wipeF, Tg.slots, Tg.slotsL, List.append_nil, noexc_ret, seq_t, seq_l, it_t, it_l, List.length_set])
  rw [c_need k h]
  unfold encT
  have := h.len
  (try simp -implicitDefEqProofs only [run_def, startF, exs, ex, ev, evs, evo, iter, bnd_r, bnd_fail, bnd_bnd, opt_some, bnd_exc, bnd_raise, bnd_ite, blD_bl, out_rt, out_nx, ex_raise, List.map_cons, List.map_nil, List.cons_append, List.nil_append, List.length_cons, List.length_nil, List.replicate, Nat.reduceSub, Nat.reduceAdd, List.getElem?_cons_zero, List.getElem?_cons_succ, if_true, Bool.false_eq_true, if_false, reduceIte, setF, asg_nm, asg_tp, asgs_nil, asgs_cons, List.set_cons_zero, List.set_cons_succ, Option.bind_some, Nat.reduceLT, gv_i, gv_s, isi_of (ty_s _), isi_of (ty_t _), isi_of (ty_st _), isi_of (ty_ts _), isi_of (ty_i _), isi_of (ty_bi _), isi_of (ty_bb _), isi_of (ty_l _), len_s, len_t, len_l, len_c, pr_tl, pr_tt, pr_lt, pr_ll, cmp_lt, cmp_le, cmp_gt, cmp_ge, eq_s, ne_s, eq_i, ne_i, eq_b, ne_b, add_i, sub_i, mt_s, mtok_s, mtok_l, ite_bl, ite_or, ite_fl, bnd_id, wipeF, Tg.slots, Tg.slotsL, List.append_nil, noexc_ret, seq_t, seq_l, it_t, it_l, List.length_set])
  rw [Hl.lenOk (by simp; omega), bnd_r, comp_map ps Part.enc (fun p => .bl p.isW) fun p _ => ?_]
  · (try simp -implicitDefEqProofs only [run_def, startF, exs, ex, ev, evs, evo, iter, bnd_r, bnd_fail, bnd_bnd, opt_some, bnd_exc, bnd_raise, bnd_ite, blD_bl, out_rt, out_nx, ex_raise, List.map_cons, List.map_nil, List.cons_append, List.nil_append, List.length_cons, List.length_nil, List.replicate, Nat.reduceSub, Nat.reduceAdd, List.getElem?_cons_zero, List.getElem?_cons_succ, if_true, Bool.false_eq_true, if_false, reduceIte, setF, asg_nm, asg_tp, asgs_nil, asgs_cons, List.set_cons_zero, List.set_cons_succ, Option.bind_some, Nat.reduceLT, gv_i, gv_s, isi_of (ty_s _), isi_of (ty_t _), isi_of (ty_st _), isi_of (ty_ts _), isi_of (ty_i _), isi_of (ty_bi _), isi_of (ty_bb _), isi_of (ty_l _), len_s, len_t, len_l, len_c, pr_tl, pr_tt, pr_lt, pr_ll, cmp_lt, cmp_le, cmp_gt, cmp_ge, eq_s, ne_s, eq_i, ne_i, eq_b, ne_b, add_i, sub_i, mt_s, mtok_s, mtok_l, ite_bl, ite_or, ite_fl, bnd_id, wipeF, Tg.slots, Tg.slotsL, List.append_nil, noexc_ret, seq_t, seq_l, it_t, it_l, List.length_set])
    rw [all_map]
    rfl
  · rw [pt_word]
    (try simp -implicitDefEqProofs only [run_def, startF, exs, ex, ev, evs, evo, iter, bnd_r, bnd_fail, bnd_bnd, opt_some, bnd_exc, bnd_raise, bnd_ite, blD_bl, out_rt, out_nx, ex_raise, List.map_cons, List.map_nil, List.cons_append, List.nil_append, List.length_cons, List.length_nil, List.replicate, Nat.reduceSub, Nat.reduceAdd, List.getElem?_cons_zero, List.getElem?_cons_succ, if_true, Bool.false_eq_true, if_false, reduceIte, setF, asg_nm, asg_tp, asgs_nil, asgs_cons, List.set_cons_zero, List.set_cons_succ, Option.bind_some, Nat.reduceLT, gv_i, gv_s, isi_of (ty_s _), isi_of (ty_t _), isi_of (ty_st _), isi_of (ty_ts _), isi_of (ty_i _), isi_of (ty_bi _), isi_of (ty_bb _), isi_of (ty_l _), len_s, len_t, len_l, len_c, pr_tl, pr_tt, pr_lt, pr_ll, cmp_lt, cmp_le, cmp_gt, cmp_ge, eq_s, ne_s, eq_i, ne_i, eq_b, ne_b, add_i, sub_i, mt_s, mtok_s, mtok_l, ite_bl, ite_or, ite_fl, bnd_id, wipeF, Tg.slots, Tg.slotsL, List.append_nil, noexc_ret, seq_t, seq_l, it_t, it_l, List.length_set])
    cases p <;> rfl
theorem c_joined (k : Nat) {ps qs : List Part} (h1 : TplOk ps) (h2 : TplOk qs) :
    sem Δ (k + 7) f_joined [encT ps, encT qs] = if 6 < (ps ++ qs).length then raiseM 12 else if gapsB (ps ++ qs) = true then ret (encT (ps ++ qs)) else raiseM 11 := by
  rw [sem_at (F := F_joined) rfl rfl]
  unfold F_joined
  have l1 := h1.len
  have l2 := h2.len
  (try simp -implicitDefEqProofs only [run_def, startF, exs, ex, ev, evs, evo, iter, bnd_r, bnd_fail, bnd_bnd, opt_some, bnd_exc, bnd_raise, bnd_ite, blD_bl, out_rt, out_nx, ex_raise, List.map_cons, List.map_nil, List.cons_append, List.nil_append, List.length_cons, List.length_nil, List.replicate, Nat.reduceSub, Nat.reduceAdd, List.getElem?_cons_zero, List.getElem?_cons_succ, if_true, Bool.false_eq_true, if_false, reduceIte, setF, asg_nm, asg_tp, asgs_nil, asgs_cons, List.set_cons_zero, List.set_cons_succ, Option.bind_some, Nat.reduceLT, gv_i, gv_s, isi_of (ty_s _), isi_of (ty_t _), isi_of (ty_st _), isi_of (ty_ts _), isi_of (ty_i _), isi_of (ty_bi _), isi_of (ty_bb _), isi_of (ty_l _), len_s, len_t, len_l, len_c, pr_tl, pr_tt, pr_lt, pr_ll, cmp_lt, cmp_le, cmp_gt, cmp_ge, eq_s, ne_s, eq_i, ne_i, eq_b, ne_b, add_i, sub_i, mt_s, mtok_s, mtok_l, ite_bl, ite_or, ite_fl, bnd_id, wipeF, Tg.slots, Tg.slotsL, List.append_nil, noexc_ret, seq_t, seq_l, it_t, it_l, List.length_set])
  rw [c_need k h1]
  (try simp -implicitDefEqProofs only [run_def, startF, exs, ex, ev, evs, evo, iter, bnd_r, bnd_fail, bnd_bnd, opt_some, bnd_exc, bnd_raise, bnd_ite, blD_bl, out_rt, out_nx, ex_raise, List.map_cons, List.map_nil, List.cons_append, List.nil_append, List.length_cons, List.length_nil, List.replicate, Nat.reduceSub, Nat.reduceAdd, List.getElem?_cons_zero, List.getElem?_cons_succ, if_true, Bool.false_eq_true, if_false, reduceIte, setF, asg_nm, asg_tp, asgs_nil, asgs_cons, List.set_cons_zero, List.set_cons_succ, Option.bind_some, Nat.reduceLT, gv_i, gv_s, isi_of (ty_s _), isi_of (ty_t _), isi_of (ty_st _), isi_of (ty_ts _), isi_of (ty_i _), isi_of (ty_bi _), isi_of (ty_bb _), isi_of (ty_l _), len_s, len_t, len_l, len_c, pr_tl, pr_tt, pr_lt, pr_ll, cmp_lt, cmp_le, cmp_gt, cmp_ge, eq_s, ne_s, eq_i, ne_i, eq_b, ne_b, add_i, sub_i, mt_s, mtok_s, mtok_l, ite_bl, ite_or, ite_fl, bnd_id, wipeF, Tg.slots, Tg.slotsL, List.append_nil, noexc_ret, seq_t, seq_l, it_t, it_l, List.length_set])
  rw [c_need k h2]
  (try simp -implicitDefEqProofs only [run_def, startF, exs, ex, ev, evs, evo, iter, bnd_r, bnd_fail, bnd_bnd, opt_some, bnd_exc, bnd_raise, bnd_ite, blD_bl, out_rt, out_nx, ex_raise, List.map_cons, List.map_nil, List.cons_append, List.nil_append, List.length_cons, List.length_nil, List.replicate, Nat.reduceSub, Nat.reduceAdd, List.getElem?_cons_zero, List.getElem?_cons_succ, if_true, Bool.false_eq_true, if_false, reduceIte, setF, asg_nm, asg_tp, asgs_nil, asgs_cons, List.set_cons_zero, List.set_cons_succ, Option.bind_some, Nat.reduceLT, gv_i, gv_s, isi_of (ty_s _), isi_of (ty_t _), isi_of (ty_st _), isi_of (ty_ts _), isi_of (ty_i _), isi_of (ty_bi _), isi_of (ty_bb _), isi_of (ty_l _), len_s, len_t, len_l, len_c, pr_tl, pr_tt, pr_lt, pr_ll, cmp_lt, cmp_le, cmp_gt, cmp_ge, eq_s, ne_s, eq_i, ne_i, eq_b, ne_b, add_i, sub_i, mt_s, mtok_s, mtok_l, ite_bl, ite_or, ite_fl, bnd_id, wipeF, Tg.slots, Tg.slotsL, List.append_nil, noexc_ret, seq_t, seq_l, it_t, it_l, List.length_set])
  rw [encT_add _ _ (by omega)]
  (try simp -implicitDefEqProofs only [run_def, startF, exs, ex, ev, evs, evo, iter, bnd_r, bnd_fail, bnd_bnd, opt_some, bnd_exc, bnd_raise, bnd_ite, blD_bl, out_rt, out_nx, ex_raise, List.map_cons, List.map_nil, List.cons_append, List.nil_append, List.length_cons, List.length_nil, List.replicate, Nat.reduceSub, Nat.reduceAdd, List.getElem?_cons_zero, List.getElem?_cons_succ, if_true, Bool.false_eq_true, if_false, reduceIte, setF, asg_nm, asg_tp, asgs_nil, asgs_cons, List.set_cons_zero, List.set_cons_succ, Option.bind_some, Nat.reduceLT, gv_i, gv_s, isi_of (ty_s _), isi_of (ty_t _), isi_of (ty_st _), isi_of (ty_ts _), isi_of (ty_i _), isi_of (ty_bi _), isi_of (ty_bb _), isi_of (ty_l _), len_s, len_t, len_l, len_c, pr_tl, pr_tt, pr_lt, pr_ll, cmp_lt, cmp_le, cmp_gt, cmp_ge, eq_s, ne_s, eq_i, ne_i, eq_b, ne_b, add_i, sub_i, mt_s, mtok_s, mtok_l, ite_bl, ite_or, ite_fl, bnd_id, wipeF, Tg.slots, Tg.slotsL, List.append_nil, noexc_ret, seq_t, seq_l, it_t, it_l, List.length_set])
  have e : dPrim .len [encT (ps ++ qs)] = some (.int (ps ++ qs).length) := by
    unfold encT
    rw [len_t, List.length_map]
  rw [e]
  (try simp -implicitDefEqProofs only [run_def, startF, exs, ex, ev, evs, evo, iter, bnd_r, bnd_fail, bnd_bnd, opt_some, bnd_exc, bnd_raise, bnd_ite, blD_bl, out_rt, out_nx, ex_raise, List.map_cons, List.map_nil, List.cons_append, List.nil_append, List.length_cons, List.length_nil, List.replicate, Nat.reduceSub, Nat.reduceAdd, List.getElem?_cons_zero, List.getElem?_cons_succ, if_true, Bool.false_eq_true, if_false, reduceIte, setF, asg_nm, asg_tp, asgs_nil, asgs_cons, List.set_cons_zero, List.set_cons_succ, Option.bind_some, Nat.reduceLT, gv_i, gv_s, isi_of (ty_s _), isi_of (ty_t _), isi_of (ty_st _), isi_of (ty_ts _), isi_of (ty_i _), isi_of (ty_bi _), isi_of (ty_bb _), isi_of (ty_l _), len_s, len_t, len_l, len_c, pr_tl, pr_tt, pr_lt, pr_ll, cmp_lt, cmp_le, cmp_gt, cmp_ge, eq_s, ne_s, eq_i, ne_i, eq_b, ne_b, add_i, sub_i, mt_s, mtok_s, mtok_l, ite_bl, ite_or, ite_fl, bnd_id, wipeF, Tg.slots, Tg.slotsL, List.append_nil, noexc_ret, seq_t, seq_l, it_t, it_l, List.length_set])
  rw [c_is_template (k + 1) (ps ++ qs) fun p m => (List.mem_append.mp m).elim (h1.ok p) (h2.ok p)]
  (try simp -implicitDefEqProofs only [run_def, startF, exs, ex, ev, evs, evo, iter, bnd_r, bnd_fail, bnd_bnd, opt_some, bnd_exc, bnd_raise, bnd_ite, blD_bl, out_rt, out_nx, ex_raise, List.map_cons, List.map_nil, List.cons_append, List.nil_append, List.length_cons, List.length_nil, List.replicate, Nat.reduceSub, Nat.reduceAdd, List.getElem?_cons_zero, List.getElem?_cons_succ, if_true, Bool.false_eq_true, if_false, reduceIte, setF, asg_nm, asg_tp, asgs_nil, asgs_cons, List.set_cons_zero, List.set_cons_succ, Option.bind_some, Nat.reduceLT, gv_i, gv_s, isi_of (ty_s _), isi_of (ty_t _), isi_of (ty_st _), isi_of (ty_ts _), isi_of (ty_i _), isi_of (ty_bi _), isi_of (ty_bb _), isi_of (ty_l _), len_s, len_t, len_l, len_c, pr_tl, pr_tt, pr_lt, pr_ll, cmp_lt, cmp_le, cmp_gt, cmp_ge, eq_s, ne_s, eq_i, ne_i, eq_b, ne_b, add_i, sub_i, mt_s, mtok_s, mtok_l, ite_bl, ite_or, ite_fl, bnd_id, wipeF, Tg.slots, Tg.slotsL, List.append_nil, noexc_ret, seq_t, seq_l, it_t, it_l, List.length_set])
  by_cases hl : 6 < (ps ++ qs).length
  · rw [if_pos hl, decide_eq_true (show (6 : Int) < (((ps ++ qs).length : Nat) : Int) by omega)]
    (try simp -implicitDefEqProofs only [run_def, startF, exs, ex, ev, evs, evo, iter, bnd_r, bnd_fail, bnd_bnd, opt_some, bnd_exc, bnd_raise, bnd_ite, blD_bl, out_rt, out_nx, ex_raise, List.map_cons, List.map_nil, List.cons_append, List.nil_append, List.length_cons, List.length_nil, List.replicate, Nat.reduceSub, Nat.reduceAdd, List.getElem?_cons_zero, List.getElem?_cons_succ, if_true, Bool.false_eq_true, if_false, reduceIte, setF, asg_nm, asg_tp, asgs_nil, asgs_cons, List.set_cons_zero, List.set_cons_succ, Option.bind_some, Nat.reduceLT, gv_i, gv_s, isi_of (ty_s _), isi_of (ty_t _), isi_of (ty_st _), isi_of (ty_ts _), isi_of (ty_i _), isi_of (ty_bi _), isi_of (ty_bb _), isi_of (ty_l _), len_s, len_t, len_l, len_c, pr_tl, pr_tt, pr_lt, pr_ll, cmp_lt, cmp_le, cmp_gt, cmp_ge, eq_s, ne_s, eq_i, ne_i, eq_b, ne_b, add_i, sub_i, mt_s, mtok_s, mtok_l, ite_bl, ite_or, ite_fl, bnd_id, wipeF, Tg.slots, Tg.slotsL, List.append_nil, noexc_ret, seq_t, seq_l, it_t, it_l, List.length_set])
  · rw [if_neg hl, decide_eq_false (show ¬ (6 : Int) < (((ps ++ qs).length : Nat) : Int) by omega), decide_eq_true (show (ps ++ qs).length ≤ 6 by omega)]
    (try simp -implicitDefEqProofs only [run_def, startF, exs, ex, ev, evs, evo, iter, bnd_r, bnd_fail, bnd_bnd, opt_some, bnd_exc, bnd_raise, bnd_ite, blD_bl, out_rt, out_nx, ex_raise, List.map_cons, List.map_nil, List.cons_append, List.nil_append, List.length_cons, List.length_nil, List.replicate, Nat.reduceSub, Nat.reduceAdd, List.getElem?_cons_zero, List.getElem?_cons_succ, if_true, Bool.false_eq_true, if_false, reduceIte, setF, asg_nm, asg_tp, asgs_nil, asgs_cons, List.set_cons_zero, List.set_cons_succ, Option.bind_some, Nat.reduceLT, gv_i, gv_s, isi_of (ty_s _), isi_of (ty_t _), isi_of (ty_st _), isi_of (ty_ts _), isi_of (ty_i _), isi_of (ty_bi _), isi_of (ty_bb _), isi_of (ty_l _), len_s, len_t, len_l, len_c, pr_tl, pr_tt, pr_lt, pr_ll, cmp_lt, cmp_le, cmp_gt, cmp_ge, eq_s, ne_s, eq_i, ne_i, eq_b, ne_b, add_i, sub_i, mt_s, mtok_s, mtok_l, ite_bl, ite_or, ite_fl, bnd_id, wipeF, Tg.slots, Tg.slotsL, List.append_nil, noexc_ret, seq_t, seq_l, it_t, it_l, List.length_set])
    cases gapsB (ps ++ qs) <;> rfl
/-- a for over what is encoded, that goes to its end: an invariant by the turn -/
theorem forL_map {α σ : Type} {body : Fr → D → M Flw} (rho : σ → Fr) (e : α → D) (f : σ → α → σ) (I : Nat → σ → Prop) (N : Nat) : ∀ (l : List α) (i : Nat) (s : σ), i + l.length ≤ N → I i s → (∀ j s x, j < N → x ∈ l → I j s → body (rho s) (e x) = ret (.nx (rho (f s x))) ∧ I (j + 1) (f s x)) →
    forL body (l.map e) (rho s) = ret (.nx (rho (l.foldl f s))) ∧ I (i + l.length) (l.foldl f s)
  | [], i, s, _, h0, _ => ⟨rfl, h0⟩
  | x :: l, i, s, hN, h0, h => by
    simp only [List.length_cons] at hN
    obtain ⟨h1, h2⟩ := h i s x (by omega) List.mem_cons_self h0
    obtain ⟨h3, h4⟩ := forL_map rho e f I N l (i + 1) (f s x) (by omega) h2 fun j s y hj m => h j s y hj (List.mem_cons_of_mem _ m)
    rw [List.map_cons]
    unfold forL
    rw [h1, bnd_r]
    refine ⟨h3, ?_⟩
    rw [show i + (x :: l).length = i + 1 + l.length by simp; omega]
    exact h4
theorem bnd_for {α : Type} {body : Fr → D → M Flw} {ds : List D} {ρ ρ' : Fr} (h : forL body ds ρ = ret (.nx ρ')) (K : Flw → M α) : bnd (forL body ds ρ) K = K (.nx ρ') := by rw [h]; rfl
def enumP {α : Type} (k : Nat) : List α → List (Nat × α)
  | [] => []
  | x :: l => (k, x) :: enumP (k + 1) l
theorem enum_map {α : Type} (f : α → D) : ∀ (k : Nat) (l : List α), enum k (l.map f) = (enumP k l).map fun q => D.tup [.int (q.1 : Nat), f q.2]
  | _, [] => rfl
  | k, x :: l => by
    rw [List.map_cons]
    show D.tup [.int k, f x] :: enum (k + 1) (l.map f) = _
    rw [enum_map f (k + 1) l]
    rfl
theorem enumP_len {α : Type} : ∀ (k : Nat) (l : List α), (enumP k l).length = l.length
  | _, [] => rfl
  | k, _ :: l => by show (enumP (k + 1) l).length + 1 = l.length + 1; rw [enumP_len]
theorem enumP_mem {α : Type} : ∀ {k : Nat} {l : List α} {q : Nat × α}, q ∈ enumP k l → k ≤ q.1 ∧ l[q.1 - k]? = some q.2
  | _, [], _, m => nomatch m
  | k, x :: l, q, m => by
    rcases List.mem_cons.mp m with rfl | m
    · exact ⟨Nat.le_refl _, by simp⟩
    · obtain ⟨h1, h2⟩ := enumP_mem m
      refine ⟨by omega, ?_⟩
      rw [show q.1 - k = (q.1 - (k + 1)) + 1 by omega]
      simpa using h2
theorem fold_fm {α β : Type} (t : α → Bool) (h : α → β) : ∀ (l : List α) (a : List β), l.foldl (fun acc x => if t x = true then acc ++ [h x] else acc) a = a ++ l.filterMap fun x => if t x = true then some (h x) else none
  | [], a => by simp
  | x :: l, a => by
    rw [List.foldl_cons, fold_fm t h l, List.filterMap_cons]
    cases t x <;> simp
/-- is it the word d? -/
def isWd (d : D) (p : Part) : Bool := p.enc.eqb (.tup [.str "word", d])
def around (ps : List Part) (d : D) : List D := (enumP 0 ps).filterMap fun q => if isWd d q.2 = true then some (.tup [encT (ps.take q.1), encT (ps.drop (q.1 + 1))]) else none
theorem wd_cmp {d : D} (hd : d.plain = true) (p : Part) : dCmp .eq p.enc (.tup [.str "word", d]) = some (.bl (isWd d p)) := by
  refine eq_d (eqOk_l (D.pr_plain _ (enc_pr p)) ?_ (Nat.le_trans (enc_dep p) (by decide)))
  show (true && (d.plain && true)) = true
  rw [hd]; rfl
theorem sl_toT (ps : List Part) (i : Nat) : dSl (encT ps) none (some (i : Int)) = some (encT (ps.take i)) := by
  unfold encT
  rw [sl_to, List.map_take]
theorem sl_frT (ps : List Part) (i : Nat) : dSl (encT ps) (some (i : Int)) none = some (encT (ps.drop i)) := by
  unfold encT
  rw [sl_fr, List.map_drop]
theorem sl_frT1 (ps : List Part) (i : Nat) : dSl (encT ps) (some ((i : Int) + 1)) none = some (encT (ps.drop (i + 1))) := sl_frT ps (i + 1)
theorem seqT (ps : List Part) : seqOf (encT ps) = some (ps.map Part.enc) := rfl
theorem c_parts_around (k : Nat) {ps : List Part} (h : TplOk ps) {d : D} (hd : d.plain = true) : sem Δ (k + 7) f_parts_around [encT ps, d] = ret (.lst (around ps d)) := by
  rw [sem_at (F := F_parts_around) rfl rfl]
  unfold F_parts_around
  (try simp -implicitDefEqProofs only [run_def, startF, exs, ex, ev, evs, evo, iter, bnd_r, bnd_fail, bnd_bnd, opt_some, bnd_exc, bnd_raise, bnd_ite, blD_bl, out_rt, out_nx, ex_raise, List.map_cons, List.map_nil, List.cons_append, List.nil_append, List.length_cons, List.length_nil, List.replicate, Nat.reduceSub, Nat.reduceAdd, List.getElem?_cons_zero, List.getElem?_cons_succ, if_true, Bool.false_eq_true, if_false, reduceIte, setF, asg_nm, asg_tp, asgs_nil, asgs_cons, List.set_cons_zero, List.set_cons_succ, Option.bind_some, Nat.reduceLT, gv_i, gv_s, isi_of (ty_s _), isi_of (ty_t _), isi_of (ty_st _), isi_of (ty_ts _), isi_of (ty_i _), isi_of (ty_bi _), isi_of (ty_bb _), isi_of (ty_l _), len_s, len_t, len_l, len_c, pr_tl, pr_tt, pr_lt, pr_ll, cmp_lt, cmp_le, cmp_gt, cmp_ge, eq_s, ne_s, eq_i, ne_i, eq_b, ne_b, add_i, sub_i, mt_s, mtok_s, mtok_l, ite_bl, ite_or, ite_fl, bnd_id, wipeF, Tg.slots, Tg.slotsL, List.append_nil, noexc_ret, seq_t, seq_l, it_t, it_l, List.length_set])
  rw [c_need k h]
  (try simp -implicitDefEqProofs only [run_def, startF, exs, ex, ev, evs, evo, iter, bnd_r, bnd_fail, bnd_bnd, opt_some, bnd_exc, bnd_raise, bnd_ite, blD_bl, out_rt, out_nx, ex_raise, List.map_cons, List.map_nil, List.cons_append, List.nil_append, List.length_cons, List.length_nil, List.replicate, Nat.reduceSub, Nat.reduceAdd, List.getElem?_cons_zero, List.getElem?_cons_succ, if_true, Bool.false_eq_true, if_false, reduceIte, setF, asg_nm, asg_tp, asgs_nil, asgs_cons, List.set_cons_zero, List.set_cons_succ, Option.bind_some, Nat.reduceLT, gv_i, gv_s, isi_of (ty_s _), isi_of (ty_t _), isi_of (ty_st _), isi_of (ty_ts _), isi_of (ty_i _), isi_of (ty_bi _), isi_of (ty_bb _), isi_of (ty_l _), len_s, len_t, len_l, len_c, pr_tl, pr_tt, pr_lt, pr_ll, cmp_lt, cmp_le, cmp_gt, cmp_ge, eq_s, ne_s, eq_i, ne_i, eq_b, ne_b, add_i, sub_i, mt_s, mtok_s, mtok_l, ite_bl, ite_or, ite_fl, bnd_id, wipeF, Tg.slots, Tg.slotsL, List.append_nil, noexc_ret, seq_t, seq_l, it_t, it_l, List.length_set])
  rw [seqT]
  (try simp -implicitDefEqProofs only [run_def, startF, exs, ex, ev, evs, evo, iter, bnd_r, bnd_fail, bnd_bnd, opt_some, bnd_exc, bnd_raise, bnd_ite, blD_bl, out_rt, out_nx, ex_raise, List.map_cons, List.map_nil, List.cons_append, List.nil_append, List.length_cons, List.length_nil, List.replicate, Nat.reduceSub, Nat.reduceAdd, List.getElem?_cons_zero, List.getElem?_cons_succ, if_true, Bool.false_eq_true, if_false, reduceIte, setF, asg_nm, asg_tp, asgs_nil, asgs_cons, List.set_cons_zero, List.set_cons_succ, Option.bind_some, Nat.reduceLT, gv_i, gv_s, isi_of (ty_s _), isi_of (ty_t _), isi_of (ty_st _), isi_of (ty_ts _), isi_of (ty_i _), isi_of (ty_bi _), isi_of (ty_bb _), isi_of (ty_l _), len_s, len_t, len_l, len_c, pr_tl, pr_tt, pr_lt, pr_ll, cmp_lt, cmp_le, cmp_gt, cmp_ge, eq_s, ne_s, eq_i, ne_i, eq_b, ne_b, add_i, sub_i, mt_s, mtok_s, mtok_l, ite_bl, ite_or, ite_fl, bnd_id, wipeF, Tg.slots, Tg.slotsL, List.append_nil, noexc_ret, seq_t, seq_l, it_t, it_l, List.length_set])
  rw [enum_map]
  have hl := h.len
  refine Eq.trans (bnd_for (forL_map (fun s : List D × Option Slot × Option Slot => [some (.sh (encT ps)), some (.sh d), some (.ow (.lst s.1)), s.2.1, s.2.2]) (fun q : Nat × Part => D.tup [.int (q.1 : Nat), q.2.enc])
    (fun s q => (if isWd d q.2 = true then s.1 ++ [D.tup [encT (ps.take q.1), encT (ps.drop (q.1 + 1))]] else s.1, some (.sh (.int (q.1 : Nat))), some (.sh q.2.enc)))
    (fun i s => s.1.length ≤ i) 6 (enumP 0 ps) 0 ([], none, none) (by rw [enumP_len]; omega) (Nat.le_refl _) ?_).1 _) ?_
  · rintro j ⟨s, x3, x4⟩ ⟨i, p⟩ hj m hs
    (try simp -implicitDefEqProofs only [run_def, startF, exs, ex, ev, evs, evo, iter, bnd_r, bnd_fail, bnd_bnd, opt_some, bnd_exc, bnd_raise, bnd_ite, blD_bl, out_rt, out_nx, ex_raise, List.map_cons, List.map_nil, List.cons_append, List.nil_append, List.length_cons, List.length_nil, List.replicate, Nat.reduceSub, Nat.reduceAdd, List.getElem?_cons_zero, List.getElem?_cons_succ, if_true, Bool.false_eq_true, if_false, reduceIte, setF, asg_nm, asg_tp, asgs_nil, asgs_cons, List.set_cons_zero, List.set_cons_succ, Option.bind_some, Nat.reduceLT, gv_i, gv_s, isi_of (ty_s _), isi_of (ty_t _), isi_of (ty_st _), isi_of (ty_ts _), isi_of (ty_i _), isi_of (ty_bi _), isi_of (ty_bb _), isi_of (ty_l _), len_s, len_t, len_l, len_c, pr_tl, pr_tt, pr_lt, pr_ll, cmp_lt, cmp_le, cmp_gt, cmp_ge, eq_s, ne_s, eq_i, ne_i, eq_b, ne_b, add_i, sub_i, mt_s, mtok_s, mtok_l, ite_bl, ite_or, ite_fl, bnd_id, wipeF, Tg.slots, Tg.slotsL, List.append_nil, noexc_ret, seq_t, seq_l, it_t, it_l, List.length_set])
    rw [wd_cmp hd, sl_toT, sl_frT1]
    (try simp -implicitDefEqProofs only [run_def, startF, exs, ex, ev, evs, evo, iter, bnd_r, bnd_fail, bnd_bnd, opt_some, bnd_exc, bnd_raise, bnd_ite, blD_bl, out_rt, out_nx, ex_raise, List.map_cons, List.map_nil, List.cons_append, List.nil_append, List.length_cons, List.length_nil, List.replicate, Nat.reduceSub, Nat.reduceAdd, List.getElem?_cons_zero, List.getElem?_cons_succ, if_true, Bool.false_eq_true, if_false, reduceIte, setF, asg_nm, asg_tp, asgs_nil, asgs_cons, List.set_cons_zero, List.set_cons_succ, Option.bind_some, Nat.reduceLT, gv_i, gv_s, isi_of (ty_s _), isi_of (ty_t _), isi_of (ty_st _), isi_of (ty_ts _), isi_of (ty_i _), isi_of (ty_bi _), isi_of (ty_bb _), isi_of (ty_l _), len_s, len_t, len_l, len_c, pr_tl, pr_tt, pr_lt, pr_ll, cmp_lt, cmp_le, cmp_gt, cmp_ge, eq_s, ne_s, eq_i, ne_i, eq_b, ne_b, add_i, sub_i, mt_s, mtok_s, mtok_l, ite_bl, ite_or, ite_fl, bnd_id, wipeF, Tg.slots, Tg.slotsL, List.append_nil, noexc_ret, seq_t, seq_l, it_t, it_l, List.length_set])
    have hs : s.length ≤ j := hs
    have hz : s.length < sizeLine := by rw [sizeLine_eq]; omega
    rw [if_pos hz]
    cases isWd d p
    · exact ⟨rfl, Nat.le_succ_of_le hs⟩
    · exact ⟨rfl, by simp; omega⟩
  · (try simp -implicitDefEqProofs only [run_def, startF, exs, ex, ev, evs, evo, iter, bnd_r, bnd_fail, bnd_bnd, opt_some, bnd_exc, bnd_raise, bnd_ite, blD_bl, out_rt, out_nx, ex_raise, List.map_cons, List.map_nil, List.cons_append, List.nil_append, List.length_cons, List.length_nil, List.replicate, Nat.reduceSub, Nat.reduceAdd, List.getElem?_cons_zero, List.getElem?_cons_succ, if_true, Bool.false_eq_true, if_false, reduceIte, setF, asg_nm, asg_tp, asgs_nil, asgs_cons, List.set_cons_zero, List.set_cons_succ, Option.bind_some, Nat.reduceLT, gv_i, gv_s, isi_of (ty_s _), isi_of (ty_t _), isi_of (ty_st _), isi_of (ty_ts _), isi_of (ty_i _), isi_of (ty_bi _), isi_of (ty_bb _), isi_of (ty_l _), len_s, len_t, len_l, len_c, pr_tl, pr_tt, pr_lt, pr_ll, cmp_lt, cmp_le, cmp_gt, cmp_ge, eq_s, ne_s, eq_i, ne_i, eq_b, ne_b, add_i, sub_i, mt_s, mtok_s, mtok_l, ite_bl, ite_or, ite_fl, bnd_id, wipeF, Tg.slots, Tg.slotsL, List.append_nil, noexc_ret, seq_t, seq_l, it_t, it_l, List.length_set])
    have : ∀ (l : List (Nat × Part)) (a : List D) (x y : Option Slot), (l.foldl (fun (s : List D × Option Slot × Option Slot) q => (if isWd d q.2 = true then s.1 ++ [D.tup [encT (ps.take q.1), encT (ps.drop (q.1 + 1))]] else s.1, some (Slot.sh (.int (q.1 : Nat))), some (Slot.sh q.2.enc))) (a, x, y)).1 = l.foldl (fun acc q => if isWd d q.2 = true then acc ++ [D.tup [encT (ps.take q.1), encT (ps.drop (q.1 + 1))]] else acc) a := by
      intro l
      induction l with
      | nil => intro a x y; rfl
      | cons q l ih => intro a x y; rw [List.foldl_cons, List.foldl_cons]; exact ih _ _ _
    rw [this, fold_fm]
    rfl
/-- a law begins with its draws' list -/
theorem law_start {F : FDef} {c k f : Nat} {rest : List S} {ns : List Int} (hΔ : Δ f = some F) (har : F.ar = 1) (hb : F.body = .town 1 :: rest) (hN : 1 < F.N.length) (hc : c ≤ 10000000)
    (h : Hl c (bnd (exs (sem Δ k) rest ((startF F [.scr ns]).set 1 (some (.sh .town)))) outF) fun d => d = .bl true) : ∃ S, sem Δ (k + 1) f [.scr ns] none = .ok (.bl true) S := by
  obtain ⟨a, n, e, _, rfl⟩ := h 0 (by omega)
  refine ⟨some n, ?_⟩
  rw [sem_at (ds := [.scr ns]) hΔ (by rw [har]; rfl), run_def, hb]
  have hl : 1 < (startF F [.scr ns]).length := by
    unfold startF
    simp
    omega
  unfold exs ex setF
  rw [if_pos hl, opt_some]
  exact e
end G
/-! P6: what is refused. -/
namespace G
open PySem L2
def refD (c : Int) : D := .tup [.str "refused", .int c]
/-- what is no template -/
def oddL : List D := [.non, .int 5, .lst [], .tup [.int 5], .tup [.tup [.str "word"]], .tup [.tup [.str "word", .str "A"]], .tup [.tup [.str "word", .str "toolong"]], .tup [.tup [.str "one", .str "x"]], .str "get <x>",
  .tup [.tup [.str "one", .str "x", .lst [.str "a"]]], .tup [.tup [.str "one", .str "x", .tup [.str "b", .str "a"]]], .tup [.tup [.str "some", .str "x", .int 3, .tup []]], .tup [.tup [.str "gap", .str "x", .tup []]],
  .tup [.tup [.str "one", .str "x", .tup []], .tup [.str "some", .str "x", .int 0, .tup []]], .tup (List.replicate 7 (.tup [.str "word", .str "a"])), .tup [.tup [.str "some", .str "x", .bl true, .tup []]],
  .tup [.tup [.str "one", .str "x", .tup [.str "a", .str "b", .str "c", .str "d"]]], .tup [.tup [.str "one", .str "x", .tup [.str "a", .str "a"]]]]
theorem odd_pick (k : Nat) (ns : List Int) : sem Δ (k + 5) f_law_odd [.scr ns, .town] = sem Δ (k + 4) f_law_pick_1 [.scr ns, .town, .lst oddL] := by
  rw [sem_at (F := F_law_odd) rfl rfl, run_def]
  have e : exs (sem Δ (k + 4)) F_law_odd.body (startF F_law_odd [.scr ns, .town]) = bnd (bnd (sem Δ (k + 4) f_law_pick_1 [.scr ns, .town, .lst oddL]) fun d => ret (Flw.rt d)) (fun f => match f with
    | .nx ρ' => ret (.nx ρ')
    | .ct ρ' => ret (.ct ρ')
    | .rt d => ret (.rt d)) := by
    funext s
    kernel_rfl
  rw [e, bnd_bnd, bnd_bnd]
  exact bnd_id _
theorem c_odd (k : Nat) (ns : List Int) : Hl 1 (sem Δ (k + 5) f_law_odd [.scr ns, .town]) fun d => d ∈ oddL := by
  rw [odd_pick]
  exact c_pick1 k ns oddL (by decide)
theorem odd_need (k : Nat) : ∀ d ∈ oddL, sem Δ (k + 6) f_need_template [d] = raiseM 0 := by
  intro d m
  simp only [oddL, List.mem_cons, List.not_mem_nil, or_false] at m
  rcases m with rfl | rfl | rfl | rfl | rfl | rfl | rfl | rfl | rfl | rfl | rfl | rfl | rfl | rfl | rfl | rfl | rfl | rfl <;> (funext s; kernel_rfl)
/-- a def that needs a template first -/
theorem need_first {k f c : Nat} {F : FDef} {rest : List S} {d : D} {ds : List D} (hF : Δ f = some F) (hb : F.body = .exp (.call f_need_template [.var 0]) :: rest) (hl : (d :: ds).length = F.ar) (h : sem Δ k f_need_template [d] = raiseM c) : sem Δ (k + 1) f (d :: ds) = raiseM c := by
  rw [sem_at hF hl, run_def, hb]
  unfold startF
  rw [List.map_cons, List.cons_append]
  simp only [exs, ex, ev, evs, List.getElem?_cons_zero, bnd_r, h, bnd_raise]
/-- a def that is a try -/
theorem c_try {k f n w i c : Nat} {F : FDef} {ds : List D} {b : List S} {r : D} (hF : Δ f = some F) (hb : F.body = [.tryw i w n b]) (hl : ds.length = F.ar) (he : exs (sem Δ k) b (startF F ds) = raiseM c) (hc : c < n) (hr : sem Δ k w [.exn c] = ret r) (hp : r.plain = true) : sem Δ (k + 1) f ds = ret r := by
  rw [sem_at hF hl, run_def, hb]
  funext s
  have e1 : ex (sem Δ k) (.tryw i w n b) (startF F ds) s = .ok (.rt r) s := by
    rw [ex]
    rw [he]
    show (if c < n then bnd (noexc (sem Δ k w [.exn c])) (fun d => if d.plain = true then ret (Flw.rt d) else fail) s else .bad) = _
    rw [if_pos hc, hr]
    show (if r.plain = true then ret (Flw.rt r) else fail) s = _
    rw [if_pos hp]; rfl
  show bnd (bnd (ex (sem Δ k) (.tryw i w n b) (startF F ds)) _) outF s = _
  unfold bnd
  rw [e1]
  rfl
theorem c_try_ok {k f n w i : Nat} {F : FDef} {ds : List D} {b : List S} {r : D} (hF : Δ f = some F) (hb : F.body = [.tryw i w n b]) (hl : ds.length = F.ar) (he : exs (sem Δ k) b (startF F ds) = ret (.rt r)) : sem Δ (k + 1) f ds = ret r := by
  rw [sem_at hF hl, run_def, hb]
  funext s
  have e1 : ex (sem Δ k) (.tryw i w n b) (startF F ds) s = .ok (.rt r) s := by
    rw [ex]
    simp only [he]
    rfl
  show bnd (bnd (ex (sem Δ k) (.tryw i w n b) (startF F ds)) _) outF s = _
  unfold bnd
  rw [e1]
  rfl
theorem c_which1 (k : Nat) : ∀ c : Nat, c < 14 → sem Δ (k + 1) f_law_which_1 [.exn c] = ret (refD c)
  | 0, _ => by funext s; kernel_rfl
  | 1, _ => by funext s; kernel_rfl
  | 2, _ => by funext s; kernel_rfl
  | 3, _ => by funext s; kernel_rfl
  | 4, _ => by funext s; kernel_rfl
  | 5, _ => by funext s; kernel_rfl
  | 6, _ => by funext s; kernel_rfl
  | 7, _ => by funext s; kernel_rfl
  | 8, _ => by funext s; kernel_rfl
  | 9, _ => by funext s; kernel_rfl
  | 10, _ => by funext s; kernel_rfl
  | 11, _ => by funext s; kernel_rfl
  | 12, _ => by funext s; kernel_rfl
  | 13, _ => by funext s; kernel_rfl
  | n + 14, h => absurd h (by omega)
/-- a def that is a try, of the later laws: the error is told -/
theorem c_try1 {k f i c : Nat} {F : FDef} {ds : List D} {b : List S} (hF : Δ f = some F) (hb : F.body = [.tryw i f_law_which_1 14 b]) (hl : ds.length = F.ar) (he : exs (sem Δ (k + 1)) b (startF F ds) = raiseM c) (hc : c < 14) : sem Δ (k + 2) f ds = ret (refD c) :=
  c_try hF hb hl he hc (c_which1 k c hc) rfl
theorem ref_ne (c d : Nat) : dCmp .ne (refD c) (refD d) = some (.bl (!decide (c = d))) := by
  rw [ne_d rfl]
  show some (D.bl (!(true && (((c : Int) == (d : Int)) && true)))) = _
  rw [ints_eq]
  simp
/-- all of some are refused: told as a list -/
theorem refs_ne (n : Nat) (hn : n ≤ 1000) (c : Nat) : dCmp .ne (.lst (List.replicate n (refD c))) (.lst (List.replicate n (refD c))) = some (.bl false) := by
  have hp : (D.lst (List.replicate n (refD c))).pr = true := D.prs_iff.mpr fun d m => by rw [(List.mem_replicate.mp m).2]; rfl
  have hd : (D.lst (List.replicate n (refD c))).dep ≤ 2 := dep_l fun d m => by rw [(List.mem_replicate.mp m).2]; exact Nat.le_refl 1
  rw [ne_d (eqOk_l (D.pr_plain _ hp) (D.pr_plain _ hp) (by omega)), D.eqb_self _ (D.pr_plain _ hp)]
  rfl
theorem map_const {α β : Type} (l : List α) (b : β) : (l.map fun _ => b) = List.replicate l.length b := by
  induction l with
  | nil => rfl
  | cons _ l ih => simp [ih, List.replicate_succ]
end G
/-! P7: drawn words and templates of the earlier laws. -/
namespace G
open PySem L2
theorem takeWhile_all {g : Nat → Bool} : ∀ {l : List Nat}, (∀ c ∈ l, g c = true) → l.takeWhile g = l
  | [], _ => rfl
  | c :: l, h => by rw [List.takeWhile_cons, h c List.mem_cons_self, if_pos rfl, takeWhile_all fun x m => h x (List.mem_cons_of_mem _ m)]
theorem stripL_all (g : Nat → Bool) (l : List Nat) (h : ∀ c ∈ l, g c = true) : stripL g l = [] := by
  unfold stripL
  rw [takeWhile_all h, List.drop_length]
  simp
theorem wordB_of {l : List Nat} (h1 : 1 ≤ l.length) (h2 : l.length ≤ 4) (h3 : ∀ c ∈ l, LET.cps.toList.contains c = true) : wordB ⟨l.toArray⟩ = true := by
  unfold wordB
  have e : (⟨l.toArray⟩ : Str).length = l.length := List.size_toArray
  have e2 : stripS ⟨l.toArray⟩ LET = ⟨#[]⟩ := by
    unfold stripS
    rw [show (⟨l.toArray⟩ : Str).cps.toList = l from rfl, stripL_all _ l h3]
  rw [e, e2, decide_eq_true (by omega), decide_eq_true (by omega)]
  rfl
theorem abcx_word : ∀ x ∈ ([("a" : Str), "b", "c", "x"] : List Str), wordB x = true := by decide +kernel
theorem let_get {i : Nat} (h : i < 26) : ∃ c, LET.cps.toList[i]? = some c ∧ LET.cps.toList.contains c = true := by
  have hl : i < LET.cps.toList.length := h
  exact ⟨LET.cps.toList[i], List.getElem?_eq_getElem hl, by simpa using List.getElem_mem hl⟩
theorem idx_s {x : Str} {i c : Nat} (h : x.cps.toList[i]? = some c) : dIdx (.str x) (.int (i : Int)) = some (.str ⟨#[c]⟩) := by
  show (atI x.cps.toList (i : Int)).map _ = _
  rw [atI_nat h]; rfl
theorem add_s {x y : Str} (h : x.length + y.length ≤ sizeLine) : dBin .add (.str x) (.str y) = some (.str (x ++ y)) := by
  show (if _ then _ else _) = _
  rw [if_pos h]
theorem c_word0 (k : Nat) (ns : List Int) : Hl 6 (sem Δ (k + 5) f_law_word [.scr ns, .town]) fun d => ∃ w, d = .str w ∧ wordB w = true := by
  rw [sem_at (F := F_law_word) rfl rfl]
  unfold F_law_word
  (try simp -implicitDefEqProofs only [run_def, startF, exs, ex, ev, evs, evo, iter, bnd_r, bnd_fail, bnd_bnd, opt_some, bnd_exc, bnd_raise, bnd_ite, blD_bl, out_rt, out_nx, ex_raise, List.map_cons, List.map_nil, List.cons_append, List.nil_append, List.length_cons, List.length_nil, List.replicate, Nat.reduceSub, Nat.reduceAdd, List.getElem?_cons_zero, List.getElem?_cons_succ, if_true, Bool.false_eq_true, if_false, reduceIte, setF, asg_nm, asg_tp, asgs_nil, asgs_cons, List.set_cons_zero, List.set_cons_succ, Option.bind_some, Nat.reduceLT, gv_i, gv_s, isi_of (ty_s _), isi_of (ty_t _), isi_of (ty_st _), isi_of (ty_ts _), isi_of (ty_i _), isi_of (ty_bi _), isi_of (ty_bb _), isi_of (ty_l _), len_s, len_t, len_l, len_c, pr_tl, pr_tt, pr_lt, pr_ll, cmp_lt, cmp_le, cmp_gt, cmp_ge, eq_s, ne_s, eq_i, ne_i, eq_b, ne_b, add_i, sub_i, mt_s, mtok_s, mtok_l, ite_bl, ite_or, ite_fl, bnd_id, wipeF, Tg.slots, Tg.slotsL, List.append_nil, noexc_ret, seq_t, seq_l, it_t, it_l, List.length_set])
  refine (Hl.bnd (d := 5) (c_draw0 (k + 1) ns 12 (by decide)) fun d ⟨i, hi, e⟩ => ?_).mono (by decide)
  subst e
  (try simp -implicitDefEqProofs only [run_def, startF, exs, ex, ev, evs, evo, iter, bnd_r, bnd_fail, bnd_bnd, opt_some, bnd_exc, bnd_raise, bnd_ite, blD_bl, out_rt, out_nx, ex_raise, List.map_cons, List.map_nil, List.cons_append, List.nil_append, List.length_cons, List.length_nil, List.replicate, Nat.reduceSub, Nat.reduceAdd, List.getElem?_cons_zero, List.getElem?_cons_succ, if_true, Bool.false_eq_true, if_false, reduceIte, setF, asg_nm, asg_tp, asgs_nil, asgs_cons, List.set_cons_zero, List.set_cons_succ, Option.bind_some, Nat.reduceLT, gv_i, gv_s, isi_of (ty_s _), isi_of (ty_t _), isi_of (ty_st _), isi_of (ty_ts _), isi_of (ty_i _), isi_of (ty_bi _), isi_of (ty_bb _), isi_of (ty_l _), len_s, len_t, len_l, len_c, pr_tl, pr_tt, pr_lt, pr_ll, cmp_lt, cmp_le, cmp_gt, cmp_ge, eq_s, ne_s, eq_i, ne_i, eq_b, ne_b, add_i, sub_i, mt_s, mtok_s, mtok_l, ite_bl, ite_or, ite_fl, bnd_id, wipeF, Tg.slots, Tg.slotsL, List.append_nil, noexc_ret, seq_t, seq_l, it_t, it_l, List.length_set])
  by_cases h0 : 0 < i
  · rw [decide_eq_true (show (0 : Int) < (i : Int) by omega)]
    (try simp -implicitDefEqProofs only [run_def, startF, exs, ex, ev, evs, evo, iter, bnd_r, bnd_fail, bnd_bnd, opt_some, bnd_exc, bnd_raise, bnd_ite, blD_bl, out_rt, out_nx, ex_raise, List.map_cons, List.map_nil, List.cons_append, List.nil_append, List.length_cons, List.length_nil, List.replicate, Nat.reduceSub, Nat.reduceAdd, List.getElem?_cons_zero, List.getElem?_cons_succ, if_true, Bool.false_eq_true, if_false, reduceIte, setF, asg_nm, asg_tp, asgs_nil, asgs_cons, List.set_cons_zero, List.set_cons_succ, Option.bind_some, Nat.reduceLT, gv_i, gv_s, isi_of (ty_s _), isi_of (ty_t _), isi_of (ty_st _), isi_of (ty_ts _), isi_of (ty_i _), isi_of (ty_bi _), isi_of (ty_bb _), isi_of (ty_l _), len_s, len_t, len_l, len_c, pr_tl, pr_tt, pr_lt, pr_ll, cmp_lt, cmp_le, cmp_gt, cmp_ge, eq_s, ne_s, eq_i, ne_i, eq_b, ne_b, add_i, sub_i, mt_s, mtok_s, mtok_l, ite_bl, ite_or, ite_fl, bnd_id, wipeF, Tg.slots, Tg.slotsL, List.append_nil, noexc_ret, seq_t, seq_l, it_t, it_l, List.length_set])
    exact ((c_pick0 k ns _ (by decide)).imp fun d m => by
      obtain ⟨w, rfl, hw⟩ := mem_strs (l := [("a" : Str), "b", "c", "x"]) m
      exact ⟨w, rfl, abcx_word w hw⟩).mono (by decide)
  · rw [decide_eq_false (show ¬ (0 : Int) < (i : Int) by omega)]
    (try simp -implicitDefEqProofs only [run_def, startF, exs, ex, ev, evs, evo, iter, bnd_r, bnd_fail, bnd_bnd, opt_some, bnd_exc, bnd_raise, bnd_ite, blD_bl, out_rt, out_nx, ex_raise, List.map_cons, List.map_nil, List.cons_append, List.nil_append, List.length_cons, List.length_nil, List.replicate, Nat.reduceSub, Nat.reduceAdd, List.getElem?_cons_zero, List.getElem?_cons_succ, if_true, Bool.false_eq_true, if_false, reduceIte, setF, asg_nm, asg_tp, asgs_nil, asgs_cons, List.set_cons_zero, List.set_cons_succ, Option.bind_some, Nat.reduceLT, gv_i, gv_s, isi_of (ty_s _), isi_of (ty_t _), isi_of (ty_st _), isi_of (ty_ts _), isi_of (ty_i _), isi_of (ty_bi _), isi_of (ty_bb _), isi_of (ty_l _), len_s, len_t, len_l, len_c, pr_tl, pr_tt, pr_lt, pr_ll, cmp_lt, cmp_le, cmp_gt, cmp_ge, eq_s, ne_s, eq_i, ne_i, eq_b, ne_b, add_i, sub_i, mt_s, mtok_s, mtok_l, ite_bl, ite_or, ite_fl, bnd_id, wipeF, Tg.slots, Tg.slotsL, List.append_nil, noexc_ret, seq_t, seq_l, it_t, it_l, List.length_set])
    refine (Hl.bnd (d := 4) (c_draw0 (k + 1) ns 4 (by decide)) fun d ⟨j, hj, e⟩ => ?_).mono (by decide)
    subst e
    (try simp -implicitDefEqProofs only [run_def, startF, exs, ex, ev, evs, evo, iter, bnd_r, bnd_fail, bnd_bnd, opt_some, bnd_exc, bnd_raise, bnd_ite, blD_bl, out_rt, out_nx, ex_raise, List.map_cons, List.map_nil, List.cons_append, List.nil_append, List.length_cons, List.length_nil, List.replicate, Nat.reduceSub, Nat.reduceAdd, List.getElem?_cons_zero, List.getElem?_cons_succ, if_true, Bool.false_eq_true, if_false, reduceIte, setF, asg_nm, asg_tp, asgs_nil, asgs_cons, List.set_cons_zero, List.set_cons_succ, Option.bind_some, Nat.reduceLT, gv_i, gv_s, isi_of (ty_s _), isi_of (ty_t _), isi_of (ty_st _), isi_of (ty_ts _), isi_of (ty_i _), isi_of (ty_bi _), isi_of (ty_bb _), isi_of (ty_l _), len_s, len_t, len_l, len_c, pr_tl, pr_tt, pr_lt, pr_ll, cmp_lt, cmp_le, cmp_gt, cmp_ge, eq_s, ne_s, eq_i, ne_i, eq_b, ne_b, add_i, sub_i, mt_s, mtok_s, mtok_l, ite_bl, ite_or, ite_fl, bnd_id, wipeF, Tg.slots, Tg.slotsL, List.append_nil, noexc_ret, seq_t, seq_l, it_t, it_l, List.length_set])
    rw [show (1 : Int) + (j : Int) = ((1 + j : Nat) : Int) by omega, rng_nat (by omega)]
    (try simp -implicitDefEqProofs only [run_def, startF, exs, ex, ev, evs, evo, iter, bnd_r, bnd_fail, bnd_bnd, opt_some, bnd_exc, bnd_raise, bnd_ite, blD_bl, out_rt, out_nx, ex_raise, List.map_cons, List.map_nil, List.cons_append, List.nil_append, List.length_cons, List.length_nil, List.replicate, Nat.reduceSub, Nat.reduceAdd, List.getElem?_cons_zero, List.getElem?_cons_succ, if_true, Bool.false_eq_true, if_false, reduceIte, setF, asg_nm, asg_tp, asgs_nil, asgs_cons, List.set_cons_zero, List.set_cons_succ, Option.bind_some, Nat.reduceLT, gv_i, gv_s, isi_of (ty_s _), isi_of (ty_t _), isi_of (ty_st _), isi_of (ty_ts _), isi_of (ty_i _), isi_of (ty_bi _), isi_of (ty_bb _), isi_of (ty_l _), len_s, len_t, len_l, len_c, pr_tl, pr_tt, pr_lt, pr_ll, cmp_lt, cmp_le, cmp_gt, cmp_ge, eq_s, ne_s, eq_i, ne_i, eq_b, ne_b, add_i, sub_i, mt_s, mtok_s, mtok_l, ite_bl, ite_or, ite_fl, bnd_id, wipeF, Tg.slots, Tg.slotsL, List.append_nil, noexc_ret, seq_t, seq_l, it_t, it_l, List.length_set])
    refine (Hl.bnd (d := 0) (Hl.for_ (c := 1) (I := fun i ρ => ∃ (l : List Nat) (x3 : Option Slot), ρ = [some (.sh (.scr ns)), some (.sh .town), some (.sh (.str ⟨l.toArray⟩)), x3] ∧ l.length = i ∧ ∀ c ∈ l, LET.cps.toList.contains c = true) _ 0 _ ⟨[], none, rfl, rfl, fun _ m => nomatch m⟩ ?_) ?_).mono ?_
    · rintro i x ρ hx ⟨l, x3, rfl, hl, hc⟩
      obtain ⟨rfl, hi⟩ := range_get hx
      (try simp -implicitDefEqProofs only [run_def, startF, exs, ex, ev, evs, evo, iter, bnd_r, bnd_fail, bnd_bnd, opt_some, bnd_exc, bnd_raise, bnd_ite, blD_bl, out_rt, out_nx, ex_raise, List.map_cons, List.map_nil, List.cons_append, List.nil_append, List.length_cons, List.length_nil, List.replicate, Nat.reduceSub, Nat.reduceAdd, List.getElem?_cons_zero, List.getElem?_cons_succ, if_true, Bool.false_eq_true, if_false, reduceIte, setF, asg_nm, asg_tp, asgs_nil, asgs_cons, List.set_cons_zero, List.set_cons_succ, Option.bind_some, Nat.reduceLT, gv_i, gv_s, isi_of (ty_s _), isi_of (ty_t _), isi_of (ty_st _), isi_of (ty_ts _), isi_of (ty_i _), isi_of (ty_bi _), isi_of (ty_bb _), isi_of (ty_l _), len_s, len_t, len_l, len_c, pr_tl, pr_tt, pr_lt, pr_ll, cmp_lt, cmp_le, cmp_gt, cmp_ge, eq_s, ne_s, eq_i, ne_i, eq_b, ne_b, add_i, sub_i, mt_s, mtok_s, mtok_l, ite_bl, ite_or, ite_fl, bnd_id, wipeF, Tg.slots, Tg.slotsL, List.append_nil, noexc_ret, seq_t, seq_l, it_t, it_l, List.length_set])
      refine (Hl.bnd (d := 0) (c_draw0 (k + 1) ns 26 (by decide)) fun d ⟨j, hj, e⟩ => ?_).mono (by decide)
      subst e
      obtain ⟨c, c1, c2⟩ := let_get hj
      rw [show dIdx (.str (Str.ofString "abcdefghijklmnopqrstuvwxyz")) (.int (j : Int)) = some (.str ⟨#[c]⟩) from idx_s c1]
      (try simp -implicitDefEqProofs only [run_def, startF, exs, ex, ev, evs, evo, iter, bnd_r, bnd_fail, bnd_bnd, opt_some, bnd_exc, bnd_raise, bnd_ite, blD_bl, out_rt, out_nx, ex_raise, List.map_cons, List.map_nil, List.cons_append, List.nil_append, List.length_cons, List.length_nil, List.replicate, Nat.reduceSub, Nat.reduceAdd, List.getElem?_cons_zero, List.getElem?_cons_succ, if_true, Bool.false_eq_true, if_false, reduceIte, setF, asg_nm, asg_tp, asgs_nil, asgs_cons, List.set_cons_zero, List.set_cons_succ, Option.bind_some, Nat.reduceLT, gv_i, gv_s, isi_of (ty_s _), isi_of (ty_t _), isi_of (ty_st _), isi_of (ty_ts _), isi_of (ty_i _), isi_of (ty_bi _), isi_of (ty_bb _), isi_of (ty_l _), len_s, len_t, len_l, len_c, pr_tl, pr_tt, pr_lt, pr_ll, cmp_lt, cmp_le, cmp_gt, cmp_ge, eq_s, ne_s, eq_i, ne_i, eq_b, ne_b, add_i, sub_i, mt_s, mtok_s, mtok_l, ite_bl, ite_or, ite_fl, bnd_id, wipeF, Tg.slots, Tg.slotsL, List.append_nil, noexc_ret, seq_t, seq_l, it_t, it_l, List.length_set])
      have hz : (⟨l.toArray⟩ : Str).length + (⟨#[c]⟩ : Str).length ≤ sizeLine := by
        show l.toArray.size + 1 ≤ _
        rw [List.size_toArray, sizeLine_eq]; omega
      rw [add_s hz]
      refine Hl.ret ⟨_, .inl rfl, l ++ [c], some (.sh (.int (i : Int))), ?_, by simp [hl], fun c' m => ?_⟩
      · have : (⟨l.toArray⟩ : Str) ++ (⟨#[c]⟩ : Str) = ⟨(l ++ [c]).toArray⟩ := by
          show (⟨l.toArray ++ #[c]⟩ : Str) = _
          simp
        rw [this]
      · rcases List.mem_append.mp m with m | m
        · exact hc c' m
        · rw [List.mem_singleton.mp m]; exact c2
    · rintro f ⟨ρ, rfl, l, x3, rfl, hl, hc⟩
      (try simp -implicitDefEqProofs only [run_def, startF, exs, ex, ev, evs, evo, iter, bnd_r, bnd_fail, bnd_bnd, opt_some, bnd_exc, bnd_raise, bnd_ite, blD_bl, out_rt, out_nx, ex_raise, List.map_cons, List.map_nil, List.cons_append, List.nil_append, List.length_cons, List.length_nil, List.replicate, Nat.reduceSub, Nat.reduceAdd, List.getElem?_cons_zero, List.getElem?_cons_succ, if_true, Bool.false_eq_true, if_false, reduceIte, setF, asg_nm, asg_tp, asgs_nil, asgs_cons, List.set_cons_zero, List.set_cons_succ, Option.bind_some, Nat.reduceLT, gv_i, gv_s, isi_of (ty_s _), isi_of (ty_t _), isi_of (ty_st _), isi_of (ty_ts _), isi_of (ty_i _), isi_of (ty_bi _), isi_of (ty_bb _), isi_of (ty_l _), len_s, len_t, len_l, len_c, pr_tl, pr_tt, pr_lt, pr_ll, cmp_lt, cmp_le, cmp_gt, cmp_ge, eq_s, ne_s, eq_i, ne_i, eq_b, ne_b, add_i, sub_i, mt_s, mtok_s, mtok_l, ite_bl, ite_or, ite_fl, bnd_id, wipeF, Tg.slots, Tg.slotsL, List.append_nil, noexc_ret, seq_t, seq_l, it_t, it_l, List.length_set])
      have hl : l.length = 1 + j := by simpa using hl
      exact Hl.ret ⟨_, rfl, wordB_of (by omega) (by omega) hc⟩
    · simp; omega
theorem c_barred0 (k : Nat) (ns : List Int) : Hl 19 (sem Δ (k + 6) f_law_barred [.scr ns, .town]) fun d => ∃ bs : List Str, d = encS bs ∧ barsB bs = true := by
  rw [sem_at (F := F_law_barred) rfl rfl]
  unfold F_law_barred
  (try simp -implicitDefEqProofs only [run_def, startF, exs, ex, ev, evs, evo, iter, bnd_r, bnd_fail, bnd_bnd, opt_some, bnd_exc, bnd_raise, bnd_ite, blD_bl, out_rt, out_nx, ex_raise, List.map_cons, List.map_nil, List.cons_append, List.nil_append, List.length_cons, List.length_nil, List.replicate, Nat.reduceSub, Nat.reduceAdd, List.getElem?_cons_zero, List.getElem?_cons_succ, if_true, Bool.false_eq_true, if_false, reduceIte, setF, asg_nm, asg_tp, asgs_nil, asgs_cons, List.set_cons_zero, List.set_cons_succ, Option.bind_some, Nat.reduceLT, gv_i, gv_s, isi_of (ty_s _), isi_of (ty_t _), isi_of (ty_st _), isi_of (ty_ts _), isi_of (ty_i _), isi_of (ty_bi _), isi_of (ty_bb _), isi_of (ty_l _), len_s, len_t, len_l, len_c, pr_tl, pr_tt, pr_lt, pr_ll, cmp_lt, cmp_le, cmp_gt, cmp_ge, eq_s, ne_s, eq_i, ne_i, eq_b, ne_b, add_i, sub_i, mt_s, mtok_s, mtok_l, ite_bl, ite_or, ite_fl, bnd_id, wipeF, Tg.slots, Tg.slotsL, List.append_nil, noexc_ret, seq_t, seq_l, it_t, it_l, List.length_set])
  refine (Hl.bnd (d := 18) (c_pick0 (k + 1) ns _ (by decide)) fun d m => ?_).mono (by decide)
  obtain ⟨n, rfl, hn⟩ : ∃ n : Nat, d = .int n ∧ n ≤ 3 := by
    simp only [List.mem_cons, List.not_mem_nil, or_false] at m
    rcases m with rfl | rfl | rfl | rfl | rfl | rfl
    · exact ⟨0, rfl, by decide⟩
    · exact ⟨0, rfl, by decide⟩
    · exact ⟨1, rfl, by decide⟩
    · exact ⟨1, rfl, by decide⟩
    · exact ⟨2, rfl, by decide⟩
    · exact ⟨3, rfl, by decide⟩
  (try simp -implicitDefEqProofs only [run_def, startF, exs, ex, ev, evs, evo, iter, bnd_r, bnd_fail, bnd_bnd, opt_some, bnd_exc, bnd_raise, bnd_ite, blD_bl, out_rt, out_nx, ex_raise, List.map_cons, List.map_nil, List.cons_append, List.nil_append, List.length_cons, List.length_nil, List.replicate, Nat.reduceSub, Nat.reduceAdd, List.getElem?_cons_zero, List.getElem?_cons_succ, if_true, Bool.false_eq_true, if_false, reduceIte, setF, asg_nm, asg_tp, asgs_nil, asgs_cons, List.set_cons_zero, List.set_cons_succ, Option.bind_some, Nat.reduceLT, gv_i, gv_s, isi_of (ty_s _), isi_of (ty_t _), isi_of (ty_st _), isi_of (ty_ts _), isi_of (ty_i _), isi_of (ty_bi _), isi_of (ty_bb _), isi_of (ty_l _), len_s, len_t, len_l, len_c, pr_tl, pr_tt, pr_lt, pr_ll, cmp_lt, cmp_le, cmp_gt, cmp_ge, eq_s, ne_s, eq_i, ne_i, eq_b, ne_b, add_i, sub_i, mt_s, mtok_s, mtok_l, ite_bl, ite_or, ite_fl, bnd_id, wipeF, Tg.slots, Tg.slotsL, List.append_nil, noexc_ret, seq_t, seq_l, it_t, it_l, List.length_set])
  rw [rng_nat (by omega)]
  (try simp -implicitDefEqProofs only [run_def, startF, exs, ex, ev, evs, evo, iter, bnd_r, bnd_fail, bnd_bnd, opt_some, bnd_exc, bnd_raise, bnd_ite, blD_bl, out_rt, out_nx, ex_raise, List.map_cons, List.map_nil, List.cons_append, List.nil_append, List.length_cons, List.length_nil, List.replicate, Nat.reduceSub, Nat.reduceAdd, List.getElem?_cons_zero, List.getElem?_cons_succ, if_true, Bool.false_eq_true, if_false, reduceIte, setF, asg_nm, asg_tp, asgs_nil, asgs_cons, List.set_cons_zero, List.set_cons_succ, Option.bind_some, Nat.reduceLT, gv_i, gv_s, isi_of (ty_s _), isi_of (ty_t _), isi_of (ty_st _), isi_of (ty_ts _), isi_of (ty_i _), isi_of (ty_bi _), isi_of (ty_bb _), isi_of (ty_l _), len_s, len_t, len_l, len_c, pr_tl, pr_tt, pr_lt, pr_ll, cmp_lt, cmp_le, cmp_gt, cmp_ge, eq_s, ne_s, eq_i, ne_i, eq_b, ne_b, add_i, sub_i, mt_s, mtok_s, mtok_l, ite_bl, ite_or, ite_fl, bnd_id, wipeF, Tg.slots, Tg.slotsL, List.append_nil, noexc_ret, seq_t, seq_l, it_t, it_l, List.length_set])
  rw [Hl.lenOk (by simp; omega)]
  (try simp -implicitDefEqProofs only [run_def, startF, exs, ex, ev, evs, evo, iter, bnd_r, bnd_fail, bnd_bnd, opt_some, bnd_exc, bnd_raise, bnd_ite, blD_bl, out_rt, out_nx, ex_raise, List.map_cons, List.map_nil, List.cons_append, List.nil_append, List.length_cons, List.length_nil, List.replicate, Nat.reduceSub, Nat.reduceAdd, List.getElem?_cons_zero, List.getElem?_cons_succ, if_true, Bool.false_eq_true, if_false, reduceIte, setF, asg_nm, asg_tp, asgs_nil, asgs_cons, List.set_cons_zero, List.set_cons_succ, Option.bind_some, Nat.reduceLT, gv_i, gv_s, isi_of (ty_s _), isi_of (ty_t _), isi_of (ty_st _), isi_of (ty_ts _), isi_of (ty_i _), isi_of (ty_bi _), isi_of (ty_bb _), isi_of (ty_l _), len_s, len_t, len_l, len_c, pr_tl, pr_tt, pr_lt, pr_ll, cmp_lt, cmp_le, cmp_gt, cmp_ge, eq_s, ne_s, eq_i, ne_i, eq_b, ne_b, add_i, sub_i, mt_s, mtok_s, mtok_l, ite_bl, ite_or, ite_fl, bnd_id, wipeF, Tg.slots, Tg.slotsL, List.append_nil, noexc_ret, seq_t, seq_l, it_t, it_l, List.length_set])
  refine (Hl.bnd (d := 0) (Hl.lc (c := 6) (R := fun _ y => ∃ x, y = D.str x ∧ wordB x = true) _ fun x _ => Hl.some (c_word0 k ns)) fun d ⟨l, e, q⟩ => ?_).mono (by simp; omega)
  subst e
  obtain ⟨xs, rfl, h1, h2⟩ := all2_strs q
  have h1 : xs.length = n := by simpa using h1
  rw [sset_l (by omega)]
  (try simp -implicitDefEqProofs only [run_def, startF, exs, ex, ev, evs, evo, iter, bnd_r, bnd_fail, bnd_bnd, opt_some, bnd_exc, bnd_raise, bnd_ite, blD_bl, out_rt, out_nx, ex_raise, List.map_cons, List.map_nil, List.cons_append, List.nil_append, List.length_cons, List.length_nil, List.replicate, Nat.reduceSub, Nat.reduceAdd, List.getElem?_cons_zero, List.getElem?_cons_succ, if_true, Bool.false_eq_true, if_false, reduceIte, setF, asg_nm, asg_tp, asgs_nil, asgs_cons, List.set_cons_zero, List.set_cons_succ, Option.bind_some, Nat.reduceLT, gv_i, gv_s, isi_of (ty_s _), isi_of (ty_t _), isi_of (ty_st _), isi_of (ty_ts _), isi_of (ty_i _), isi_of (ty_bi _), isi_of (ty_bb _), isi_of (ty_l _), len_s, len_t, len_l, len_c, pr_tl, pr_tt, pr_lt, pr_ll, cmp_lt, cmp_le, cmp_gt, cmp_ge, eq_s, ne_s, eq_i, ne_i, eq_b, ne_b, add_i, sub_i, mt_s, mtok_s, mtok_l, ite_bl, ite_or, ite_fl, bnd_id, wipeF, Tg.slots, Tg.slotsL, List.append_nil, noexc_ret, seq_t, seq_l, it_t, it_l, List.length_set])
  exact Hl.ret ⟨_, rfl, canon_bars h2 (by omega)⟩
def sixL (six : Str) : List Str := six.cps.toList.map fun c => ⟨#[c]⟩
def sixes : List Str := ["ghijkl", "lkjihg", "hkgjli"]
structure Drawn0 (six : Str) (ps : List Part) : Prop where
  ok : ∀ p ∈ ps, p.ok = true
  gaps : gapsOf ps = (sixL six).take (gapsOf ps).length
theorem six_ok : ∀ x ∈ sixes, (sixL x).length = 6 ∧ (sixL x).Nodup ∧ ∀ y ∈ sixL x, wordB y = true := by decide +kernel
theorem Drawn0.tpl {six : Str} {ps : List Part} (h : Drawn0 six ps) (m : six ∈ sixes) (hl : ps.length ≤ 6) : TplOk ps := by
  refine ⟨hl, h.ok, ?_⟩
  unfold gapsB
  have nd : (gapsOf ps).Nodup := by
    rw [h.gaps]
    exact (List.take_sublist _ _).nodup (six_ok six m).2.1
  rw [dedupS_id nd]
  exact decide_eq_true rfl
theorem Drawn0.add {six : Str} {ps : List Part} {p : Part} (h : Drawn0 six ps) (ok : p.ok = true) (g : p.gap = none ∨ (p.gap = (sixL six)[(gapsOf ps).length]? ∧ p.gap ≠ none)) : Drawn0 six (ps ++ [p]) := by
  refine ⟨fun q m => ?_, ?_⟩
  · rcases List.mem_append.mp m with m | m
    · exact h.ok q m
    · rw [List.mem_singleton.mp m]; exact ok
  · rw [gapsOf_app]
    rcases g with g | ⟨g, gn⟩
    · rw [g]
      show gapsOf ps ++ [] = (sixL six).take (gapsOf ps ++ []).length
      rw [List.append_nil]
      exact h.gaps
    · obtain ⟨x, hx⟩ := Option.ne_none_iff_exists'.mp gn
      rw [hx] at g ⊢
      show gapsOf ps ++ [x] = (sixL six).take (gapsOf ps ++ [x]).length
      rw [List.length_append, List.length_singleton, List.take_add_one, ← h.gaps, ← g]
      rfl
theorem c_template0 (k : Nat) (ns : List Int) (most : Nat) (hm : most ≤ 6) : Hl 128 (sem Δ (k + 7) f_law_template [.scr ns, .town, .int most]) fun d => ∃ ps, d = encT ps ∧ TplOk ps ∧ ps.length ≤ most := by
  rw [sem_at (F := F_law_template) rfl rfl]
  unfold F_law_template
  (try simp -implicitDefEqProofs only [run_def, startF, exs, ex, ev, evs, evo, iter, bnd_r, bnd_fail, bnd_bnd, opt_some, bnd_exc, bnd_raise, bnd_ite, blD_bl, out_rt, out_nx, ex_raise, List.map_cons, List.map_nil, List.cons_append, List.nil_append, List.length_cons, List.length_nil, List.replicate, Nat.reduceSub, Nat.reduceAdd, List.getElem?_cons_zero, List.getElem?_cons_succ, if_true, Bool.false_eq_true, if_false, reduceIte, setF, asg_nm, asg_tp, asgs_nil, asgs_cons, List.set_cons_zero, List.set_cons_succ, Option.bind_some, Nat.reduceLT, gv_i, gv_s, isi_of (ty_s _), isi_of (ty_t _), isi_of (ty_st _), isi_of (ty_ts _), isi_of (ty_i _), isi_of (ty_bi _), isi_of (ty_bb _), isi_of (ty_l _), len_s, len_t, len_l, len_c, pr_tl, pr_tt, pr_lt, pr_ll, cmp_lt, cmp_le, cmp_gt, cmp_ge, eq_s, ne_s, eq_i, ne_i, eq_b, ne_b, add_i, sub_i, mt_s, mtok_s, mtok_l, ite_bl, ite_or, ite_fl, bnd_id, wipeF, Tg.slots, Tg.slotsL, List.append_nil, noexc_ret, seq_t, seq_l, it_t, it_l, List.length_set])
  refine (Hl.bnd (d := 127) (c_pick0 (k + 2) ns _ (by decide)) fun d m => ?_).mono (by decide)
  obtain ⟨six, rfl, hs⟩ := mem_strs (l := sixes) m
  obtain ⟨s1, s2, s3⟩ := six_ok six hs
  have s1 : six.cps.toList.length = 6 := by unfold sixL at s1; rw [List.length_map] at s1; exact s1
  (try simp -implicitDefEqProofs only [run_def, startF, exs, ex, ev, evs, evo, iter, bnd_r, bnd_fail, bnd_bnd, opt_some, bnd_exc, bnd_raise, bnd_ite, blD_bl, out_rt, out_nx, ex_raise, List.map_cons, List.map_nil, List.cons_append, List.nil_append, List.length_cons, List.length_nil, List.replicate, Nat.reduceSub, Nat.reduceAdd, List.getElem?_cons_zero, List.getElem?_cons_succ, if_true, Bool.false_eq_true, if_false, reduceIte, setF, asg_nm, asg_tp, asgs_nil, asgs_cons, List.set_cons_zero, List.set_cons_succ, Option.bind_some, Nat.reduceLT, gv_i, gv_s, isi_of (ty_s _), isi_of (ty_t _), isi_of (ty_st _), isi_of (ty_ts _), isi_of (ty_i _), isi_of (ty_bi _), isi_of (ty_bb _), isi_of (ty_l _), len_s, len_t, len_l, len_c, pr_tl, pr_tt, pr_lt, pr_ll, cmp_lt, cmp_le, cmp_gt, cmp_ge, eq_s, ne_s, eq_i, ne_i, eq_b, ne_b, add_i, sub_i, mt_s, mtok_s, mtok_l, ite_bl, ite_or, ite_fl, bnd_id, wipeF, Tg.slots, Tg.slotsL, List.append_nil, noexc_ret, seq_t, seq_l, it_t, it_l, List.length_set])
  refine (Hl.bnd (d := 126) (Hl.imp (P := fun d => ∃ n : Nat, n < most + 1 ∧ d = .int n) (by
    have := c_draw0 (k + 3) ns (most + 1) (by omega)
    rw [show ((most + 1 : Nat) : Int) = (most : Int) + 1 by omega] at this
    exact this) fun _ h => h) fun d ⟨n, hn, e⟩ => ?_).mono (by decide)
  subst e
  (try simp -implicitDefEqProofs only [run_def, startF, exs, ex, ev, evs, evo, iter, bnd_r, bnd_fail, bnd_bnd, opt_some, bnd_exc, bnd_raise, bnd_ite, blD_bl, out_rt, out_nx, ex_raise, List.map_cons, List.map_nil, List.cons_append, List.nil_append, List.length_cons, List.length_nil, List.replicate, Nat.reduceSub, Nat.reduceAdd, List.getElem?_cons_zero, List.getElem?_cons_succ, if_true, Bool.false_eq_true, if_false, reduceIte, setF, asg_nm, asg_tp, asgs_nil, asgs_cons, List.set_cons_zero, List.set_cons_succ, Option.bind_some, Nat.reduceLT, gv_i, gv_s, isi_of (ty_s _), isi_of (ty_t _), isi_of (ty_st _), isi_of (ty_ts _), isi_of (ty_i _), isi_of (ty_bi _), isi_of (ty_bb _), isi_of (ty_l _), len_s, len_t, len_l, len_c, pr_tl, pr_tt, pr_lt, pr_ll, cmp_lt, cmp_le, cmp_gt, cmp_ge, eq_s, ne_s, eq_i, ne_i, eq_b, ne_b, add_i, sub_i, mt_s, mtok_s, mtok_l, ite_bl, ite_or, ite_fl, bnd_id, wipeF, Tg.slots, Tg.slotsL, List.append_nil, noexc_ret, seq_t, seq_l, it_t, it_l, List.length_set])
  rw [rng_nat (by omega)]
  (try simp -implicitDefEqProofs only [run_def, startF, exs, ex, ev, evs, evo, iter, bnd_r, bnd_fail, bnd_bnd, opt_some, bnd_exc, bnd_raise, bnd_ite, blD_bl, out_rt, out_nx, ex_raise, List.map_cons, List.map_nil, List.cons_append, List.nil_append, List.length_cons, List.length_nil, List.replicate, Nat.reduceSub, Nat.reduceAdd, List.getElem?_cons_zero, List.getElem?_cons_succ, if_true, Bool.false_eq_true, if_false, reduceIte, setF, asg_nm, asg_tp, asgs_nil, asgs_cons, List.set_cons_zero, List.set_cons_succ, Option.bind_some, Nat.reduceLT, gv_i, gv_s, isi_of (ty_s _), isi_of (ty_t _), isi_of (ty_st _), isi_of (ty_ts _), isi_of (ty_i _), isi_of (ty_bi _), isi_of (ty_bb _), isi_of (ty_l _), len_s, len_t, len_l, len_c, pr_tl, pr_tt, pr_lt, pr_ll, cmp_lt, cmp_le, cmp_gt, cmp_ge, eq_s, ne_s, eq_i, ne_i, eq_b, ne_b, add_i, sub_i, mt_s, mtok_s, mtok_l, ite_bl, ite_or, ite_fl, bnd_id, wipeF, Tg.slots, Tg.slotsL, List.append_nil, noexc_ret, seq_t, seq_l, it_t, it_l, List.length_set])
  refine (Hl.bnd (d := 0) (Hl.for_ (c := 21) (I := fun i ρ => ∃ ps x6 x7 x8, ρ = [some (.sh (.scr ns)), some (.sh .town), some (.sh (.int most)), some (.sh (.str six)), some (.ow (.lst (ps.map Part.enc))), some (.sh (.int ((gapsOf ps).length : Nat))), x6, x7, x8] ∧ Drawn0 six ps ∧ ps.length = i) _ 0 _ ⟨[], none, none, none, rfl, ⟨fun _ m => (nomatch m), rfl⟩, rfl⟩ ?_) ?_).mono ?_
  · rintro i x ρ hx ⟨ps, x6, x7, x8, rfl, hd, hl⟩
    obtain ⟨rfl, hi⟩ := range_get hx
    rw [Nat.zero_add] at hl
    (try simp -implicitDefEqProofs only [run_def, startF, exs, ex, ev, evs, evo, iter, bnd_r, bnd_fail, bnd_bnd, opt_some, bnd_exc, bnd_raise, bnd_ite, blD_bl, out_rt, out_nx, ex_raise, List.map_cons, List.map_nil, List.cons_append, List.nil_append, List.length_cons, List.length_nil, List.replicate, Nat.reduceSub, Nat.reduceAdd, List.getElem?_cons_zero, List.getElem?_cons_succ, if_true, Bool.false_eq_true, if_false, reduceIte, setF, asg_nm, asg_tp, asgs_nil, asgs_cons, List.set_cons_zero, List.set_cons_succ, Option.bind_some, Nat.reduceLT, gv_i, gv_s, isi_of (ty_s _), isi_of (ty_t _), isi_of (ty_st _), isi_of (ty_ts _), isi_of (ty_i _), isi_of (ty_bi _), isi_of (ty_bb _), isi_of (ty_l _), len_s, len_t, len_l, len_c, pr_tl, pr_tt, pr_lt, pr_ll, cmp_lt, cmp_le, cmp_gt, cmp_ge, eq_s, ne_s, eq_i, ne_i, eq_b, ne_b, add_i, sub_i, mt_s, mtok_s, mtok_l, ite_bl, ite_or, ite_fl, bnd_id, wipeF, Tg.slots, Tg.slotsL, List.append_nil, noexc_ret, seq_t, seq_l, it_t, it_l, List.length_set])
    have hg : (gapsOf ps).length < 6 := by have := gapsOf_len ps; omega
    have hg1 : (gapsOf ps).length < six.cps.toList.length := by omega
    obtain ⟨c, hc⟩ : ∃ c, six.cps.toList[(gapsOf ps).length]? = some c := ⟨_, List.getElem?_eq_getElem hg1⟩
    have hsx : (sixL six)[(gapsOf ps).length]? = some ⟨#[c]⟩ := by unfold sixL; rw [List.getElem?_map, hc]; rfl
    have wn : wordB ⟨#[c]⟩ = true := s3 _ (List.mem_of_getElem? hsx)
    have hz : (ps.map Part.enc).length < sizeLine := by rw [List.length_map, sizeLine_eq]; omega
    refine (Hl.bnd (d := 20) (c_draw0 (k + 3) ns 5 (by decide)) fun d ⟨j, hj, e⟩ => ?_).mono (by decide)
    subst e
    rw [idx_s hc]
    (try simp -implicitDefEqProofs only [run_def, startF, exs, ex, ev, evs, evo, iter, bnd_r, bnd_fail, bnd_bnd, opt_some, bnd_exc, bnd_raise, bnd_ite, blD_bl, out_rt, out_nx, ex_raise, List.map_cons, List.map_nil, List.cons_append, List.nil_append, List.length_cons, List.length_nil, List.replicate, Nat.reduceSub, Nat.reduceAdd, List.getElem?_cons_zero, List.getElem?_cons_succ, if_true, Bool.false_eq_true, if_false, reduceIte, setF, asg_nm, asg_tp, asgs_nil, asgs_cons, List.set_cons_zero, List.set_cons_succ, Option.bind_some, Nat.reduceLT, gv_i, gv_s, isi_of (ty_s _), isi_of (ty_t _), isi_of (ty_st _), isi_of (ty_ts _), isi_of (ty_i _), isi_of (ty_bi _), isi_of (ty_bb _), isi_of (ty_l _), len_s, len_t, len_l, len_c, pr_tl, pr_tt, pr_lt, pr_ll, cmp_lt, cmp_le, cmp_gt, cmp_ge, eq_s, ne_s, eq_i, ne_i, eq_b, ne_b, add_i, sub_i, mt_s, mtok_s, mtok_l, ite_bl, ite_or, ite_fl, bnd_id, wipeF, Tg.slots, Tg.slotsL, List.append_nil, noexc_ret, seq_t, seq_l, it_t, it_l, List.length_set])
    by_cases h2 : j < 2
    · rw [decide_eq_true (show (j : Int) < 2 by omega)]
      (try simp -implicitDefEqProofs only [run_def, startF, exs, ex, ev, evs, evo, iter, bnd_r, bnd_fail, bnd_bnd, opt_some, bnd_exc, bnd_raise, bnd_ite, blD_bl, out_rt, out_nx, ex_raise, List.map_cons, List.map_nil, List.cons_append, List.nil_append, List.length_cons, List.length_nil, List.replicate, Nat.reduceSub, Nat.reduceAdd, List.getElem?_cons_zero, List.getElem?_cons_succ, if_true, Bool.false_eq_true, if_false, reduceIte, setF, asg_nm, asg_tp, asgs_nil, asgs_cons, List.set_cons_zero, List.set_cons_succ, Option.bind_some, Nat.reduceLT, gv_i, gv_s, isi_of (ty_s _), isi_of (ty_t _), isi_of (ty_st _), isi_of (ty_ts _), isi_of (ty_i _), isi_of (ty_bi _), isi_of (ty_bb _), isi_of (ty_l _), len_s, len_t, len_l, len_c, pr_tl, pr_tt, pr_lt, pr_ll, cmp_lt, cmp_le, cmp_gt, cmp_ge, eq_s, ne_s, eq_i, ne_i, eq_b, ne_b, add_i, sub_i, mt_s, mtok_s, mtok_l, ite_bl, ite_or, ite_fl, bnd_id, wipeF, Tg.slots, Tg.slotsL, List.append_nil, noexc_ret, seq_t, seq_l, it_t, it_l, List.length_set])
      refine (Hl.bnd (d := 0) (c_word0 (k + 1) ns) fun d ⟨w, e, hw⟩ => ?_).mono (by decide)
      subst e
      rw [if_pos hz]
      (try simp -implicitDefEqProofs only [run_def, startF, exs, ex, ev, evs, evo, iter, bnd_r, bnd_fail, bnd_bnd, opt_some, bnd_exc, bnd_raise, bnd_ite, blD_bl, out_rt, out_nx, ex_raise, List.map_cons, List.map_nil, List.cons_append, List.nil_append, List.length_cons, List.length_nil, List.replicate, Nat.reduceSub, Nat.reduceAdd, List.getElem?_cons_zero, List.getElem?_cons_succ, if_true, Bool.false_eq_true, if_false, reduceIte, setF, asg_nm, asg_tp, asgs_nil, asgs_cons, List.set_cons_zero, List.set_cons_succ, Option.bind_some, Nat.reduceLT, gv_i, gv_s, isi_of (ty_s _), isi_of (ty_t _), isi_of (ty_st _), isi_of (ty_ts _), isi_of (ty_i _), isi_of (ty_bi _), isi_of (ty_bb _), isi_of (ty_l _), len_s, len_t, len_l, len_c, pr_tl, pr_tt, pr_lt, pr_ll, cmp_lt, cmp_le, cmp_gt, cmp_ge, eq_s, ne_s, eq_i, ne_i, eq_b, ne_b, add_i, sub_i, mt_s, mtok_s, mtok_l, ite_bl, ite_or, ite_fl, bnd_id, wipeF, Tg.slots, Tg.slotsL, List.append_nil, noexc_ret, seq_t, seq_l, it_t, it_l, List.length_set])
      rw [decide_eq_false (show ¬ (1 : Int) < (j : Int) by omega)]
      have e1 : ps.map Part.enc ++ [D.tup [D.str (Str.ofString "word"), D.str w]] = (ps ++ [Part.word w]).map Part.enc := by rw [List.map_append]; rfl
      have e2 : gapsOf (ps ++ [.word w]) = gapsOf ps := by rw [gapsOf_app]; exact List.append_nil _
      refine Hl.ret ⟨_, .inl rfl, ps ++ [.word w], some (.sh (.int (i : Int))), some (.sh (.int (j : Int))), some (.sh (.str ⟨#[c]⟩)), ?_, hd.add (p := .word w) hw (.inl rfl), by simp [hl]⟩
      rw [← e1, e2]
      rfl
    · rw [decide_eq_false (show ¬ (j : Int) < 2 by omega)]
      (try simp -implicitDefEqProofs only [run_def, startF, exs, ex, ev, evs, evo, iter, bnd_r, bnd_fail, bnd_bnd, opt_some, bnd_exc, bnd_raise, bnd_ite, blD_bl, out_rt, out_nx, ex_raise, List.map_cons, List.map_nil, List.cons_append, List.nil_append, List.length_cons, List.length_nil, List.replicate, Nat.reduceSub, Nat.reduceAdd, List.getElem?_cons_zero, List.getElem?_cons_succ, if_true, Bool.false_eq_true, if_false, reduceIte, setF, asg_nm, asg_tp, asgs_nil, asgs_cons, List.set_cons_zero, List.set_cons_succ, Option.bind_some, Nat.reduceLT, gv_i, gv_s, isi_of (ty_s _), isi_of (ty_t _), isi_of (ty_st _), isi_of (ty_ts _), isi_of (ty_i _), isi_of (ty_bi _), isi_of (ty_bb _), isi_of (ty_l _), len_s, len_t, len_l, len_c, pr_tl, pr_tt, pr_lt, pr_ll, cmp_lt, cmp_le, cmp_gt, cmp_ge, eq_s, ne_s, eq_i, ne_i, eq_b, ne_b, add_i, sub_i, mt_s, mtok_s, mtok_l, ite_bl, ite_or, ite_fl, bnd_id, wipeF, Tg.slots, Tg.slotsL, List.append_nil, noexc_ret, seq_t, seq_l, it_t, it_l, List.length_set])
      by_cases h3 : j = 2
      · subst h3
        refine (show Hl 20 _ _ from ?_)
        simp only [show ((((2 : Nat) : Int)) == 2) = true from rfl, if_true]
        refine (Hl.bnd (d := 0) (c_barred0 k ns) fun d ⟨bs, e, hb⟩ => ?_).mono (by decide)
        subst e
        rw [if_pos hz]
        (try simp -implicitDefEqProofs only [run_def, startF, exs, ex, ev, evs, evo, iter, bnd_r, bnd_fail, bnd_bnd, opt_some, bnd_exc, bnd_raise, bnd_ite, blD_bl, out_rt, out_nx, ex_raise, List.map_cons, List.map_nil, List.cons_append, List.nil_append, List.length_cons, List.length_nil, List.replicate, Nat.reduceSub, Nat.reduceAdd, List.getElem?_cons_zero, List.getElem?_cons_succ, if_true, Bool.false_eq_true, if_false, reduceIte, setF, asg_nm, asg_tp, asgs_nil, asgs_cons, List.set_cons_zero, List.set_cons_succ, Option.bind_some, Nat.reduceLT, gv_i, gv_s, isi_of (ty_s _), isi_of (ty_t _), isi_of (ty_st _), isi_of (ty_ts _), isi_of (ty_i _), isi_of (ty_bi _), isi_of (ty_bb _), isi_of (ty_l _), len_s, len_t, len_l, len_c, pr_tl, pr_tt, pr_lt, pr_ll, cmp_lt, cmp_le, cmp_gt, cmp_ge, eq_s, ne_s, eq_i, ne_i, eq_b, ne_b, add_i, sub_i, mt_s, mtok_s, mtok_l, ite_bl, ite_or, ite_fl, bnd_id, wipeF, Tg.slots, Tg.slotsL, List.append_nil, noexc_ret, seq_t, seq_l, it_t, it_l, List.length_set])
        have e1 : ps.map Part.enc ++ [D.tup [D.str (Str.ofString "one"), D.str ⟨#[c]⟩, encS bs]] = (ps ++ [Part.one ⟨#[c]⟩ bs]).map Part.enc := by rw [List.map_append]; rfl
        have e2 : gapsOf (ps ++ [.one ⟨#[c]⟩ bs]) = gapsOf ps ++ [⟨#[c]⟩] := by rw [gapsOf_app]; rfl
        refine Hl.ret ⟨_, .inl rfl, ps ++ [.one ⟨#[c]⟩ bs], some (.sh (.int (i : Int))), some (.sh (.int ((2 : Nat) : Int))), some (.sh (.str ⟨#[c]⟩)), ?_, hd.add (p := .one ⟨#[c]⟩ bs) ?_ (.inr ⟨hsx.symm, fun z => nomatch z⟩), by simp [hl]⟩
        · rw [← e1, e2, List.length_append]
          rfl
        · show (wordB _ && barsB _) = true
          rw [wn, hb]; rfl
      · rw [beq_eq_false_iff_ne.mpr (show (j : Int) ≠ 2 by omega)]
        (try simp -implicitDefEqProofs only [run_def, startF, exs, ex, ev, evs, evo, iter, bnd_r, bnd_fail, bnd_bnd, opt_some, bnd_exc, bnd_raise, bnd_ite, blD_bl, out_rt, out_nx, ex_raise, List.map_cons, List.map_nil, List.cons_append, List.nil_append, List.length_cons, List.length_nil, List.replicate, Nat.reduceSub, Nat.reduceAdd, List.getElem?_cons_zero, List.getElem?_cons_succ, if_true, Bool.false_eq_true, if_false, reduceIte, setF, asg_nm, asg_tp, asgs_nil, asgs_cons, List.set_cons_zero, List.set_cons_succ, Option.bind_some, Nat.reduceLT, gv_i, gv_s, isi_of (ty_s _), isi_of (ty_t _), isi_of (ty_st _), isi_of (ty_ts _), isi_of (ty_i _), isi_of (ty_bi _), isi_of (ty_bb _), isi_of (ty_l _), len_s, len_t, len_l, len_c, pr_tl, pr_tt, pr_lt, pr_ll, cmp_lt, cmp_le, cmp_gt, cmp_ge, eq_s, ne_s, eq_i, ne_i, eq_b, ne_b, add_i, sub_i, mt_s, mtok_s, mtok_l, ite_bl, ite_or, ite_fl, bnd_id, wipeF, Tg.slots, Tg.slotsL, List.append_nil, noexc_ret, seq_t, seq_l, it_t, it_l, List.length_set])
        refine (Hl.bnd (d := 19) (c_draw0 (k + 3) ns 3 (by decide)) fun d ⟨lo, hlo, e⟩ => ?_).mono (by decide)
        subst e
        (try simp -implicitDefEqProofs only [run_def, startF, exs, ex, ev, evs, evo, iter, bnd_r, bnd_fail, bnd_bnd, opt_some, bnd_exc, bnd_raise, bnd_ite, blD_bl, out_rt, out_nx, ex_raise, List.map_cons, List.map_nil, List.cons_append, List.nil_append, List.length_cons, List.length_nil, List.replicate, Nat.reduceSub, Nat.reduceAdd, List.getElem?_cons_zero, List.getElem?_cons_succ, if_true, Bool.false_eq_true, if_false, reduceIte, setF, asg_nm, asg_tp, asgs_nil, asgs_cons, List.set_cons_zero, List.set_cons_succ, Option.bind_some, Nat.reduceLT, gv_i, gv_s, isi_of (ty_s _), isi_of (ty_t _), isi_of (ty_st _), isi_of (ty_ts _), isi_of (ty_i _), isi_of (ty_bi _), isi_of (ty_bb _), isi_of (ty_l _), len_s, len_t, len_l, len_c, pr_tl, pr_tt, pr_lt, pr_ll, cmp_lt, cmp_le, cmp_gt, cmp_ge, eq_s, ne_s, eq_i, ne_i, eq_b, ne_b, add_i, sub_i, mt_s, mtok_s, mtok_l, ite_bl, ite_or, ite_fl, bnd_id, wipeF, Tg.slots, Tg.slotsL, List.append_nil, noexc_ret, seq_t, seq_l, it_t, it_l, List.length_set])
        refine (Hl.bnd (d := 0) (c_barred0 k ns) fun d ⟨bs, e, hb⟩ => ?_).mono (by decide)
        subst e
        rw [if_pos hz]
        (try simp -implicitDefEqProofs only [run_def, startF, exs, ex, ev, evs, evo, iter, bnd_r, bnd_fail, bnd_bnd, opt_some, bnd_exc, bnd_raise, bnd_ite, blD_bl, out_rt, out_nx, ex_raise, List.map_cons, List.map_nil, List.cons_append, List.nil_append, List.length_cons, List.length_nil, List.replicate, Nat.reduceSub, Nat.reduceAdd, List.getElem?_cons_zero, List.getElem?_cons_succ, if_true, Bool.false_eq_true, if_false, reduceIte, setF, asg_nm, asg_tp, asgs_nil, asgs_cons, List.set_cons_zero, List.set_cons_succ, Option.bind_some, Nat.reduceLT, gv_i, gv_s, isi_of (ty_s _), isi_of (ty_t _), isi_of (ty_st _), isi_of (ty_ts _), isi_of (ty_i _), isi_of (ty_bi _), isi_of (ty_bb _), isi_of (ty_l _), len_s, len_t, len_l, len_c, pr_tl, pr_tt, pr_lt, pr_ll, cmp_lt, cmp_le, cmp_gt, cmp_ge, eq_s, ne_s, eq_i, ne_i, eq_b, ne_b, add_i, sub_i, mt_s, mtok_s, mtok_l, ite_bl, ite_or, ite_fl, bnd_id, wipeF, Tg.slots, Tg.slotsL, List.append_nil, noexc_ret, seq_t, seq_l, it_t, it_l, List.length_set])
        rw [decide_eq_true (show (1 : Int) < (j : Int) by omega)]
        have e1 : ps.map Part.enc ++ [D.tup [D.str (Str.ofString "some"), D.str ⟨#[c]⟩, D.int lo, encS bs]] = (ps ++ [Part.sm ⟨#[c]⟩ lo bs]).map Part.enc := by rw [List.map_append]; rfl
        have e2 : gapsOf (ps ++ [.sm ⟨#[c]⟩ lo bs]) = gapsOf ps ++ [⟨#[c]⟩] := by rw [gapsOf_app]; rfl
        refine Hl.ret ⟨_, .inl rfl, ps ++ [.sm ⟨#[c]⟩ lo bs], some (.sh (.int (i : Int))), some (.sh (.int (j : Int))), some (.sh (.str ⟨#[c]⟩)), ?_, hd.add (p := .sm ⟨#[c]⟩ lo bs) ?_ (.inr ⟨hsx.symm, fun z => nomatch z⟩), by simp [hl]⟩
        · rw [← e1, e2, List.length_append]
          rfl
        · show (wordB _ && (decide _ && barsB _)) = true
          rw [wn, hb, decide_eq_true (by omega)]; rfl
  · rintro f ⟨ρ, rfl, ps, x6, x7, x8, rfl, hd, hl⟩
    (try simp -implicitDefEqProofs only [run_def, startF, exs, ex, ev, evs, evo, iter, bnd_r, bnd_fail, bnd_bnd, opt_some, bnd_exc, bnd_raise, bnd_ite, blD_bl, out_rt, out_nx, ex_raise, List.map_cons, List.map_nil, List.cons_append, List.nil_append, List.length_cons, List.length_nil, List.replicate, Nat.reduceSub, Nat.reduceAdd, List.getElem?_cons_zero, List.getElem?_cons_succ, if_true, Bool.false_eq_true, if_false, reduceIte, setF, asg_nm, asg_tp, asgs_nil, asgs_cons, List.set_cons_zero, List.set_cons_succ, Option.bind_some, Nat.reduceLT, gv_i, gv_s, isi_of (ty_s _), isi_of (ty_t _), isi_of (ty_st _), isi_of (ty_ts _), isi_of (ty_i _), isi_of (ty_bi _), isi_of (ty_bb _), isi_of (ty_l _), len_s, len_t, len_l, len_c, pr_tl, pr_tt, pr_lt, pr_ll, cmp_lt, cmp_le, cmp_gt, cmp_ge, eq_s, ne_s, eq_i, ne_i, eq_b, ne_b, add_i, sub_i, mt_s, mtok_s, mtok_l, ite_bl, ite_or, ite_fl, bnd_id, wipeF, Tg.slots, Tg.slotsL, List.append_nil, noexc_ret, seq_t, seq_l, it_t, it_l, List.length_set])
    have hl : ps.length = n := by simpa using hl
    exact Hl.ret ⟨ps, rfl, hd.tpl hs (by omega), by omega⟩
  · simp; omega
end G
/-! P8: stands, and where a word leads. -/
namespace G
open PySem L2
def Part.kind : Part → Str
  | .word _ => "word"
  | .one _ _ => "one"
  | .sm _ _ _ => "some"
def Part.isS : Part → Bool
  | .sm _ _ _ => true
  | _ => false
def Part.lo : Part → Nat
  | .sm _ lo _ => lo
  | _ => 0
def Part.bars : Part → List Str
  | .word _ => []
  | .one _ bs => bs
  | .sm _ _ bs => bs
def takesB : Part → Str → Bool
  | .word v, w => w == v
  | .one _ bs, w => !bs.any fun b => b == w
  | .sm _ _ bs, w => !bs.any fun b => b == w
theorem pk (p : Part) : dIdx p.enc (.int 0) = some (.str p.kind) := by cases p <;> rfl
theorem pn (p : Part) : dIdx p.enc (.int 1) = some (.str p.nm) := by cases p <;> rfl
theorem some_eq (p : Part) : dCmp .eq (.str p.kind) (.str "some") = some (.bl p.isS) := by cases p <;> rfl
theorem some_ne (p : Part) : dCmp .ne (.str p.kind) (.str "some") = some (.bl (!p.isS)) := by cases p <;> rfl
theorem kS (p : Part) : (p.kind == Str.ofString "some") = p.isS := by cases p <;> rfl
theorem kW (p : Part) : (p.kind == Str.ofString "word") = p.isW := by cases p <;> rfl
theorem word_eq (p : Part) : dCmp .eq (.str p.kind) (.str "word") = some (.bl p.isW) := by cases p <;> rfl
theorem notin_t (bs : List Str) (w : Str) : dCmp .notin (.str w) (encS bs) = some (.bl (!bs.any fun b => b == w)) := by
  show (if inOk (.str w) (bs.map .str) = true then _ else _) = _
  rw [if_pos]
  · rw [List.any_map]; rfl
  · unfold inOk
    rw [show D.plains (bs.map .str) = true from D.prs_plain _ (strs_pr bs)]
    have : min (D.deps (bs.map D.str)) (D.str w).dep ≤ 60 := Nat.le_trans (Nat.min_le_right _ _) (by show (0 : Nat) ≤ 60; decide)
    rw [decide_eq_true this]; rfl
theorem c_takes (k : Nat) (p : Part) (w : Str) : sem Δ (k + 1) f_takes [p.enc, .str w] = ret (.bl (takesB p w)) := by
  rw [sem_at (F := F_takes) rfl rfl]
  unfold F_takes
  (try simp -implicitDefEqProofs only [run_def, startF, exs, ex, ev, evs, evo, iter, bnd_r, bnd_fail, bnd_bnd, opt_some, bnd_exc, bnd_raise, bnd_ite, blD_bl, out_rt, out_nx, ex_raise, List.map_cons, List.map_nil, List.cons_append, List.nil_append, List.length_cons, List.length_nil, List.replicate, Nat.reduceSub, Nat.reduceAdd, List.getElem?_cons_zero, List.getElem?_cons_succ, if_true, Bool.false_eq_true, if_false, reduceIte, setF, asg_nm, asg_tp, asgs_nil, asgs_cons, List.set_cons_zero, List.set_cons_succ, Option.bind_some, Nat.reduceLT, gv_i, gv_s, isi_of (ty_s _), isi_of (ty_t _), isi_of (ty_st _), isi_of (ty_ts _), isi_of (ty_i _), isi_of (ty_bi _), isi_of (ty_bb _), isi_of (ty_l _), len_s, len_t, len_l, len_c, pr_tl, pr_tt, pr_lt, pr_ll, cmp_lt, cmp_le, cmp_gt, cmp_ge, eq_s, ne_s, eq_i, ne_i, eq_b, ne_b, add_i, sub_i, mt_s, mtok_s, mtok_l, ite_bl, ite_or, ite_fl, bnd_id, wipeF, Tg.slots, Tg.slotsL, List.append_nil, noexc_ret, seq_t, seq_l, it_t, it_l, List.length_set])
  rw [pk]
  (try simp -implicitDefEqProofs only [run_def, startF, exs, ex, ev, evs, evo, iter, bnd_r, bnd_fail, bnd_bnd, opt_some, bnd_exc, bnd_raise, bnd_ite, blD_bl, out_rt, out_nx, ex_raise, List.map_cons, List.map_nil, List.cons_append, List.nil_append, List.length_cons, List.length_nil, List.replicate, Nat.reduceSub, Nat.reduceAdd, List.getElem?_cons_zero, List.getElem?_cons_succ, if_true, Bool.false_eq_true, if_false, reduceIte, setF, asg_nm, asg_tp, asgs_nil, asgs_cons, List.set_cons_zero, List.set_cons_succ, Option.bind_some, Nat.reduceLT, gv_i, gv_s, isi_of (ty_s _), isi_of (ty_t _), isi_of (ty_st _), isi_of (ty_ts _), isi_of (ty_i _), isi_of (ty_bi _), isi_of (ty_bb _), isi_of (ty_l _), len_s, len_t, len_l, len_c, pr_tl, pr_tt, pr_lt, pr_ll, cmp_lt, cmp_le, cmp_gt, cmp_ge, eq_s, ne_s, eq_i, ne_i, eq_b, ne_b, add_i, sub_i, mt_s, mtok_s, mtok_l, ite_bl, ite_or, ite_fl, bnd_id, wipeF, Tg.slots, Tg.slotsL, List.append_nil, noexc_ret, seq_t, seq_l, it_t, it_l, List.length_set])
  cases p with
  | word v => rfl
  | one n bs =>
    rw [show dIdx (Part.one n bs).enc (.int (-1)) = some (encS bs) from ixl3 ..]
    (try simp -implicitDefEqProofs only [run_def, startF, exs, ex, ev, evs, evo, iter, bnd_r, bnd_fail, bnd_bnd, opt_some, bnd_exc, bnd_raise, bnd_ite, blD_bl, out_rt, out_nx, ex_raise, List.map_cons, List.map_nil, List.cons_append, List.nil_append, List.length_cons, List.length_nil, List.replicate, Nat.reduceSub, Nat.reduceAdd, List.getElem?_cons_zero, List.getElem?_cons_succ, if_true, Bool.false_eq_true, if_false, reduceIte, setF, asg_nm, asg_tp, asgs_nil, asgs_cons, List.set_cons_zero, List.set_cons_succ, Option.bind_some, Nat.reduceLT, gv_i, gv_s, isi_of (ty_s _), isi_of (ty_t _), isi_of (ty_st _), isi_of (ty_ts _), isi_of (ty_i _), isi_of (ty_bi _), isi_of (ty_bb _), isi_of (ty_l _), len_s, len_t, len_l, len_c, pr_tl, pr_tt, pr_lt, pr_ll, cmp_lt, cmp_le, cmp_gt, cmp_ge, eq_s, ne_s, eq_i, ne_i, eq_b, ne_b, add_i, sub_i, mt_s, mtok_s, mtok_l, ite_bl, ite_or, ite_fl, bnd_id, wipeF, Tg.slots, Tg.slotsL, List.append_nil, noexc_ret, seq_t, seq_l, it_t, it_l, List.length_set])
    rw [notin_t]
    rfl
  | sm n lo bs =>
    rw [show dIdx (Part.sm n lo bs).enc (.int (-1)) = some (encS bs) from ixl4 ..]
    (try simp -implicitDefEqProofs only [run_def, startF, exs, ex, ev, evs, evo, iter, bnd_r, bnd_fail, bnd_bnd, opt_some, bnd_exc, bnd_raise, bnd_ite, blD_bl, out_rt, out_nx, ex_raise, List.map_cons, List.map_nil, List.cons_append, List.nil_append, List.length_cons, List.length_nil, List.replicate, Nat.reduceSub, Nat.reduceAdd, List.getElem?_cons_zero, List.getElem?_cons_succ, if_true, Bool.false_eq_true, if_false, reduceIte, setF, asg_nm, asg_tp, asgs_nil, asgs_cons, List.set_cons_zero, List.set_cons_succ, Option.bind_some, Nat.reduceLT, gv_i, gv_s, isi_of (ty_s _), isi_of (ty_t _), isi_of (ty_st _), isi_of (ty_ts _), isi_of (ty_i _), isi_of (ty_bi _), isi_of (ty_bb _), isi_of (ty_l _), len_s, len_t, len_l, len_c, pr_tl, pr_tt, pr_lt, pr_ll, cmp_lt, cmp_le, cmp_gt, cmp_ge, eq_s, ne_s, eq_i, ne_i, eq_b, ne_b, add_i, sub_i, mt_s, mtok_s, mtok_l, ite_bl, ite_or, ite_fl, bnd_id, wipeF, Tg.slots, Tg.slotsL, List.append_nil, noexc_ret, seq_t, seq_l, it_t, it_l, List.length_set])
    rw [notin_t]
    rfl
theorem c_law_takes (k : Nat) (p : Part) (w : Str) : sem Δ (k + 1) f_law_takes [p.enc, .str w] = ret (.bl (takesB p w)) := c_takes k p w
def capN : Part → Nat
  | .sm _ lo _ => max 1 lo
  | _ => 1
theorem max1 (lo : Nat) : dPrim .max2 [.int 1, .int (lo : Int)] = some (.int ((max 1 lo : Nat) : Int)) := by
  show some (D.int (if (lo : Int) > 1 then (lo : Int) else 1)) = _
  split
  · rw [Nat.max_eq_right (by omega)]
  · rw [Nat.max_eq_left (by omega)]; rfl
theorem c_most (k : Nat) (p : Part) : sem Δ (k + 1) f_most_of [p.enc] = ret (.int (capN p : Nat)) := by
  rw [sem_at (F := F_most_of) rfl rfl]
  unfold F_most_of
  (try simp -implicitDefEqProofs only [run_def, startF, exs, ex, ev, evs, evo, iter, bnd_r, bnd_fail, bnd_bnd, opt_some, bnd_exc, bnd_raise, bnd_ite, blD_bl, out_rt, out_nx, ex_raise, List.map_cons, List.map_nil, List.cons_append, List.nil_append, List.length_cons, List.length_nil, List.replicate, Nat.reduceSub, Nat.reduceAdd, List.getElem?_cons_zero, List.getElem?_cons_succ, if_true, Bool.false_eq_true, if_false, reduceIte, setF, asg_nm, asg_tp, asgs_nil, asgs_cons, List.set_cons_zero, List.set_cons_succ, Option.bind_some, Nat.reduceLT, gv_i, gv_s, isi_of (ty_s _), isi_of (ty_t _), isi_of (ty_st _), isi_of (ty_ts _), isi_of (ty_i _), isi_of (ty_bi _), isi_of (ty_bb _), isi_of (ty_l _), len_s, len_t, len_l, len_c, pr_tl, pr_tt, pr_lt, pr_ll, cmp_lt, cmp_le, cmp_gt, cmp_ge, eq_s, ne_s, eq_i, ne_i, eq_b, ne_b, add_i, sub_i, mt_s, mtok_s, mtok_l, ite_bl, ite_or, ite_fl, bnd_id, wipeF, Tg.slots, Tg.slotsL, List.append_nil, noexc_ret, seq_t, seq_l, it_t, it_l, List.length_set])
  rw [pk]
  (try simp -implicitDefEqProofs only [run_def, startF, exs, ex, ev, evs, evo, iter, bnd_r, bnd_fail, bnd_bnd, opt_some, bnd_exc, bnd_raise, bnd_ite, blD_bl, out_rt, out_nx, ex_raise, List.map_cons, List.map_nil, List.cons_append, List.nil_append, List.length_cons, List.length_nil, List.replicate, Nat.reduceSub, Nat.reduceAdd, List.getElem?_cons_zero, List.getElem?_cons_succ, if_true, Bool.false_eq_true, if_false, reduceIte, setF, asg_nm, asg_tp, asgs_nil, asgs_cons, List.set_cons_zero, List.set_cons_succ, Option.bind_some, Nat.reduceLT, gv_i, gv_s, isi_of (ty_s _), isi_of (ty_t _), isi_of (ty_st _), isi_of (ty_ts _), isi_of (ty_i _), isi_of (ty_bi _), isi_of (ty_bb _), isi_of (ty_l _), len_s, len_t, len_l, len_c, pr_tl, pr_tt, pr_lt, pr_ll, cmp_lt, cmp_le, cmp_gt, cmp_ge, eq_s, ne_s, eq_i, ne_i, eq_b, ne_b, add_i, sub_i, mt_s, mtok_s, mtok_l, ite_bl, ite_or, ite_fl, bnd_id, wipeF, Tg.slots, Tg.slotsL, List.append_nil, noexc_ret, seq_t, seq_l, it_t, it_l, List.length_set])
  cases p with
  | word v => rfl
  | one n bs => rfl
  | sm n lo bs =>
    rw [show dIdx (Part.sm n lo bs).enc (.int 2) = some (.int lo) from ix2 ..]
    (try simp -implicitDefEqProofs only [run_def, startF, exs, ex, ev, evs, evo, iter, bnd_r, bnd_fail, bnd_bnd, opt_some, bnd_exc, bnd_raise, bnd_ite, blD_bl, out_rt, out_nx, ex_raise, List.map_cons, List.map_nil, List.cons_append, List.nil_append, List.length_cons, List.length_nil, List.replicate, Nat.reduceSub, Nat.reduceAdd, List.getElem?_cons_zero, List.getElem?_cons_succ, if_true, Bool.false_eq_true, if_false, reduceIte, setF, asg_nm, asg_tp, asgs_nil, asgs_cons, List.set_cons_zero, List.set_cons_succ, Option.bind_some, Nat.reduceLT, gv_i, gv_s, isi_of (ty_s _), isi_of (ty_t _), isi_of (ty_st _), isi_of (ty_ts _), isi_of (ty_i _), isi_of (ty_bi _), isi_of (ty_bb _), isi_of (ty_l _), len_s, len_t, len_l, len_c, pr_tl, pr_tt, pr_lt, pr_ll, cmp_lt, cmp_le, cmp_gt, cmp_ge, eq_s, ne_s, eq_i, ne_i, eq_b, ne_b, add_i, sub_i, mt_s, mtok_s, mtok_l, ite_bl, ite_or, ite_fl, bnd_id, wipeF, Tg.slots, Tg.slotsL, List.append_nil, noexc_ret, seq_t, seq_l, it_t, it_l, List.length_set])
    rw [max1]
    rfl
theorem c_cap (k : Nat) (p : Part) : sem Δ (k + 1) f_law_cap [p.enc] = ret (.int (capN p : Nat)) := by
  rw [sem_at (F := F_law_cap) rfl rfl]
  unfold F_law_cap
  (try simp -implicitDefEqProofs only [run_def, startF, exs, ex, ev, evs, evo, iter, bnd_r, bnd_fail, bnd_bnd, opt_some, bnd_exc, bnd_raise, bnd_ite, blD_bl, out_rt, out_nx, ex_raise, List.map_cons, List.map_nil, List.cons_append, List.nil_append, List.length_cons, List.length_nil, List.replicate, Nat.reduceSub, Nat.reduceAdd, List.getElem?_cons_zero, List.getElem?_cons_succ, if_true, Bool.false_eq_true, if_false, reduceIte, setF, asg_nm, asg_tp, asgs_nil, asgs_cons, List.set_cons_zero, List.set_cons_succ, Option.bind_some, Nat.reduceLT, gv_i, gv_s, isi_of (ty_s _), isi_of (ty_t _), isi_of (ty_st _), isi_of (ty_ts _), isi_of (ty_i _), isi_of (ty_bi _), isi_of (ty_bb _), isi_of (ty_l _), len_s, len_t, len_l, len_c, pr_tl, pr_tt, pr_lt, pr_ll, cmp_lt, cmp_le, cmp_gt, cmp_ge, eq_s, ne_s, eq_i, ne_i, eq_b, ne_b, add_i, sub_i, mt_s, mtok_s, mtok_l, ite_bl, ite_or, ite_fl, bnd_id, wipeF, Tg.slots, Tg.slotsL, List.append_nil, noexc_ret, seq_t, seq_l, it_t, it_l, List.length_set])
  rw [pk]
  (try simp -implicitDefEqProofs only [run_def, startF, exs, ex, ev, evs, evo, iter, bnd_r, bnd_fail, bnd_bnd, opt_some, bnd_exc, bnd_raise, bnd_ite, blD_bl, out_rt, out_nx, ex_raise, List.map_cons, List.map_nil, List.cons_append, List.nil_append, List.length_cons, List.length_nil, List.replicate, Nat.reduceSub, Nat.reduceAdd, List.getElem?_cons_zero, List.getElem?_cons_succ, if_true, Bool.false_eq_true, if_false, reduceIte, setF, asg_nm, asg_tp, asgs_nil, asgs_cons, List.set_cons_zero, List.set_cons_succ, Option.bind_some, Nat.reduceLT, gv_i, gv_s, isi_of (ty_s _), isi_of (ty_t _), isi_of (ty_st _), isi_of (ty_ts _), isi_of (ty_i _), isi_of (ty_bi _), isi_of (ty_bb _), isi_of (ty_l _), len_s, len_t, len_l, len_c, pr_tl, pr_tt, pr_lt, pr_ll, cmp_lt, cmp_le, cmp_gt, cmp_ge, eq_s, ne_s, eq_i, ne_i, eq_b, ne_b, add_i, sub_i, mt_s, mtok_s, mtok_l, ite_bl, ite_or, ite_fl, bnd_id, wipeF, Tg.slots, Tg.slotsL, List.append_nil, noexc_ret, seq_t, seq_l, it_t, it_l, List.length_set])
  cases p with
  | word v => rfl
  | one n bs => rfl
  | sm n lo bs =>
    rw [show dIdx (Part.sm n lo bs).enc (.int 2) = some (.int lo) from ix2 ..]
    (try simp -implicitDefEqProofs only [run_def, startF, exs, ex, ev, evs, evo, iter, bnd_r, bnd_fail, bnd_bnd, opt_some, bnd_exc, bnd_raise, bnd_ite, blD_bl, out_rt, out_nx, ex_raise, List.map_cons, List.map_nil, List.cons_append, List.nil_append, List.length_cons, List.length_nil, List.replicate, Nat.reduceSub, Nat.reduceAdd, List.getElem?_cons_zero, List.getElem?_cons_succ, if_true, Bool.false_eq_true, if_false, reduceIte, setF, asg_nm, asg_tp, asgs_nil, asgs_cons, List.set_cons_zero, List.set_cons_succ, Option.bind_some, Nat.reduceLT, gv_i, gv_s, isi_of (ty_s _), isi_of (ty_t _), isi_of (ty_st _), isi_of (ty_ts _), isi_of (ty_i _), isi_of (ty_bi _), isi_of (ty_bb _), isi_of (ty_l _), len_s, len_t, len_l, len_c, pr_tl, pr_tt, pr_lt, pr_ll, cmp_lt, cmp_le, cmp_gt, cmp_ge, eq_s, ne_s, eq_i, ne_i, eq_b, ne_b, add_i, sub_i, mt_s, mtok_s, mtok_l, ite_bl, ite_or, ite_fl, bnd_id, wipeF, Tg.slots, Tg.slotsL, List.append_nil, noexc_ret, seq_t, seq_l, it_t, it_l, List.length_set])
    rw [max1]
    rfl
/-! ### stands -/
abbrev Stand := Option (Nat × Nat)
def stE : Stand → D
  | none => .tup [.int (-1), .int 0]
  | some (i, m) => .tup [.int (i : Nat), .int (m : Nat)]
def Stand.nxt : Stand → Nat
  | none => 0
  | some (i, _) => i + 1
def StOk (ps : List Part) : Stand → Prop
  | none => True
  | some (i, m) => ∃ p, ps[i]? = some p ∧ 1 ≤ m ∧ m ≤ capN p
def doneB (ps : List Part) : Stand → Bool
  | none => true
  | some (i, m) => match ps[i]? with
    | some (.sm _ lo _) => decide (lo ≤ m)
    | _ => true
def Part.free : Part → Bool
  | .sm _ lo _ => lo == 0
  | _ => false
def skipB (ps : List Part) (a b : Nat) : Bool := ((ps.drop a).take (b - a)).all Part.free
theorem idxT {ps : List Part} {i : Nat} {p : Part} (h : ps[i]? = some p) : dIdx (encT ps) (.int (i : Int)) = some p.enc := idx_t (by rw [List.getElem?_map, h]; rfl)
theorem slT (ps : List Part) (a b : Nat) : dSl (encT ps) (some (a : Int)) (some (b : Int)) = some (encT ((ps.drop a).take (b - a))) := by
  show some (D.tup (cutL (ps.map Part.enc) (some (a : Int)) (some (b : Int)))) = _
  rw [cut_ff]
  unfold encT
  rw [List.map_take, List.map_drop]
theorem itT' (ps : List Part) : itemsOf (encT ps) = some (ps.map Part.enc) := rfl
theorem c_skip (k : Nat) {ps : List Part} (h : ps.length ≤ 6) (a b : Nat) : sem Δ (k + 1) f_may_skip [encT ps, .int a, .int b] = ret (.bl (skipB ps a b)) := by
  rw [sem_at (F := F_may_skip) rfl rfl]
  unfold F_may_skip
  (try simp -implicitDefEqProofs only [run_def, startF, exs, ex, ev, evs, evo, iter, bnd_r, bnd_fail, bnd_bnd, opt_some, bnd_exc, bnd_raise, bnd_ite, blD_bl, out_rt, out_nx, ex_raise, List.map_cons, List.map_nil, List.cons_append, List.nil_append, List.length_cons, List.length_nil, List.replicate, Nat.reduceSub, Nat.reduceAdd, List.getElem?_cons_zero, List.getElem?_cons_succ, if_true, Bool.false_eq_true, if_false, reduceIte, setF, asg_nm, asg_tp, asgs_nil, asgs_cons, List.set_cons_zero, List.set_cons_succ, Option.bind_some, Nat.reduceLT, gv_i, gv_s, isi_of (ty_s _), isi_of (ty_t _), isi_of (ty_st _), isi_of (ty_ts _), isi_of (ty_i _), isi_of (ty_bi _), isi_of (ty_bb _), isi_of (ty_l _), len_s, len_t, len_l, len_c, pr_tl, pr_tt, pr_lt, pr_ll, cmp_lt, cmp_le, cmp_gt, cmp_ge, eq_s, ne_s, eq_i, ne_i, eq_b, ne_b, add_i, sub_i, mt_s, mtok_s, mtok_l, ite_bl, ite_or, ite_fl, bnd_id, wipeF, Tg.slots, Tg.slotsL, List.append_nil, noexc_ret, seq_t, seq_l, it_t, it_l, List.length_set])
  rw [slT]
  (try simp -implicitDefEqProofs only [run_def, startF, exs, ex, ev, evs, evo, iter, bnd_r, bnd_fail, bnd_bnd, opt_some, bnd_exc, bnd_raise, bnd_ite, blD_bl, out_rt, out_nx, ex_raise, List.map_cons, List.map_nil, List.cons_append, List.nil_append, List.length_cons, List.length_nil, List.replicate, Nat.reduceSub, Nat.reduceAdd, List.getElem?_cons_zero, List.getElem?_cons_succ, if_true, Bool.false_eq_true, if_false, reduceIte, setF, asg_nm, asg_tp, asgs_nil, asgs_cons, List.set_cons_zero, List.set_cons_succ, Option.bind_some, Nat.reduceLT, gv_i, gv_s, isi_of (ty_s _), isi_of (ty_t _), isi_of (ty_st _), isi_of (ty_ts _), isi_of (ty_i _), isi_of (ty_bi _), isi_of (ty_bb _), isi_of (ty_l _), len_s, len_t, len_l, len_c, pr_tl, pr_tt, pr_lt, pr_ll, cmp_lt, cmp_le, cmp_gt, cmp_ge, eq_s, ne_s, eq_i, ne_i, eq_b, ne_b, add_i, sub_i, mt_s, mtok_s, mtok_l, ite_bl, ite_or, ite_fl, bnd_id, wipeF, Tg.slots, Tg.slotsL, List.append_nil, noexc_ret, seq_t, seq_l, it_t, it_l, List.length_set])
  rw [itT']
  (try simp -implicitDefEqProofs only [run_def, startF, exs, ex, ev, evs, evo, iter, bnd_r, bnd_fail, bnd_bnd, opt_some, bnd_exc, bnd_raise, bnd_ite, blD_bl, out_rt, out_nx, ex_raise, List.map_cons, List.map_nil, List.cons_append, List.nil_append, List.length_cons, List.length_nil, List.replicate, Nat.reduceSub, Nat.reduceAdd, List.getElem?_cons_zero, List.getElem?_cons_succ, if_true, Bool.false_eq_true, if_false, reduceIte, setF, asg_nm, asg_tp, asgs_nil, asgs_cons, List.set_cons_zero, List.set_cons_succ, Option.bind_some, Nat.reduceLT, gv_i, gv_s, isi_of (ty_s _), isi_of (ty_t _), isi_of (ty_st _), isi_of (ty_ts _), isi_of (ty_i _), isi_of (ty_bi _), isi_of (ty_bb _), isi_of (ty_l _), len_s, len_t, len_l, len_c, pr_tl, pr_tt, pr_lt, pr_ll, cmp_lt, cmp_le, cmp_gt, cmp_ge, eq_s, ne_s, eq_i, ne_i, eq_b, ne_b, add_i, sub_i, mt_s, mtok_s, mtok_l, ite_bl, ite_or, ite_fl, bnd_id, wipeF, Tg.slots, Tg.slotsL, List.append_nil, noexc_ret, seq_t, seq_l, it_t, it_l, List.length_set])
  rw [Hl.lenOk (by simp; omega), bnd_r, comp_map ((ps.drop a).take (b - a)) Part.enc (fun p => .bl p.free) fun p _ => ?_]
  · (try simp -implicitDefEqProofs only [run_def, startF, exs, ex, ev, evs, evo, iter, bnd_r, bnd_fail, bnd_bnd, opt_some, bnd_exc, bnd_raise, bnd_ite, blD_bl, out_rt, out_nx, ex_raise, List.map_cons, List.map_nil, List.cons_append, List.nil_append, List.length_cons, List.length_nil, List.replicate, Nat.reduceSub, Nat.reduceAdd, List.getElem?_cons_zero, List.getElem?_cons_succ, if_true, Bool.false_eq_true, if_false, reduceIte, setF, asg_nm, asg_tp, asgs_nil, asgs_cons, List.set_cons_zero, List.set_cons_succ, Option.bind_some, Nat.reduceLT, gv_i, gv_s, isi_of (ty_s _), isi_of (ty_t _), isi_of (ty_st _), isi_of (ty_ts _), isi_of (ty_i _), isi_of (ty_bi _), isi_of (ty_bb _), isi_of (ty_l _), len_s, len_t, len_l, len_c, pr_tl, pr_tt, pr_lt, pr_ll, cmp_lt, cmp_le, cmp_gt, cmp_ge, eq_s, ne_s, eq_i, ne_i, eq_b, ne_b, add_i, sub_i, mt_s, mtok_s, mtok_l, ite_bl, ite_or, ite_fl, bnd_id, wipeF, Tg.slots, Tg.slotsL, List.append_nil, noexc_ret, seq_t, seq_l, it_t, it_l, List.length_set])
    rw [all_map]
    rfl
  · (try simp -implicitDefEqProofs only [run_def, startF, exs, ex, ev, evs, evo, iter, bnd_r, bnd_fail, bnd_bnd, opt_some, bnd_exc, bnd_raise, bnd_ite, blD_bl, out_rt, out_nx, ex_raise, List.map_cons, List.map_nil, List.cons_append, List.nil_append, List.length_cons, List.length_nil, List.replicate, Nat.reduceSub, Nat.reduceAdd, List.getElem?_cons_zero, List.getElem?_cons_succ, if_true, Bool.false_eq_true, if_false, reduceIte, setF, asg_nm, asg_tp, asgs_nil, asgs_cons, List.set_cons_zero, List.set_cons_succ, Option.bind_some, Nat.reduceLT, gv_i, gv_s, isi_of (ty_s _), isi_of (ty_t _), isi_of (ty_st _), isi_of (ty_ts _), isi_of (ty_i _), isi_of (ty_bi _), isi_of (ty_bb _), isi_of (ty_l _), len_s, len_t, len_l, len_c, pr_tl, pr_tt, pr_lt, pr_ll, cmp_lt, cmp_le, cmp_gt, cmp_ge, eq_s, ne_s, eq_i, ne_i, eq_b, ne_b, add_i, sub_i, mt_s, mtok_s, mtok_l, ite_bl, ite_or, ite_fl, bnd_id, wipeF, Tg.slots, Tg.slotsL, List.append_nil, noexc_ret, seq_t, seq_l, it_t, it_l, List.length_set])
    rw [pk]
    (try simp -implicitDefEqProofs only [run_def, startF, exs, ex, ev, evs, evo, iter, bnd_r, bnd_fail, bnd_bnd, opt_some, bnd_exc, bnd_raise, bnd_ite, blD_bl, out_rt, out_nx, ex_raise, List.map_cons, List.map_nil, List.cons_append, List.nil_append, List.length_cons, List.length_nil, List.replicate, Nat.reduceSub, Nat.reduceAdd, List.getElem?_cons_zero, List.getElem?_cons_succ, if_true, Bool.false_eq_true, if_false, reduceIte, setF, asg_nm, asg_tp, asgs_nil, asgs_cons, List.set_cons_zero, List.set_cons_succ, Option.bind_some, Nat.reduceLT, gv_i, gv_s, isi_of (ty_s _), isi_of (ty_t _), isi_of (ty_st _), isi_of (ty_ts _), isi_of (ty_i _), isi_of (ty_bi _), isi_of (ty_bb _), isi_of (ty_l _), len_s, len_t, len_l, len_c, pr_tl, pr_tt, pr_lt, pr_ll, cmp_lt, cmp_le, cmp_gt, cmp_ge, eq_s, ne_s, eq_i, ne_i, eq_b, ne_b, add_i, sub_i, mt_s, mtok_s, mtok_l, ite_bl, ite_or, ite_fl, bnd_id, wipeF, Tg.slots, Tg.slotsL, List.append_nil, noexc_ret, seq_t, seq_l, it_t, it_l, List.length_set])
    cases p with
    | word v => rfl
    | one n bs => rfl
    | sm n lo bs =>
      rw [show dIdx (Part.sm n lo bs).enc (.int 2) = some (.int lo) from ix2 ..]
      (try simp -implicitDefEqProofs only [run_def, startF, exs, ex, ev, evs, evo, iter, bnd_r, bnd_fail, bnd_bnd, opt_some, bnd_exc, bnd_raise, bnd_ite, blD_bl, out_rt, out_nx, ex_raise, List.map_cons, List.map_nil, List.cons_append, List.nil_append, List.length_cons, List.length_nil, List.replicate, Nat.reduceSub, Nat.reduceAdd, List.getElem?_cons_zero, List.getElem?_cons_succ, if_true, Bool.false_eq_true, if_false, reduceIte, setF, asg_nm, asg_tp, asgs_nil, asgs_cons, List.set_cons_zero, List.set_cons_succ, Option.bind_some, Nat.reduceLT, gv_i, gv_s, isi_of (ty_s _), isi_of (ty_t _), isi_of (ty_st _), isi_of (ty_ts _), isi_of (ty_i _), isi_of (ty_bi _), isi_of (ty_bb _), isi_of (ty_l _), len_s, len_t, len_l, len_c, pr_tl, pr_tt, pr_lt, pr_ll, cmp_lt, cmp_le, cmp_gt, cmp_ge, eq_s, ne_s, eq_i, ne_i, eq_b, ne_b, add_i, sub_i, mt_s, mtok_s, mtok_l, ite_bl, ite_or, ite_fl, bnd_id, wipeF, Tg.slots, Tg.slotsL, List.append_nil, noexc_ret, seq_t, seq_l, it_t, it_l, List.length_set])
      show ret _ = ret (some (D.bl (lo == 0)))
      have : (((lo : Nat) : Int) == 0) = (lo == 0) := by
        rw [show (0 : Int) = ((0 : Nat) : Int) from rfl, ints_eq]
        by_cases e : lo = 0 <;> simp [e]
      rw [← this]
theorem c_law_free (k : Nat) {ps : List Part} (h : ps.length ≤ 6) (a b : Nat) : sem Δ (k + 1) f_law_free [encT ps, .int a, .int b] = ret (.bl (skipB ps a b)) := by
  rw [sem_at (F := F_law_free) rfl rfl]
  unfold F_law_free
  (try simp -implicitDefEqProofs only [run_def, startF, exs, ex, ev, evs, evo, iter, bnd_r, bnd_fail, bnd_bnd, opt_some, bnd_exc, bnd_raise, bnd_ite, blD_bl, out_rt, out_nx, ex_raise, List.map_cons, List.map_nil, List.cons_append, List.nil_append, List.length_cons, List.length_nil, List.replicate, Nat.reduceSub, Nat.reduceAdd, List.getElem?_cons_zero, List.getElem?_cons_succ, if_true, Bool.false_eq_true, if_false, reduceIte, setF, asg_nm, asg_tp, asgs_nil, asgs_cons, List.set_cons_zero, List.set_cons_succ, Option.bind_some, Nat.reduceLT, gv_i, gv_s, isi_of (ty_s _), isi_of (ty_t _), isi_of (ty_st _), isi_of (ty_ts _), isi_of (ty_i _), isi_of (ty_bi _), isi_of (ty_bb _), isi_of (ty_l _), len_s, len_t, len_l, len_c, pr_tl, pr_tt, pr_lt, pr_ll, cmp_lt, cmp_le, cmp_gt, cmp_ge, eq_s, ne_s, eq_i, ne_i, eq_b, ne_b, add_i, sub_i, mt_s, mtok_s, mtok_l, ite_bl, ite_or, ite_fl, bnd_id, wipeF, Tg.slots, Tg.slotsL, List.append_nil, noexc_ret, seq_t, seq_l, it_t, it_l, List.length_set])
  rw [slT]
  (try simp -implicitDefEqProofs only [run_def, startF, exs, ex, ev, evs, evo, iter, bnd_r, bnd_fail, bnd_bnd, opt_some, bnd_exc, bnd_raise, bnd_ite, blD_bl, out_rt, out_nx, ex_raise, List.map_cons, List.map_nil, List.cons_append, List.nil_append, List.length_cons, List.length_nil, List.replicate, Nat.reduceSub, Nat.reduceAdd, List.getElem?_cons_zero, List.getElem?_cons_succ, if_true, Bool.false_eq_true, if_false, reduceIte, setF, asg_nm, asg_tp, asgs_nil, asgs_cons, List.set_cons_zero, List.set_cons_succ, Option.bind_some, Nat.reduceLT, gv_i, gv_s, isi_of (ty_s _), isi_of (ty_t _), isi_of (ty_st _), isi_of (ty_ts _), isi_of (ty_i _), isi_of (ty_bi _), isi_of (ty_bb _), isi_of (ty_l _), len_s, len_t, len_l, len_c, pr_tl, pr_tt, pr_lt, pr_ll, cmp_lt, cmp_le, cmp_gt, cmp_ge, eq_s, ne_s, eq_i, ne_i, eq_b, ne_b, add_i, sub_i, mt_s, mtok_s, mtok_l, ite_bl, ite_or, ite_fl, bnd_id, wipeF, Tg.slots, Tg.slotsL, List.append_nil, noexc_ret, seq_t, seq_l, it_t, it_l, List.length_set])
  rw [itT']
  (try simp -implicitDefEqProofs only [run_def, startF, exs, ex, ev, evs, evo, iter, bnd_r, bnd_fail, bnd_bnd, opt_some, bnd_exc, bnd_raise, bnd_ite, blD_bl, out_rt, out_nx, ex_raise, List.map_cons, List.map_nil, List.cons_append, List.nil_append, List.length_cons, List.length_nil, List.replicate, Nat.reduceSub, Nat.reduceAdd, List.getElem?_cons_zero, List.getElem?_cons_succ, if_true, Bool.false_eq_true, if_false, reduceIte, setF, asg_nm, asg_tp, asgs_nil, asgs_cons, List.set_cons_zero, List.set_cons_succ, Option.bind_some, Nat.reduceLT, gv_i, gv_s, isi_of (ty_s _), isi_of (ty_t _), isi_of (ty_st _), isi_of (ty_ts _), isi_of (ty_i _), isi_of (ty_bi _), isi_of (ty_bb _), isi_of (ty_l _), len_s, len_t, len_l, len_c, pr_tl, pr_tt, pr_lt, pr_ll, cmp_lt, cmp_le, cmp_gt, cmp_ge, eq_s, ne_s, eq_i, ne_i, eq_b, ne_b, add_i, sub_i, mt_s, mtok_s, mtok_l, ite_bl, ite_or, ite_fl, bnd_id, wipeF, Tg.slots, Tg.slotsL, List.append_nil, noexc_ret, seq_t, seq_l, it_t, it_l, List.length_set])
  rw [Hl.lenOk (by simp; omega), bnd_r, comp_fm ((ps.drop a).take (b - a)) Part.enc (fun p => if p.free = true then none else some (.int 1)) fun p _ => ?_]
  · (try simp -implicitDefEqProofs only [run_def, startF, exs, ex, ev, evs, evo, iter, bnd_r, bnd_fail, bnd_bnd, opt_some, bnd_exc, bnd_raise, bnd_ite, blD_bl, out_rt, out_nx, ex_raise, List.map_cons, List.map_nil, List.cons_append, List.nil_append, List.length_cons, List.length_nil, List.replicate, Nat.reduceSub, Nat.reduceAdd, List.getElem?_cons_zero, List.getElem?_cons_succ, if_true, Bool.false_eq_true, if_false, reduceIte, setF, asg_nm, asg_tp, asgs_nil, asgs_cons, List.set_cons_zero, List.set_cons_succ, Option.bind_some, Nat.reduceLT, gv_i, gv_s, isi_of (ty_s _), isi_of (ty_t _), isi_of (ty_st _), isi_of (ty_ts _), isi_of (ty_i _), isi_of (ty_bi _), isi_of (ty_bb _), isi_of (ty_l _), len_s, len_t, len_l, len_c, pr_tl, pr_tt, pr_lt, pr_ll, cmp_lt, cmp_le, cmp_gt, cmp_ge, eq_s, ne_s, eq_i, ne_i, eq_b, ne_b, add_i, sub_i, mt_s, mtok_s, mtok_l, ite_bl, ite_or, ite_fl, bnd_id, wipeF, Tg.slots, Tg.slotsL, List.append_nil, noexc_ret, seq_t, seq_l, it_t, it_l, List.length_set])
    unfold skipB
    generalize (ps.drop a).take (b - a) = l
    have : (((l.filterMap fun p => if p.free = true then none else some (D.int 1)).length : Int) == 0) = l.all Part.free := by
      induction l with
      | nil => rfl
      | cons p l ih =>
        rw [List.filterMap_cons, List.all_cons]
        cases p.free with
        | true => exact ih
        | false =>
          rw [Bool.false_and]
          refine beq_eq_false_iff_ne.mpr fun z => ?_
          rw [show (0 : Int) = ((0 : Nat) : Int) from rfl] at z
          simp only [Bool.false_eq_true, if_false, List.length_cons] at z
          omega
    rw [← this]
  · (try simp -implicitDefEqProofs only [run_def, startF, exs, ex, ev, evs, evo, iter, bnd_r, bnd_fail, bnd_bnd, opt_some, bnd_exc, bnd_raise, bnd_ite, blD_bl, out_rt, out_nx, ex_raise, List.map_cons, List.map_nil, List.cons_append, List.nil_append, List.length_cons, List.length_nil, List.replicate, Nat.reduceSub, Nat.reduceAdd, List.getElem?_cons_zero, List.getElem?_cons_succ, if_true, Bool.false_eq_true, if_false, reduceIte, setF, asg_nm, asg_tp, asgs_nil, asgs_cons, List.set_cons_zero, List.set_cons_succ, Option.bind_some, Nat.reduceLT, gv_i, gv_s, isi_of (ty_s _), isi_of (ty_t _), isi_of (ty_st _), isi_of (ty_ts _), isi_of (ty_i _), isi_of (ty_bi _), isi_of (ty_bb _), isi_of (ty_l _), len_s, len_t, len_l, len_c, pr_tl, pr_tt, pr_lt, pr_ll, cmp_lt, cmp_le, cmp_gt, cmp_ge, eq_s, ne_s, eq_i, ne_i, eq_b, ne_b, add_i, sub_i, mt_s, mtok_s, mtok_l, ite_bl, ite_or, ite_fl, bnd_id, wipeF, Tg.slots, Tg.slotsL, List.append_nil, noexc_ret, seq_t, seq_l, it_t, it_l, List.length_set])
    rw [pk]
    (try simp -implicitDefEqProofs only [run_def, startF, exs, ex, ev, evs, evo, iter, bnd_r, bnd_fail, bnd_bnd, opt_some, bnd_exc, bnd_raise, bnd_ite, blD_bl, out_rt, out_nx, ex_raise, List.map_cons, List.map_nil, List.cons_append, List.nil_append, List.length_cons, List.length_nil, List.replicate, Nat.reduceSub, Nat.reduceAdd, List.getElem?_cons_zero, List.getElem?_cons_succ, if_true, Bool.false_eq_true, if_false, reduceIte, setF, asg_nm, asg_tp, asgs_nil, asgs_cons, List.set_cons_zero, List.set_cons_succ, Option.bind_some, Nat.reduceLT, gv_i, gv_s, isi_of (ty_s _), isi_of (ty_t _), isi_of (ty_st _), isi_of (ty_ts _), isi_of (ty_i _), isi_of (ty_bi _), isi_of (ty_bb _), isi_of (ty_l _), len_s, len_t, len_l, len_c, pr_tl, pr_tt, pr_lt, pr_ll, cmp_lt, cmp_le, cmp_gt, cmp_ge, eq_s, ne_s, eq_i, ne_i, eq_b, ne_b, add_i, sub_i, mt_s, mtok_s, mtok_l, ite_bl, ite_or, ite_fl, bnd_id, wipeF, Tg.slots, Tg.slotsL, List.append_nil, noexc_ret, seq_t, seq_l, it_t, it_l, List.length_set])
    cases p with
    | word v => rfl
    | one n bs => rfl
    | sm n lo bs =>
      rw [show dIdx (Part.sm n lo bs).enc (.int 2) = some (.int lo) from ix2 ..]
      (try simp -implicitDefEqProofs only [run_def, startF, exs, ex, ev, evs, evo, iter, bnd_r, bnd_fail, bnd_bnd, opt_some, bnd_exc, bnd_raise, bnd_ite, blD_bl, out_rt, out_nx, ex_raise, List.map_cons, List.map_nil, List.cons_append, List.nil_append, List.length_cons, List.length_nil, List.replicate, Nat.reduceSub, Nat.reduceAdd, List.getElem?_cons_zero, List.getElem?_cons_succ, if_true, Bool.false_eq_true, if_false, reduceIte, setF, asg_nm, asg_tp, asgs_nil, asgs_cons, List.set_cons_zero, List.set_cons_succ, Option.bind_some, Nat.reduceLT, gv_i, gv_s, isi_of (ty_s _), isi_of (ty_t _), isi_of (ty_st _), isi_of (ty_ts _), isi_of (ty_i _), isi_of (ty_bi _), isi_of (ty_bb _), isi_of (ty_l _), len_s, len_t, len_l, len_c, pr_tl, pr_tt, pr_lt, pr_ll, cmp_lt, cmp_le, cmp_gt, cmp_ge, eq_s, ne_s, eq_i, ne_i, eq_b, ne_b, add_i, sub_i, mt_s, mtok_s, mtok_l, ite_bl, ite_or, ite_fl, bnd_id, wipeF, Tg.slots, Tg.slotsL, List.append_nil, noexc_ret, seq_t, seq_l, it_t, it_l, List.length_set])
      show (if decide ((0 : Int) < (lo : Int)) = true then ret (some (D.int 1)) else ret none) = ret (if (lo == 0) = true then none else some (D.int 1))
      by_cases e : lo = 0
      · subst e; rfl
      · rw [decide_eq_true (show (0 : Int) < (lo : Int) by omega), beq_eq_false_iff_ne.mpr e]; rfl
theorem c_done (k : Nat) {ps : List Part} {s : Stand} (h : StOk ps s) : sem Δ (k + 1) f_is_done [encT ps, stE s] = ret (.bl (doneB ps s)) := by
  rw [sem_at (F := F_is_done) rfl rfl]
  unfold F_is_done
  cases s with
  | none => unfold stE; (try simp -implicitDefEqProofs only [run_def, startF, exs, ex, ev, evs, evo, iter, bnd_r, bnd_fail, bnd_bnd, opt_some, bnd_exc, bnd_raise, bnd_ite, blD_bl, out_rt, out_nx, ex_raise, List.map_cons, List.map_nil, List.cons_append, List.nil_append, List.length_cons, List.length_nil, List.replicate, Nat.reduceSub, Nat.reduceAdd, List.getElem?_cons_zero, List.getElem?_cons_succ, if_true, Bool.false_eq_true, if_false, reduceIte, setF, asg_nm, asg_tp, asgs_nil, asgs_cons, List.set_cons_zero, List.set_cons_succ, Option.bind_some, Nat.reduceLT, gv_i, gv_s, isi_of (ty_s _), isi_of (ty_t _), isi_of (ty_st _), isi_of (ty_ts _), isi_of (ty_i _), isi_of (ty_bi _), isi_of (ty_bb _), isi_of (ty_l _), len_s, len_t, len_l, len_c, pr_tl, pr_tt, pr_lt, pr_ll, cmp_lt, cmp_le, cmp_gt, cmp_ge, eq_s, ne_s, eq_i, ne_i, eq_b, ne_b, add_i, sub_i, mt_s, mtok_s, mtok_l, ite_bl, ite_or, ite_fl, bnd_id, wipeF, Tg.slots, Tg.slotsL, List.append_nil, noexc_ret, seq_t, seq_l, it_t, it_l, List.length_set]); rfl
  | some q =>
    obtain ⟨i, m⟩ := q
    obtain ⟨p, hp, h1, h2⟩ := h
    unfold stE
    (try simp -implicitDefEqProofs only [run_def, startF, exs, ex, ev, evs, evo, iter, bnd_r, bnd_fail, bnd_bnd, opt_some, bnd_exc, bnd_raise, bnd_ite, blD_bl, out_rt, out_nx, ex_raise, List.map_cons, List.map_nil, List.cons_append, List.nil_append, List.length_cons, List.length_nil, List.replicate, Nat.reduceSub, Nat.reduceAdd, List.getElem?_cons_zero, List.getElem?_cons_succ, if_true, Bool.false_eq_true, if_false, reduceIte, setF, asg_nm, asg_tp, asgs_nil, asgs_cons, List.set_cons_zero, List.set_cons_succ, Option.bind_some, Nat.reduceLT, gv_i, gv_s, isi_of (ty_s _), isi_of (ty_t _), isi_of (ty_st _), isi_of (ty_ts _), isi_of (ty_i _), isi_of (ty_bi _), isi_of (ty_bb _), isi_of (ty_l _), len_s, len_t, len_l, len_c, pr_tl, pr_tt, pr_lt, pr_ll, cmp_lt, cmp_le, cmp_gt, cmp_ge, eq_s, ne_s, eq_i, ne_i, eq_b, ne_b, add_i, sub_i, mt_s, mtok_s, mtok_l, ite_bl, ite_or, ite_fl, bnd_id, wipeF, Tg.slots, Tg.slotsL, List.append_nil, noexc_ret, seq_t, seq_l, it_t, it_l, List.length_set])
    rw [idxT hp, decide_eq_false (show ¬ (i : Int) < 0 by omega)]
    (try simp -implicitDefEqProofs only [run_def, startF, exs, ex, ev, evs, evo, iter, bnd_r, bnd_fail, bnd_bnd, opt_some, bnd_exc, bnd_raise, bnd_ite, blD_bl, out_rt, out_nx, ex_raise, List.map_cons, List.map_nil, List.cons_append, List.nil_append, List.length_cons, List.length_nil, List.replicate, Nat.reduceSub, Nat.reduceAdd, List.getElem?_cons_zero, List.getElem?_cons_succ, if_true, Bool.false_eq_true, if_false, reduceIte, setF, asg_nm, asg_tp, asgs_nil, asgs_cons, List.set_cons_zero, List.set_cons_succ, Option.bind_some, Nat.reduceLT, gv_i, gv_s, isi_of (ty_s _), isi_of (ty_t _), isi_of (ty_st _), isi_of (ty_ts _), isi_of (ty_i _), isi_of (ty_bi _), isi_of (ty_bb _), isi_of (ty_l _), len_s, len_t, len_l, len_c, pr_tl, pr_tt, pr_lt, pr_ll, cmp_lt, cmp_le, cmp_gt, cmp_ge, eq_s, ne_s, eq_i, ne_i, eq_b, ne_b, add_i, sub_i, mt_s, mtok_s, mtok_l, ite_bl, ite_or, ite_fl, bnd_id, wipeF, Tg.slots, Tg.slotsL, List.append_nil, noexc_ret, seq_t, seq_l, it_t, it_l, List.length_set])
    rw [pk]
    (try simp -implicitDefEqProofs only [run_def, startF, exs, ex, ev, evs, evo, iter, bnd_r, bnd_fail, bnd_bnd, opt_some, bnd_exc, bnd_raise, bnd_ite, blD_bl, out_rt, out_nx, ex_raise, List.map_cons, List.map_nil, List.cons_append, List.nil_append, List.length_cons, List.length_nil, List.replicate, Nat.reduceSub, Nat.reduceAdd, List.getElem?_cons_zero, List.getElem?_cons_succ, if_true, Bool.false_eq_true, if_false, reduceIte, setF, asg_nm, asg_tp, asgs_nil, asgs_cons, List.set_cons_zero, List.set_cons_succ, Option.bind_some, Nat.reduceLT, gv_i, gv_s, isi_of (ty_s _), isi_of (ty_t _), isi_of (ty_st _), isi_of (ty_ts _), isi_of (ty_i _), isi_of (ty_bi _), isi_of (ty_bb _), isi_of (ty_l _), len_s, len_t, len_l, len_c, pr_tl, pr_tt, pr_lt, pr_ll, cmp_lt, cmp_le, cmp_gt, cmp_ge, eq_s, ne_s, eq_i, ne_i, eq_b, ne_b, add_i, sub_i, mt_s, mtok_s, mtok_l, ite_bl, ite_or, ite_fl, bnd_id, wipeF, Tg.slots, Tg.slotsL, List.append_nil, noexc_ret, seq_t, seq_l, it_t, it_l, List.length_set])
    show _ = ret (D.bl (match ps[i]? with | some (.sm _ lo _) => decide (lo ≤ m) | _ => true))
    rw [hp]
    cases p with
    | word v => rfl
    | one n bs => rfl
    | sm n lo bs =>
      rw [show dIdx (Part.sm n lo bs).enc (.int 2) = some (.int lo) from ix2 ..]
      (try simp -implicitDefEqProofs only [run_def, startF, exs, ex, ev, evs, evo, iter, bnd_r, bnd_fail, bnd_bnd, opt_some, bnd_exc, bnd_raise, bnd_ite, blD_bl, out_rt, out_nx, ex_raise, List.map_cons, List.map_nil, List.cons_append, List.nil_append, List.length_cons, List.length_nil, List.replicate, Nat.reduceSub, Nat.reduceAdd, List.getElem?_cons_zero, List.getElem?_cons_succ, if_true, Bool.false_eq_true, if_false, reduceIte, setF, asg_nm, asg_tp, asgs_nil, asgs_cons, List.set_cons_zero, List.set_cons_succ, Option.bind_some, Nat.reduceLT, gv_i, gv_s, isi_of (ty_s _), isi_of (ty_t _), isi_of (ty_st _), isi_of (ty_ts _), isi_of (ty_i _), isi_of (ty_bi _), isi_of (ty_bb _), isi_of (ty_l _), len_s, len_t, len_l, len_c, pr_tl, pr_tt, pr_lt, pr_ll, cmp_lt, cmp_le, cmp_gt, cmp_ge, eq_s, ne_s, eq_i, ne_i, eq_b, ne_b, add_i, sub_i, mt_s, mtok_s, mtok_l, ite_bl, ite_or, ite_fl, bnd_id, wipeF, Tg.slots, Tg.slotsL, List.append_nil, noexc_ret, seq_t, seq_l, it_t, it_l, List.length_set])
      show ret _ = _
      have : decide ((lo : Int) ≤ (m : Int)) = decide (lo ≤ m) := by
        by_cases e : lo ≤ m
        · rw [decide_eq_true e, decide_eq_true (by omega)]
        · rw [decide_eq_false e, decide_eq_false (by omega)]
      rw [this]
      rfl
theorem c_enough (k : Nat) {ps : List Part} {s : Stand} (h : StOk ps s) : sem Δ (k + 1) f_law_enough [encT ps, stE s] = ret (.bl (doneB ps s)) := by
  rw [sem_at (F := F_law_enough) rfl rfl]
  unfold F_law_enough
  cases s with
  | none => unfold stE; (try simp -implicitDefEqProofs only [run_def, startF, exs, ex, ev, evs, evo, iter, bnd_r, bnd_fail, bnd_bnd, opt_some, bnd_exc, bnd_raise, bnd_ite, blD_bl, out_rt, out_nx, ex_raise, List.map_cons, List.map_nil, List.cons_append, List.nil_append, List.length_cons, List.length_nil, List.replicate, Nat.reduceSub, Nat.reduceAdd, List.getElem?_cons_zero, List.getElem?_cons_succ, if_true, Bool.false_eq_true, if_false, reduceIte, setF, asg_nm, asg_tp, asgs_nil, asgs_cons, List.set_cons_zero, List.set_cons_succ, Option.bind_some, Nat.reduceLT, gv_i, gv_s, isi_of (ty_s _), isi_of (ty_t _), isi_of (ty_st _), isi_of (ty_ts _), isi_of (ty_i _), isi_of (ty_bi _), isi_of (ty_bb _), isi_of (ty_l _), len_s, len_t, len_l, len_c, pr_tl, pr_tt, pr_lt, pr_ll, cmp_lt, cmp_le, cmp_gt, cmp_ge, eq_s, ne_s, eq_i, ne_i, eq_b, ne_b, add_i, sub_i, mt_s, mtok_s, mtok_l, ite_bl, ite_or, ite_fl, bnd_id, wipeF, Tg.slots, Tg.slotsL, List.append_nil, noexc_ret, seq_t, seq_l, it_t, it_l, List.length_set]); rfl
  | some q =>
    obtain ⟨i, m⟩ := q
    obtain ⟨p, hp, h1, h2⟩ := h
    unfold stE
    (try simp -implicitDefEqProofs only [run_def, startF, exs, ex, ev, evs, evo, iter, bnd_r, bnd_fail, bnd_bnd, opt_some, bnd_exc, bnd_raise, bnd_ite, blD_bl, out_rt, out_nx, ex_raise, List.map_cons, List.map_nil, List.cons_append, List.nil_append, List.length_cons, List.length_nil, List.replicate, Nat.reduceSub, Nat.reduceAdd, List.getElem?_cons_zero, List.getElem?_cons_succ, if_true, Bool.false_eq_true, if_false, reduceIte, setF, asg_nm, asg_tp, asgs_nil, asgs_cons, List.set_cons_zero, List.set_cons_succ, Option.bind_some, Nat.reduceLT, gv_i, gv_s, isi_of (ty_s _), isi_of (ty_t _), isi_of (ty_st _), isi_of (ty_ts _), isi_of (ty_i _), isi_of (ty_bi _), isi_of (ty_bb _), isi_of (ty_l _), len_s, len_t, len_l, len_c, pr_tl, pr_tt, pr_lt, pr_ll, cmp_lt, cmp_le, cmp_gt, cmp_ge, eq_s, ne_s, eq_i, ne_i, eq_b, ne_b, add_i, sub_i, mt_s, mtok_s, mtok_l, ite_bl, ite_or, ite_fl, bnd_id, wipeF, Tg.slots, Tg.slotsL, List.append_nil, noexc_ret, seq_t, seq_l, it_t, it_l, List.length_set])
    rw [ix0, ix1]
    (try simp -implicitDefEqProofs only [run_def, startF, exs, ex, ev, evs, evo, iter, bnd_r, bnd_fail, bnd_bnd, opt_some, bnd_exc, bnd_raise, bnd_ite, blD_bl, out_rt, out_nx, ex_raise, List.map_cons, List.map_nil, List.cons_append, List.nil_append, List.length_cons, List.length_nil, List.replicate, Nat.reduceSub, Nat.reduceAdd, List.getElem?_cons_zero, List.getElem?_cons_succ, if_true, Bool.false_eq_true, if_false, reduceIte, setF, asg_nm, asg_tp, asgs_nil, asgs_cons, List.set_cons_zero, List.set_cons_succ, Option.bind_some, Nat.reduceLT, gv_i, gv_s, isi_of (ty_s _), isi_of (ty_t _), isi_of (ty_st _), isi_of (ty_ts _), isi_of (ty_i _), isi_of (ty_bi _), isi_of (ty_bb _), isi_of (ty_l _), len_s, len_t, len_l, len_c, pr_tl, pr_tt, pr_lt, pr_ll, cmp_lt, cmp_le, cmp_gt, cmp_ge, eq_s, ne_s, eq_i, ne_i, eq_b, ne_b, add_i, sub_i, mt_s, mtok_s, mtok_l, ite_bl, ite_or, ite_fl, bnd_id, wipeF, Tg.slots, Tg.slotsL, List.append_nil, noexc_ret, seq_t, seq_l, it_t, it_l, List.length_set])
    rw [idxT hp, beq_eq_false_iff_ne.mpr (show (i : Int) ≠ -1 by omega)]
    (try simp -implicitDefEqProofs only [run_def, startF, exs, ex, ev, evs, evo, iter, bnd_r, bnd_fail, bnd_bnd, opt_some, bnd_exc, bnd_raise, bnd_ite, blD_bl, out_rt, out_nx, ex_raise, List.map_cons, List.map_nil, List.cons_append, List.nil_append, List.length_cons, List.length_nil, List.replicate, Nat.reduceSub, Nat.reduceAdd, List.getElem?_cons_zero, List.getElem?_cons_succ, if_true, Bool.false_eq_true, if_false, reduceIte, setF, asg_nm, asg_tp, asgs_nil, asgs_cons, List.set_cons_zero, List.set_cons_succ, Option.bind_some, Nat.reduceLT, gv_i, gv_s, isi_of (ty_s _), isi_of (ty_t _), isi_of (ty_st _), isi_of (ty_ts _), isi_of (ty_i _), isi_of (ty_bi _), isi_of (ty_bb _), isi_of (ty_l _), len_s, len_t, len_l, len_c, pr_tl, pr_tt, pr_lt, pr_ll, cmp_lt, cmp_le, cmp_gt, cmp_ge, eq_s, ne_s, eq_i, ne_i, eq_b, ne_b, add_i, sub_i, mt_s, mtok_s, mtok_l, ite_bl, ite_or, ite_fl, bnd_id, wipeF, Tg.slots, Tg.slotsL, List.append_nil, noexc_ret, seq_t, seq_l, it_t, it_l, List.length_set])
    rw [pk]
    (try simp -implicitDefEqProofs only [run_def, startF, exs, ex, ev, evs, evo, iter, bnd_r, bnd_fail, bnd_bnd, opt_some, bnd_exc, bnd_raise, bnd_ite, blD_bl, out_rt, out_nx, ex_raise, List.map_cons, List.map_nil, List.cons_append, List.nil_append, List.length_cons, List.length_nil, List.replicate, Nat.reduceSub, Nat.reduceAdd, List.getElem?_cons_zero, List.getElem?_cons_succ, if_true, Bool.false_eq_true, if_false, reduceIte, setF, asg_nm, asg_tp, asgs_nil, asgs_cons, List.set_cons_zero, List.set_cons_succ, Option.bind_some, Nat.reduceLT, gv_i, gv_s, isi_of (ty_s _), isi_of (ty_t _), isi_of (ty_st _), isi_of (ty_ts _), isi_of (ty_i _), isi_of (ty_bi _), isi_of (ty_bb _), isi_of (ty_l _), len_s, len_t, len_l, len_c, pr_tl, pr_tt, pr_lt, pr_ll, cmp_lt, cmp_le, cmp_gt, cmp_ge, eq_s, ne_s, eq_i, ne_i, eq_b, ne_b, add_i, sub_i, mt_s, mtok_s, mtok_l, ite_bl, ite_or, ite_fl, bnd_id, wipeF, Tg.slots, Tg.slotsL, List.append_nil, noexc_ret, seq_t, seq_l, it_t, it_l, List.length_set])
    show _ = ret (D.bl (match ps[i]? with | some (.sm _ lo _) => decide (lo ≤ m) | _ => true))
    rw [hp]
    cases p with
    | word v => rfl
    | one n bs => rfl
    | sm n lo bs =>
      rw [show dIdx (Part.sm n lo bs).enc (.int 2) = some (.int lo) from ix2 ..]
      (try simp -implicitDefEqProofs only [run_def, startF, exs, ex, ev, evs, evo, iter, bnd_r, bnd_fail, bnd_bnd, opt_some, bnd_exc, bnd_raise, bnd_ite, blD_bl, out_rt, out_nx, ex_raise, List.map_cons, List.map_nil, List.cons_append, List.nil_append, List.length_cons, List.length_nil, List.replicate, Nat.reduceSub, Nat.reduceAdd, List.getElem?_cons_zero, List.getElem?_cons_succ, if_true, Bool.false_eq_true, if_false, reduceIte, setF, asg_nm, asg_tp, asgs_nil, asgs_cons, List.set_cons_zero, List.set_cons_succ, Option.bind_some, Nat.reduceLT, gv_i, gv_s, isi_of (ty_s _), isi_of (ty_t _), isi_of (ty_st _), isi_of (ty_ts _), isi_of (ty_i _), isi_of (ty_bi _), isi_of (ty_bb _), isi_of (ty_l _), len_s, len_t, len_l, len_c, pr_tl, pr_tt, pr_lt, pr_ll, cmp_lt, cmp_le, cmp_gt, cmp_ge, eq_s, ne_s, eq_i, ne_i, eq_b, ne_b, add_i, sub_i, mt_s, mtok_s, mtok_l, ite_bl, ite_or, ite_fl, bnd_id, wipeF, Tg.slots, Tg.slotsL, List.append_nil, noexc_ret, seq_t, seq_l, it_t, it_l, List.length_set])
      show ret _ = _
      have : decide ((lo : Int) ≤ (m : Int)) = decide (lo ≤ m) := by
        by_cases e : lo ≤ m
        · rw [decide_eq_true e, decide_eq_true (by omega)]
        · rw [decide_eq_false e, decide_eq_false (by omega)]
      rw [this]
      rfl
/-! ### where a word leads -/
def mvE (q : Nat × Nat) : D := .tup [.int (q.1 : Nat), .int (q.2 : Nat)]
def cnd (ps : List Part) (a : Nat) (w : Str) (k : Nat) : Bool := skipB ps a (a + k) && (match ps[a + k]? with | some p => takesB p w | none => false)
def goalsP (ps : List Part) (a : Nat) (w : Str) : List (Nat × Nat) := (List.range (ps.length - a)).filterMap fun k => if cnd ps a w k = true then some (a + k, 1) else none
def stayP (ps : List Part) (w : Str) : Stand → List (Nat × Nat)
  | none => []
  | some (i, m) => match ps[i]? with
    | some p => if (p.isS && takesB p w) = true then [(i, min (capN p) (m + 1))] else []
    | none => []
def movesP (ps : List Part) (s : Stand) (w : Str) : List (Nat × Nat) := stayP ps w s ++ (if doneB ps s = true then goalsP ps s.nxt w else [])
theorem rng2_nat {a n : Nat} (h : n ≤ 1000000) (ha : a ≤ 1000000) : rngD (a : Int) (n : Int) = some ((List.range (n - a)).map fun (k : Nat) => D.int ((a + k : Nat) : Int)) := by
  unfold rngD
  rw [if_pos (by refine ⟨by omega, by omega, by omega, by omega, by omega⟩)]
  rw [show ((n : Int) - (a : Int)).toNat = n - a by omega]
  congr 1
theorem fold_pair {α β γ : Type} (t : α → Bool) (h : α → β) (g : α → γ) : ∀ (l : List α) (a : List β) (x : γ), (l.foldl (fun (s : List β × γ) y => (if t y = true then s.1 ++ [h y] else s.1, g y)) (a, x)).1 = a ++ l.filterMap fun y => if t y = true then some (h y) else none
  | [], a, x => by simp
  | y :: l, a, x => by
    rw [List.foldl_cons, fold_pair t h g l, List.filterMap_cons]
    cases t y <;> simp
theorem map_fm {α β γ : Type} (f : β → γ) (g : α → Option β) (l : List α) : (l.filterMap g).map f = l.filterMap fun x => (g x).map f := by
  rw [List.map_filterMap]
theorem goals_fm (ps : List Part) (a : Nat) (w : Str) : (goalsP ps a w).map mvE = (List.range (ps.length - a)).filterMap fun k => if cnd ps a w k = true then some (D.tup [.int ((a + k : Nat) : Int), .int 1]) else none := by
  unfold goalsP
  rw [List.map_filterMap]
  congr 1
  funext k
  cases cnd ps a w k <;> rfl
theorem lenT' (ps : List Part) : dPrim .len [encT ps] = some (.int ps.length) := by
  unfold encT
  rw [len_t, List.length_map]
theorem min2_nat (a b : Nat) : dPrim .min2 [.int (a : Int), .int (b : Int)] = some (.int ((min a b : Nat) : Int)) := by
  show some (D.int (if (b : Int) < (a : Int) then (b : Int) else (a : Int))) = _
  split
  · rw [Nat.min_eq_right (by omega)]
  · rw [Nat.min_eq_left (by omega)]
/-- a loop that gathers goals -/
theorem goals_then (rho : List D × Option Slot → Fr) (t : Nat → Bool) {a n : Nat} {body : Fr → D → M Flw} {K : Flw → M D} {r : M D} (made : List D) (hm : made.length ≤ 10) (x : Option Slot) (hn : n ≤ 6)
    (hb : ∀ (made : List D) (x : Option Slot) (q : Nat), made.length ≤ 20 → q < n → body (rho (made, x)) (.int ((a + q : Nat) : Int)) = ret (.nx (rho (if t q = true then made ++ [D.tup [.int ((a + q : Nat) : Int), .int 1]] else made, some (.sh (.int ((a + q : Nat) : Int)))))))
    (hk : ∀ x, K (.nx (rho (made ++ (List.range n).filterMap fun q => if t q = true then some (D.tup [.int ((a + q : Nat) : Int), .int 1]) else none, x))) = r) :
    bnd (forL body ((List.range n).map fun (k : Nat) => D.int ((a + k : Nat) : Int)) (rho (made, x))) K = r := by
  have go := (forL_map rho (fun (k : Nat) => D.int ((a + k : Nat) : Int)) (fun s q => (if t q = true then s.1 ++ [D.tup [.int ((a + q : Nat) : Int), .int 1]] else s.1, some (.sh (.int ((a + q : Nat) : Int))))) (fun i s => s.1.length ≤ 10 + i) 6 (List.range n) 0 (made, x) (by simp; omega) (by simpa using hm) (body := body) ?_).1
  · rw [bnd_for go K]
    have e := fold_pair t (fun q => D.tup [.int ((a + q : Nat) : Int), .int 1]) (fun q => some (Slot.sh (.int ((a + q : Nat) : Int)))) (List.range n) made x
    rw [← hk ((List.range n).foldl (fun (s : List D × Option Slot) q => (if t q = true then s.1 ++ [D.tup [.int ((a + q : Nat) : Int), .int 1]] else s.1, some (Slot.sh (.int ((a + q : Nat) : Int))))) (made, x)).2, ← e]
  · rintro j ⟨made, x⟩ q hj mq hs
    have hs : made.length ≤ 10 + j := hs
    refine ⟨hb made x q (by omega) (List.mem_range.mp mq), ?_⟩
    show (if t q = true then made ++ [_] else made).length ≤ _
    cases t q
    · simp only [Bool.false_eq_true, if_false]; omega
    · simp only [if_true, List.length_append, List.length_singleton]; omega
theorem cnd_at {ps : List Part} {a q : Nat} (w : Str) (h : a + q < ps.length) : ∃ p, ps[a + q]? = some p ∧ cnd ps a w q = (skipB ps a (a + q) && takesB p w) := by
  have hp : ps[a + q]? = some (ps[a + q]'h) := List.getElem?_eq_getElem h
  exact ⟨_, hp, by unfold cnd; rw [hp]⟩
theorem c_moves_at (k : Nat) {ps : List Part} (hl : ps.length ≤ 6) {s : Stand} (h : StOk ps s) (w : Str) : sem Δ (k + 2) f_moves_at [encT ps, stE s, .str w] = ret (.lst ((movesP ps s w).map mvE)) := by
  rw [sem_at (F := F_moves_at) rfl rfl]
  unfold F_moves_at
  have hd := c_done k h
  cases s with
  | none =>
    unfold stE at hd ⊢
    (try simp -implicitDefEqProofs only [run_def, startF, exs, ex, ev, evs, evo, iter, bnd_r, bnd_fail, bnd_bnd, opt_some, bnd_exc, bnd_raise, bnd_ite, blD_bl, out_rt, out_nx, ex_raise, List.map_cons, List.map_nil, List.cons_append, List.nil_append, List.length_cons, List.length_nil, List.replicate, Nat.reduceSub, Nat.reduceAdd, List.getElem?_cons_zero, List.getElem?_cons_succ, if_true, Bool.false_eq_true, if_false, reduceIte, setF, asg_nm, asg_tp, asgs_nil, asgs_cons, List.set_cons_zero, List.set_cons_succ, Option.bind_some, Nat.reduceLT, gv_i, gv_s, isi_of (ty_s _), isi_of (ty_t _), isi_of (ty_st _), isi_of (ty_ts _), isi_of (ty_i _), isi_of (ty_bi _), isi_of (ty_bb _), isi_of (ty_l _), len_s, len_t, len_l, len_c, pr_tl, pr_tt, pr_lt, pr_ll, cmp_lt, cmp_le, cmp_gt, cmp_ge, eq_s, ne_s, eq_i, ne_i, eq_b, ne_b, add_i, sub_i, mt_s, mtok_s, mtok_l, ite_bl, ite_or, ite_fl, bnd_id, wipeF, Tg.slots, Tg.slotsL, List.append_nil, noexc_ret, seq_t, seq_l, it_t, it_l, List.length_set])
    rw [hd]
    (try simp -implicitDefEqProofs only [run_def, startF, exs, ex, ev, evs, evo, iter, bnd_r, bnd_fail, bnd_bnd, opt_some, bnd_exc, bnd_raise, bnd_ite, blD_bl, out_rt, out_nx, ex_raise, List.map_cons, List.map_nil, List.cons_append, List.nil_append, List.length_cons, List.length_nil, List.replicate, Nat.reduceSub, Nat.reduceAdd, List.getElem?_cons_zero, List.getElem?_cons_succ, if_true, Bool.false_eq_true, if_false, reduceIte, setF, asg_nm, asg_tp, asgs_nil, asgs_cons, List.set_cons_zero, List.set_cons_succ, Option.bind_some, Nat.reduceLT, gv_i, gv_s, isi_of (ty_s _), isi_of (ty_t _), isi_of (ty_st _), isi_of (ty_ts _), isi_of (ty_i _), isi_of (ty_bi _), isi_of (ty_bb _), isi_of (ty_l _), len_s, len_t, len_l, len_c, pr_tl, pr_tt, pr_lt, pr_ll, cmp_lt, cmp_le, cmp_gt, cmp_ge, eq_s, ne_s, eq_i, ne_i, eq_b, ne_b, add_i, sub_i, mt_s, mtok_s, mtok_l, ite_bl, ite_or, ite_fl, bnd_id, wipeF, Tg.slots, Tg.slotsL, List.append_nil, noexc_ret, seq_t, seq_l, it_t, it_l, List.length_set])
    rw [lenT']
    (try simp -implicitDefEqProofs only [run_def, startF, exs, ex, ev, evs, evo, iter, bnd_r, bnd_fail, bnd_bnd, opt_some, bnd_exc, bnd_raise, bnd_ite, blD_bl, out_rt, out_nx, ex_raise, List.map_cons, List.map_nil, List.cons_append, List.nil_append, List.length_cons, List.length_nil, List.replicate, Nat.reduceSub, Nat.reduceAdd, List.getElem?_cons_zero, List.getElem?_cons_succ, if_true, Bool.false_eq_true, if_false, reduceIte, setF, asg_nm, asg_tp, asgs_nil, asgs_cons, List.set_cons_zero, List.set_cons_succ, Option.bind_some, Nat.reduceLT, gv_i, gv_s, isi_of (ty_s _), isi_of (ty_t _), isi_of (ty_st _), isi_of (ty_ts _), isi_of (ty_i _), isi_of (ty_bi _), isi_of (ty_bb _), isi_of (ty_l _), len_s, len_t, len_l, len_c, pr_tl, pr_tt, pr_lt, pr_ll, cmp_lt, cmp_le, cmp_gt, cmp_ge, eq_s, ne_s, eq_i, ne_i, eq_b, ne_b, add_i, sub_i, mt_s, mtok_s, mtok_l, ite_bl, ite_or, ite_fl, bnd_id, wipeF, Tg.slots, Tg.slotsL, List.append_nil, noexc_ret, seq_t, seq_l, it_t, it_l, List.length_set])
    rw [show doneB ps none = true from rfl, show (-1 : Int) + 1 = ((0 : Nat) : Int) from rfl, rng2_nat (by omega) (by omega)]
    simp only [show decide ((0 : Int) ≤ -1) = false from rfl, if_true]
    (try simp -implicitDefEqProofs only [run_def, startF, exs, ex, ev, evs, evo, iter, bnd_r, bnd_fail, bnd_bnd, opt_some, bnd_exc, bnd_raise, bnd_ite, blD_bl, out_rt, out_nx, ex_raise, List.map_cons, List.map_nil, List.cons_append, List.nil_append, List.length_cons, List.length_nil, List.replicate, Nat.reduceSub, Nat.reduceAdd, List.getElem?_cons_zero, List.getElem?_cons_succ, if_true, Bool.false_eq_true, if_false, reduceIte, setF, asg_nm, asg_tp, asgs_nil, asgs_cons, List.set_cons_zero, List.set_cons_succ, Option.bind_some, Nat.reduceLT, gv_i, gv_s, isi_of (ty_s _), isi_of (ty_t _), isi_of (ty_st _), isi_of (ty_ts _), isi_of (ty_i _), isi_of (ty_bi _), isi_of (ty_bb _), isi_of (ty_l _), len_s, len_t, len_l, len_c, pr_tl, pr_tt, pr_lt, pr_ll, cmp_lt, cmp_le, cmp_gt, cmp_ge, eq_s, ne_s, eq_i, ne_i, eq_b, ne_b, add_i, sub_i, mt_s, mtok_s, mtok_l, ite_bl, ite_or, ite_fl, bnd_id, wipeF, Tg.slots, Tg.slotsL, List.append_nil, noexc_ret, seq_t, seq_l, it_t, it_l, List.length_set])
    refine goals_then (fun s => [some (.sh (encT ps)), some (.sh (.tup [.int (-1), .int 0])), some (.sh (.str w)), some (.ow (.lst s.1)), some (.sh (.int (-1))), some (.sh (.int 0)), s.2]) (fun q => cnd ps 0 w q) [] (by decide) none (by omega) (fun made x q hm hq => ?_) fun x => ?_
    · obtain ⟨p, hp, hc⟩ := cnd_at (ps := ps) (a := 0) (q := q) w (by omega)
      (try simp -implicitDefEqProofs only [run_def, startF, exs, ex, ev, evs, evo, iter, bnd_r, bnd_fail, bnd_bnd, opt_some, bnd_exc, bnd_raise, bnd_ite, blD_bl, out_rt, out_nx, ex_raise, List.map_cons, List.map_nil, List.cons_append, List.nil_append, List.length_cons, List.length_nil, List.replicate, Nat.reduceSub, Nat.reduceAdd, List.getElem?_cons_zero, List.getElem?_cons_succ, if_true, Bool.false_eq_true, if_false, reduceIte, setF, asg_nm, asg_tp, asgs_nil, asgs_cons, List.set_cons_zero, List.set_cons_succ, Option.bind_some, Nat.reduceLT, gv_i, gv_s, isi_of (ty_s _), isi_of (ty_t _), isi_of (ty_st _), isi_of (ty_ts _), isi_of (ty_i _), isi_of (ty_bi _), isi_of (ty_bb _), isi_of (ty_l _), len_s, len_t, len_l, len_c, pr_tl, pr_tt, pr_lt, pr_ll, cmp_lt, cmp_le, cmp_gt, cmp_ge, eq_s, ne_s, eq_i, ne_i, eq_b, ne_b, add_i, sub_i, mt_s, mtok_s, mtok_l, ite_bl, ite_or, ite_fl, bnd_id, wipeF, Tg.slots, Tg.slotsL, List.append_nil, noexc_ret, seq_t, seq_l, it_t, it_l, List.length_set])
      rw [show (-1 : Int) + 1 = ((0 : Nat) : Int) from rfl, c_skip k hl]
      (try simp -implicitDefEqProofs only [run_def, startF, exs, ex, ev, evs, evo, iter, bnd_r, bnd_fail, bnd_bnd, opt_some, bnd_exc, bnd_raise, bnd_ite, blD_bl, out_rt, out_nx, ex_raise, List.map_cons, List.map_nil, List.cons_append, List.nil_append, List.length_cons, List.length_nil, List.replicate, Nat.reduceSub, Nat.reduceAdd, List.getElem?_cons_zero, List.getElem?_cons_succ, if_true, Bool.false_eq_true, if_false, reduceIte, setF, asg_nm, asg_tp, asgs_nil, asgs_cons, List.set_cons_zero, List.set_cons_succ, Option.bind_some, Nat.reduceLT, gv_i, gv_s, isi_of (ty_s _), isi_of (ty_t _), isi_of (ty_st _), isi_of (ty_ts _), isi_of (ty_i _), isi_of (ty_bi _), isi_of (ty_bb _), isi_of (ty_l _), len_s, len_t, len_l, len_c, pr_tl, pr_tt, pr_lt, pr_ll, cmp_lt, cmp_le, cmp_gt, cmp_ge, eq_s, ne_s, eq_i, ne_i, eq_b, ne_b, add_i, sub_i, mt_s, mtok_s, mtok_l, ite_bl, ite_or, ite_fl, bnd_id, wipeF, Tg.slots, Tg.slotsL, List.append_nil, noexc_ret, seq_t, seq_l, it_t, it_l, List.length_set])
      rw [idxT hp]
      (try simp -implicitDefEqProofs only [run_def, startF, exs, ex, ev, evs, evo, iter, bnd_r, bnd_fail, bnd_bnd, opt_some, bnd_exc, bnd_raise, bnd_ite, blD_bl, out_rt, out_nx, ex_raise, List.map_cons, List.map_nil, List.cons_append, List.nil_append, List.length_cons, List.length_nil, List.replicate, Nat.reduceSub, Nat.reduceAdd, List.getElem?_cons_zero, List.getElem?_cons_succ, if_true, Bool.false_eq_true, if_false, reduceIte, setF, asg_nm, asg_tp, asgs_nil, asgs_cons, List.set_cons_zero, List.set_cons_succ, Option.bind_some, Nat.reduceLT, gv_i, gv_s, isi_of (ty_s _), isi_of (ty_t _), isi_of (ty_st _), isi_of (ty_ts _), isi_of (ty_i _), isi_of (ty_bi _), isi_of (ty_bb _), isi_of (ty_l _), len_s, len_t, len_l, len_c, pr_tl, pr_tt, pr_lt, pr_ll, cmp_lt, cmp_le, cmp_gt, cmp_ge, eq_s, ne_s, eq_i, ne_i, eq_b, ne_b, add_i, sub_i, mt_s, mtok_s, mtok_l, ite_bl, ite_or, ite_fl, bnd_id, wipeF, Tg.slots, Tg.slotsL, List.append_nil, noexc_ret, seq_t, seq_l, it_t, it_l, List.length_set])
      rw [c_takes, if_pos (show made.length < sizeLine by rw [sizeLine_eq]; omega), hc]
      cases skipB ps 0 (0 + q) <;> cases takesB p w <;> rfl
    · (try simp -implicitDefEqProofs only [run_def, startF, exs, ex, ev, evs, evo, iter, bnd_r, bnd_fail, bnd_bnd, opt_some, bnd_exc, bnd_raise, bnd_ite, blD_bl, out_rt, out_nx, ex_raise, List.map_cons, List.map_nil, List.cons_append, List.nil_append, List.length_cons, List.length_nil, List.replicate, Nat.reduceSub, Nat.reduceAdd, List.getElem?_cons_zero, List.getElem?_cons_succ, if_true, Bool.false_eq_true, if_false, reduceIte, setF, asg_nm, asg_tp, asgs_nil, asgs_cons, List.set_cons_zero, List.set_cons_succ, Option.bind_some, Nat.reduceLT, gv_i, gv_s, isi_of (ty_s _), isi_of (ty_t _), isi_of (ty_st _), isi_of (ty_ts _), isi_of (ty_i _), isi_of (ty_bi _), isi_of (ty_bb _), isi_of (ty_l _), len_s, len_t, len_l, len_c, pr_tl, pr_tt, pr_lt, pr_ll, cmp_lt, cmp_le, cmp_gt, cmp_ge, eq_s, ne_s, eq_i, ne_i, eq_b, ne_b, add_i, sub_i, mt_s, mtok_s, mtok_l, ite_bl, ite_or, ite_fl, bnd_id, wipeF, Tg.slots, Tg.slotsL, List.append_nil, noexc_ret, seq_t, seq_l, it_t, it_l, List.length_set])
      rw [← goals_fm]
      rfl
  | some q =>
    obtain ⟨i, m⟩ := q
    obtain ⟨p, hp, h1, h2⟩ := h
    have hi : i < ps.length := (List.getElem?_eq_some_iff.mp hp).1
    unfold stE at hd ⊢
    (try simp -implicitDefEqProofs only [run_def, startF, exs, ex, ev, evs, evo, iter, bnd_r, bnd_fail, bnd_bnd, opt_some, bnd_exc, bnd_raise, bnd_ite, blD_bl, out_rt, out_nx, ex_raise, List.map_cons, List.map_nil, List.cons_append, List.nil_append, List.length_cons, List.length_nil, List.replicate, Nat.reduceSub, Nat.reduceAdd, List.getElem?_cons_zero, List.getElem?_cons_succ, if_true, Bool.false_eq_true, if_false, reduceIte, setF, asg_nm, asg_tp, asgs_nil, asgs_cons, List.set_cons_zero, List.set_cons_succ, Option.bind_some, Nat.reduceLT, gv_i, gv_s, isi_of (ty_s _), isi_of (ty_t _), isi_of (ty_st _), isi_of (ty_ts _), isi_of (ty_i _), isi_of (ty_bi _), isi_of (ty_bb _), isi_of (ty_l _), len_s, len_t, len_l, len_c, pr_tl, pr_tt, pr_lt, pr_ll, cmp_lt, cmp_le, cmp_gt, cmp_ge, eq_s, ne_s, eq_i, ne_i, eq_b, ne_b, add_i, sub_i, mt_s, mtok_s, mtok_l, ite_bl, ite_or, ite_fl, bnd_id, wipeF, Tg.slots, Tg.slotsL, List.append_nil, noexc_ret, seq_t, seq_l, it_t, it_l, List.length_set])
    rw [hd, idxT hp, decide_eq_true (show (0 : Int) ≤ (i : Int) by omega)]
    (try simp -implicitDefEqProofs only [run_def, startF, exs, ex, ev, evs, evo, iter, bnd_r, bnd_fail, bnd_bnd, opt_some, bnd_exc, bnd_raise, bnd_ite, blD_bl, out_rt, out_nx, ex_raise, List.map_cons, List.map_nil, List.cons_append, List.nil_append, List.length_cons, List.length_nil, List.replicate, Nat.reduceSub, Nat.reduceAdd, List.getElem?_cons_zero, List.getElem?_cons_succ, if_true, Bool.false_eq_true, if_false, reduceIte, setF, asg_nm, asg_tp, asgs_nil, asgs_cons, List.set_cons_zero, List.set_cons_succ, Option.bind_some, Nat.reduceLT, gv_i, gv_s, isi_of (ty_s _), isi_of (ty_t _), isi_of (ty_st _), isi_of (ty_ts _), isi_of (ty_i _), isi_of (ty_bi _), isi_of (ty_bb _), isi_of (ty_l _), len_s, len_t, len_l, len_c, pr_tl, pr_tt, pr_lt, pr_ll, cmp_lt, cmp_le, cmp_gt, cmp_ge, eq_s, ne_s, eq_i, ne_i, eq_b, ne_b, add_i, sub_i, mt_s, mtok_s, mtok_l, ite_bl, ite_or, ite_fl, bnd_id, wipeF, Tg.slots, Tg.slotsL, List.append_nil, noexc_ret, seq_t, seq_l, it_t, it_l, List.length_set])
    rw [pk]
    (try simp -implicitDefEqProofs only [run_def, startF, exs, ex, ev, evs, evo, iter, bnd_r, bnd_fail, bnd_bnd, opt_some, bnd_exc, bnd_raise, bnd_ite, blD_bl, out_rt, out_nx, ex_raise, List.map_cons, List.map_nil, List.cons_append, List.nil_append, List.length_cons, List.length_nil, List.replicate, Nat.reduceSub, Nat.reduceAdd, List.getElem?_cons_zero, List.getElem?_cons_succ, if_true, Bool.false_eq_true, if_false, reduceIte, setF, asg_nm, asg_tp, asgs_nil, asgs_cons, List.set_cons_zero, List.set_cons_succ, Option.bind_some, Nat.reduceLT, gv_i, gv_s, isi_of (ty_s _), isi_of (ty_t _), isi_of (ty_st _), isi_of (ty_ts _), isi_of (ty_i _), isi_of (ty_bi _), isi_of (ty_bb _), isi_of (ty_l _), len_s, len_t, len_l, len_c, pr_tl, pr_tt, pr_lt, pr_ll, cmp_lt, cmp_le, cmp_gt, cmp_ge, eq_s, ne_s, eq_i, ne_i, eq_b, ne_b, add_i, sub_i, mt_s, mtok_s, mtok_l, ite_bl, ite_or, ite_fl, bnd_id, wipeF, Tg.slots, Tg.slotsL, List.append_nil, noexc_ret, seq_t, seq_l, it_t, it_l, List.length_set])
    rw [kS, c_takes, c_most]
    (try simp -implicitDefEqProofs only [run_def, startF, exs, ex, ev, evs, evo, iter, bnd_r, bnd_fail, bnd_bnd, opt_some, bnd_exc, bnd_raise, bnd_ite, blD_bl, out_rt, out_nx, ex_raise, List.map_cons, List.map_nil, List.cons_append, List.nil_append, List.length_cons, List.length_nil, List.replicate, Nat.reduceSub, Nat.reduceAdd, List.getElem?_cons_zero, List.getElem?_cons_succ, if_true, Bool.false_eq_true, if_false, reduceIte, setF, asg_nm, asg_tp, asgs_nil, asgs_cons, List.set_cons_zero, List.set_cons_succ, Option.bind_some, Nat.reduceLT, gv_i, gv_s, isi_of (ty_s _), isi_of (ty_t _), isi_of (ty_st _), isi_of (ty_ts _), isi_of (ty_i _), isi_of (ty_bi _), isi_of (ty_bb _), isi_of (ty_l _), len_s, len_t, len_l, len_c, pr_tl, pr_tt, pr_lt, pr_ll, cmp_lt, cmp_le, cmp_gt, cmp_ge, eq_s, ne_s, eq_i, ne_i, eq_b, ne_b, add_i, sub_i, mt_s, mtok_s, mtok_l, ite_bl, ite_or, ite_fl, bnd_id, wipeF, Tg.slots, Tg.slotsL, List.append_nil, noexc_ret, seq_t, seq_l, it_t, it_l, List.length_set])
    rw [show (m : Int) + 1 = ((m + 1 : Nat) : Int) by omega, min2_nat, lenT']
    (try simp -implicitDefEqProofs only [run_def, startF, exs, ex, ev, evs, evo, iter, bnd_r, bnd_fail, bnd_bnd, opt_some, bnd_exc, bnd_raise, bnd_ite, blD_bl, out_rt, out_nx, ex_raise, List.map_cons, List.map_nil, List.cons_append, List.nil_append, List.length_cons, List.length_nil, List.replicate, Nat.reduceSub, Nat.reduceAdd, List.getElem?_cons_zero, List.getElem?_cons_succ, if_true, Bool.false_eq_true, if_false, reduceIte, setF, asg_nm, asg_tp, asgs_nil, asgs_cons, List.set_cons_zero, List.set_cons_succ, Option.bind_some, Nat.reduceLT, gv_i, gv_s, isi_of (ty_s _), isi_of (ty_t _), isi_of (ty_st _), isi_of (ty_ts _), isi_of (ty_i _), isi_of (ty_bi _), isi_of (ty_bb _), isi_of (ty_l _), len_s, len_t, len_l, len_c, pr_tl, pr_tt, pr_lt, pr_ll, cmp_lt, cmp_le, cmp_gt, cmp_ge, eq_s, ne_s, eq_i, ne_i, eq_b, ne_b, add_i, sub_i, mt_s, mtok_s, mtok_l, ite_bl, ite_or, ite_fl, bnd_id, wipeF, Tg.slots, Tg.slotsL, List.append_nil, noexc_ret, seq_t, seq_l, it_t, it_l, List.length_set])
    rw [show (i : Int) + 1 = ((i + 1 : Nat) : Int) by omega, rng2_nat (by omega) (by omega)]
    (try simp -implicitDefEqProofs only [run_def, startF, exs, ex, ev, evs, evo, iter, bnd_r, bnd_fail, bnd_bnd, opt_some, bnd_exc, bnd_raise, bnd_ite, blD_bl, out_rt, out_nx, ex_raise, List.map_cons, List.map_nil, List.cons_append, List.nil_append, List.length_cons, List.length_nil, List.replicate, Nat.reduceSub, Nat.reduceAdd, List.getElem?_cons_zero, List.getElem?_cons_succ, if_true, Bool.false_eq_true, if_false, reduceIte, setF, asg_nm, asg_tp, asgs_nil, asgs_cons, List.set_cons_zero, List.set_cons_succ, Option.bind_some, Nat.reduceLT, gv_i, gv_s, isi_of (ty_s _), isi_of (ty_t _), isi_of (ty_st _), isi_of (ty_ts _), isi_of (ty_i _), isi_of (ty_bi _), isi_of (ty_bb _), isi_of (ty_l _), len_s, len_t, len_l, len_c, pr_tl, pr_tt, pr_lt, pr_ll, cmp_lt, cmp_le, cmp_gt, cmp_ge, eq_s, ne_s, eq_i, ne_i, eq_b, ne_b, add_i, sub_i, mt_s, mtok_s, mtok_l, ite_bl, ite_or, ite_fl, bnd_id, wipeF, Tg.slots, Tg.slotsL, List.append_nil, noexc_ret, seq_t, seq_l, it_t, it_l, List.length_set])
    have hst : stayP ps w (some (i, m)) = if (p.isS && takesB p w) = true then [(i, min (capN p) (m + 1))] else [] := by
      show (match ps[i]? with | some p => if (p.isS && takesB p w) = true then [(i, min (capN p) (m + 1))] else [] | none => []) = _
      rw [hp]
    have hz : 0 < sizeLine := by rw [sizeLine_eq]; decide
    unfold movesP
    rw [hst]
    cases p.isS <;> cases takesB p w <;> cases doneB ps (some (i, m))
    all_goals simp only [Bool.and_true, Bool.and_false, if_true, Bool.false_eq_true, if_false]
    all_goals (try simp -implicitDefEqProofs only [run_def, startF, exs, ex, ev, evs, evo, iter, bnd_r, bnd_fail, bnd_bnd, opt_some, bnd_exc, bnd_raise, bnd_ite, blD_bl, out_rt, out_nx, ex_raise, List.map_cons, List.map_nil, List.cons_append, List.nil_append, List.length_cons, List.length_nil, List.replicate, Nat.reduceSub, Nat.reduceAdd, List.getElem?_cons_zero, List.getElem?_cons_succ, if_true, Bool.false_eq_true, if_false, reduceIte, setF, asg_nm, asg_tp, asgs_nil, asgs_cons, List.set_cons_zero, List.set_cons_succ, Option.bind_some, Nat.reduceLT, gv_i, gv_s, isi_of (ty_s _), isi_of (ty_t _), isi_of (ty_st _), isi_of (ty_ts _), isi_of (ty_i _), isi_of (ty_bi _), isi_of (ty_bb _), isi_of (ty_l _), len_s, len_t, len_l, len_c, pr_tl, pr_tt, pr_lt, pr_ll, cmp_lt, cmp_le, cmp_gt, cmp_ge, eq_s, ne_s, eq_i, ne_i, eq_b, ne_b, add_i, sub_i, mt_s, mtok_s, mtok_l, ite_bl, ite_or, ite_fl, bnd_id, wipeF, Tg.slots, Tg.slotsL, List.append_nil, noexc_ret, seq_t, seq_l, it_t, it_l, List.length_set])
    all_goals try rw [if_pos hz]
    all_goals try (try simp -implicitDefEqProofs only [run_def, startF, exs, ex, ev, evs, evo, iter, bnd_r, bnd_fail, bnd_bnd, opt_some, bnd_exc, bnd_raise, bnd_ite, blD_bl, out_rt, out_nx, ex_raise, List.map_cons, List.map_nil, List.cons_append, List.nil_append, List.length_cons, List.length_nil, List.replicate, Nat.reduceSub, Nat.reduceAdd, List.getElem?_cons_zero, List.getElem?_cons_succ, if_true, Bool.false_eq_true, if_false, reduceIte, setF, asg_nm, asg_tp, asgs_nil, asgs_cons, List.set_cons_zero, List.set_cons_succ, Option.bind_some, Nat.reduceLT, gv_i, gv_s, isi_of (ty_s _), isi_of (ty_t _), isi_of (ty_st _), isi_of (ty_ts _), isi_of (ty_i _), isi_of (ty_bi _), isi_of (ty_bb _), isi_of (ty_l _), len_s, len_t, len_l, len_c, pr_tl, pr_tt, pr_lt, pr_ll, cmp_lt, cmp_le, cmp_gt, cmp_ge, eq_s, ne_s, eq_i, ne_i, eq_b, ne_b, add_i, sub_i, mt_s, mtok_s, mtok_l, ite_bl, ite_or, ite_fl, bnd_id, wipeF, Tg.slots, Tg.slotsL, List.append_nil, noexc_ret, seq_t, seq_l, it_t, it_l, List.length_set])
    all_goals try rfl
    all_goals
      refine goals_then (fun s => [some (.sh (encT ps)), some (.sh (.tup [.int i, .int m])), some (.sh (.str w)), some (.ow (.lst s.1)), some (.sh (.int i)), some (.sh (.int m)), s.2]) (fun q => cnd ps (i + 1) w q) _ (by simp) none (by omega) (fun made x q hm hq => ?_) fun x => ?_
      · obtain ⟨p, hp, hc⟩ := cnd_at (ps := ps) (a := i + 1) (q := q) w (by omega)
        (try simp -implicitDefEqProofs only [run_def, startF, exs, ex, ev, evs, evo, iter, bnd_r, bnd_fail, bnd_bnd, opt_some, bnd_exc, bnd_raise, bnd_ite, blD_bl, out_rt, out_nx, ex_raise, List.map_cons, List.map_nil, List.cons_append, List.nil_append, List.length_cons, List.length_nil, List.replicate, Nat.reduceSub, Nat.reduceAdd, List.getElem?_cons_zero, List.getElem?_cons_succ, if_true, Bool.false_eq_true, if_false, reduceIte, setF, asg_nm, asg_tp, asgs_nil, asgs_cons, List.set_cons_zero, List.set_cons_succ, Option.bind_some, Nat.reduceLT, gv_i, gv_s, isi_of (ty_s _), isi_of (ty_t _), isi_of (ty_st _), isi_of (ty_ts _), isi_of (ty_i _), isi_of (ty_bi _), isi_of (ty_bb _), isi_of (ty_l _), len_s, len_t, len_l, len_c, pr_tl, pr_tt, pr_lt, pr_ll, cmp_lt, cmp_le, cmp_gt, cmp_ge, eq_s, ne_s, eq_i, ne_i, eq_b, ne_b, add_i, sub_i, mt_s, mtok_s, mtok_l, ite_bl, ite_or, ite_fl, bnd_id, wipeF, Tg.slots, Tg.slotsL, List.append_nil, noexc_ret, seq_t, seq_l, it_t, it_l, List.length_set])
        rw [show (i : Int) + 1 = ((i + 1 : Nat) : Int) by omega, c_skip k hl]
        (try simp -implicitDefEqProofs only [run_def, startF, exs, ex, ev, evs, evo, iter, bnd_r, bnd_fail, bnd_bnd, opt_some, bnd_exc, bnd_raise, bnd_ite, blD_bl, out_rt, out_nx, ex_raise, List.map_cons, List.map_nil, List.cons_append, List.nil_append, List.length_cons, List.length_nil, List.replicate, Nat.reduceSub, Nat.reduceAdd, List.getElem?_cons_zero, List.getElem?_cons_succ, if_true, Bool.false_eq_true, if_false, reduceIte, setF, asg_nm, asg_tp, asgs_nil, asgs_cons, List.set_cons_zero, List.set_cons_succ, Option.bind_some, Nat.reduceLT, gv_i, gv_s, isi_of (ty_s _), isi_of (ty_t _), isi_of (ty_st _), isi_of (ty_ts _), isi_of (ty_i _), isi_of (ty_bi _), isi_of (ty_bb _), isi_of (ty_l _), len_s, len_t, len_l, len_c, pr_tl, pr_tt, pr_lt, pr_ll, cmp_lt, cmp_le, cmp_gt, cmp_ge, eq_s, ne_s, eq_i, ne_i, eq_b, ne_b, add_i, sub_i, mt_s, mtok_s, mtok_l, ite_bl, ite_or, ite_fl, bnd_id, wipeF, Tg.slots, Tg.slotsL, List.append_nil, noexc_ret, seq_t, seq_l, it_t, it_l, List.length_set])
        rw [idxT hp]
        (try simp -implicitDefEqProofs only [run_def, startF, exs, ex, ev, evs, evo, iter, bnd_r, bnd_fail, bnd_bnd, opt_some, bnd_exc, bnd_raise, bnd_ite, blD_bl, out_rt, out_nx, ex_raise, List.map_cons, List.map_nil, List.cons_append, List.nil_append, List.length_cons, List.length_nil, List.replicate, Nat.reduceSub, Nat.reduceAdd, List.getElem?_cons_zero, List.getElem?_cons_succ, if_true, Bool.false_eq_true, if_false, reduceIte, setF, asg_nm, asg_tp, asgs_nil, asgs_cons, List.set_cons_zero, List.set_cons_succ, Option.bind_some, Nat.reduceLT, gv_i, gv_s, isi_of (ty_s _), isi_of (ty_t _), isi_of (ty_st _), isi_of (ty_ts _), isi_of (ty_i _), isi_of (ty_bi _), isi_of (ty_bb _), isi_of (ty_l _), len_s, len_t, len_l, len_c, pr_tl, pr_tt, pr_lt, pr_ll, cmp_lt, cmp_le, cmp_gt, cmp_ge, eq_s, ne_s, eq_i, ne_i, eq_b, ne_b, add_i, sub_i, mt_s, mtok_s, mtok_l, ite_bl, ite_or, ite_fl, bnd_id, wipeF, Tg.slots, Tg.slotsL, List.append_nil, noexc_ret, seq_t, seq_l, it_t, it_l, List.length_set])
        rw [c_takes, if_pos (show made.length < sizeLine by rw [sizeLine_eq]; omega), hc]
        cases skipB ps (i + 1) (i + 1 + q) <;> cases takesB p w <;> rfl
      · (try simp -implicitDefEqProofs only [run_def, startF, exs, ex, ev, evs, evo, iter, bnd_r, bnd_fail, bnd_bnd, opt_some, bnd_exc, bnd_raise, bnd_ite, blD_bl, out_rt, out_nx, ex_raise, List.map_cons, List.map_nil, List.cons_append, List.nil_append, List.length_cons, List.length_nil, List.replicate, Nat.reduceSub, Nat.reduceAdd, List.getElem?_cons_zero, List.getElem?_cons_succ, if_true, Bool.false_eq_true, if_false, reduceIte, setF, asg_nm, asg_tp, asgs_nil, asgs_cons, List.set_cons_zero, List.set_cons_succ, Option.bind_some, Nat.reduceLT, gv_i, gv_s, isi_of (ty_s _), isi_of (ty_t _), isi_of (ty_st _), isi_of (ty_ts _), isi_of (ty_i _), isi_of (ty_bi _), isi_of (ty_bb _), isi_of (ty_l _), len_s, len_t, len_l, len_c, pr_tl, pr_tt, pr_lt, pr_ll, cmp_lt, cmp_le, cmp_gt, cmp_ge, eq_s, ne_s, eq_i, ne_i, eq_b, ne_b, add_i, sub_i, mt_s, mtok_s, mtok_l, ite_bl, ite_or, ite_fl, bnd_id, wipeF, Tg.slots, Tg.slotsL, List.append_nil, noexc_ret, seq_t, seq_l, it_t, it_l, List.length_set])
        rw [← goals_fm]
        rfl
theorem fm_done (ps : List Part) (s : Stand) (a : Nat) (w : Str) (n : Nat) : ((List.range n).filterMap fun q => if (doneB ps s && cnd ps a w q) = true then some (D.tup [.int ((a + q : Nat) : Int), .int 1]) else none) = if doneB ps s = true then (List.range n).filterMap (fun q => if cnd ps a w q = true then some (D.tup [.int ((a + q : Nat) : Int), .int 1]) else none) else [] := by
  cases doneB ps s
  · simp
  · simp
theorem c_law_moves (k : Nat) {ps : List Part} (hl : ps.length ≤ 6) {s : Stand} (h : StOk ps s) (w : Str) : sem Δ (k + 2) f_law_moves [encT ps, stE s, .str w] = ret (.lst ((movesP ps s w).map mvE)) := by
  rw [sem_at (F := F_law_moves) rfl rfl]
  unfold F_law_moves
  have hd := c_enough k h
  cases s with
  | none =>
    unfold stE at hd ⊢
    (try simp -implicitDefEqProofs only [run_def, startF, exs, ex, ev, evs, evo, iter, bnd_r, bnd_fail, bnd_bnd, opt_some, bnd_exc, bnd_raise, bnd_ite, blD_bl, out_rt, out_nx, ex_raise, List.map_cons, List.map_nil, List.cons_append, List.nil_append, List.length_cons, List.length_nil, List.replicate, Nat.reduceSub, Nat.reduceAdd, List.getElem?_cons_zero, List.getElem?_cons_succ, if_true, Bool.false_eq_true, if_false, reduceIte, setF, asg_nm, asg_tp, asgs_nil, asgs_cons, List.set_cons_zero, List.set_cons_succ, Option.bind_some, Nat.reduceLT, gv_i, gv_s, isi_of (ty_s _), isi_of (ty_t _), isi_of (ty_st _), isi_of (ty_ts _), isi_of (ty_i _), isi_of (ty_bi _), isi_of (ty_bb _), isi_of (ty_l _), len_s, len_t, len_l, len_c, pr_tl, pr_tt, pr_lt, pr_ll, cmp_lt, cmp_le, cmp_gt, cmp_ge, eq_s, ne_s, eq_i, ne_i, eq_b, ne_b, add_i, sub_i, mt_s, mtok_s, mtok_l, ite_bl, ite_or, ite_fl, bnd_id, wipeF, Tg.slots, Tg.slotsL, List.append_nil, noexc_ret, seq_t, seq_l, it_t, it_l, List.length_set])
    rw [show dPrim .max2 [.int 0, .int (-1)] = some (.int ((0 : Nat) : Int)) from rfl, lenT']
    (try simp -implicitDefEqProofs only [run_def, startF, exs, ex, ev, evs, evo, iter, bnd_r, bnd_fail, bnd_bnd, opt_some, bnd_exc, bnd_raise, bnd_ite, blD_bl, out_rt, out_nx, ex_raise, List.map_cons, List.map_nil, List.cons_append, List.nil_append, List.length_cons, List.length_nil, List.replicate, Nat.reduceSub, Nat.reduceAdd, List.getElem?_cons_zero, List.getElem?_cons_succ, if_true, Bool.false_eq_true, if_false, reduceIte, setF, asg_nm, asg_tp, asgs_nil, asgs_cons, List.set_cons_zero, List.set_cons_succ, Option.bind_some, Nat.reduceLT, gv_i, gv_s, isi_of (ty_s _), isi_of (ty_t _), isi_of (ty_st _), isi_of (ty_ts _), isi_of (ty_i _), isi_of (ty_bi _), isi_of (ty_bb _), isi_of (ty_l _), len_s, len_t, len_l, len_c, pr_tl, pr_tt, pr_lt, pr_ll, cmp_lt, cmp_le, cmp_gt, cmp_ge, eq_s, ne_s, eq_i, ne_i, eq_b, ne_b, add_i, sub_i, mt_s, mtok_s, mtok_l, ite_bl, ite_or, ite_fl, bnd_id, wipeF, Tg.slots, Tg.slotsL, List.append_nil, noexc_ret, seq_t, seq_l, it_t, it_l, List.length_set])
    rw [rng2_nat (by omega) (by omega)]
    (try simp -implicitDefEqProofs only [run_def, startF, exs, ex, ev, evs, evo, iter, bnd_r, bnd_fail, bnd_bnd, opt_some, bnd_exc, bnd_raise, bnd_ite, blD_bl, out_rt, out_nx, ex_raise, List.map_cons, List.map_nil, List.cons_append, List.nil_append, List.length_cons, List.length_nil, List.replicate, Nat.reduceSub, Nat.reduceAdd, List.getElem?_cons_zero, List.getElem?_cons_succ, if_true, Bool.false_eq_true, if_false, reduceIte, setF, asg_nm, asg_tp, asgs_nil, asgs_cons, List.set_cons_zero, List.set_cons_succ, Option.bind_some, Nat.reduceLT, gv_i, gv_s, isi_of (ty_s _), isi_of (ty_t _), isi_of (ty_st _), isi_of (ty_ts _), isi_of (ty_i _), isi_of (ty_bi _), isi_of (ty_bb _), isi_of (ty_l _), len_s, len_t, len_l, len_c, pr_tl, pr_tt, pr_lt, pr_ll, cmp_lt, cmp_le, cmp_gt, cmp_ge, eq_s, ne_s, eq_i, ne_i, eq_b, ne_b, add_i, sub_i, mt_s, mtok_s, mtok_l, ite_bl, ite_or, ite_fl, bnd_id, wipeF, Tg.slots, Tg.slotsL, List.append_nil, noexc_ret, seq_t, seq_l, it_t, it_l, List.length_set])
    refine goals_then (fun s => [some (.sh (encT ps)), some (.sh (.tup [.int (-1), .int 0])), some (.sh (.str w)), some (.ow (.lst s.1)), s.2, some (.sh (.int (-1))), some (.sh (.int 0))]) (fun q => cnd ps 0 w q) [] (by simp) none (by omega) (fun made x q hm hq => ?_) fun x => ?_
    · obtain ⟨p, hp, hc⟩ := cnd_at (ps := ps) (a := 0) (q := q) w (by omega)
      (try simp -implicitDefEqProofs only [run_def, startF, exs, ex, ev, evs, evo, iter, bnd_r, bnd_fail, bnd_bnd, opt_some, bnd_exc, bnd_raise, bnd_ite, blD_bl, out_rt, out_nx, ex_raise, List.map_cons, List.map_nil, List.cons_append, List.nil_append, List.length_cons, List.length_nil, List.replicate, Nat.reduceSub, Nat.reduceAdd, List.getElem?_cons_zero, List.getElem?_cons_succ, if_true, Bool.false_eq_true, if_false, reduceIte, setF, asg_nm, asg_tp, asgs_nil, asgs_cons, List.set_cons_zero, List.set_cons_succ, Option.bind_some, Nat.reduceLT, gv_i, gv_s, isi_of (ty_s _), isi_of (ty_t _), isi_of (ty_st _), isi_of (ty_ts _), isi_of (ty_i _), isi_of (ty_bi _), isi_of (ty_bb _), isi_of (ty_l _), len_s, len_t, len_l, len_c, pr_tl, pr_tt, pr_lt, pr_ll, cmp_lt, cmp_le, cmp_gt, cmp_ge, eq_s, ne_s, eq_i, ne_i, eq_b, ne_b, add_i, sub_i, mt_s, mtok_s, mtok_l, ite_bl, ite_or, ite_fl, bnd_id, wipeF, Tg.slots, Tg.slotsL, List.append_nil, noexc_ret, seq_t, seq_l, it_t, it_l, List.length_set])
      rw [idxT hp]
      (try simp -implicitDefEqProofs only [run_def, startF, exs, ex, ev, evs, evo, iter, bnd_r, bnd_fail, bnd_bnd, opt_some, bnd_exc, bnd_raise, bnd_ite, blD_bl, out_rt, out_nx, ex_raise, List.map_cons, List.map_nil, List.cons_append, List.nil_append, List.length_cons, List.length_nil, List.replicate, Nat.reduceSub, Nat.reduceAdd, List.getElem?_cons_zero, List.getElem?_cons_succ, if_true, Bool.false_eq_true, if_false, reduceIte, setF, asg_nm, asg_tp, asgs_nil, asgs_cons, List.set_cons_zero, List.set_cons_succ, Option.bind_some, Nat.reduceLT, gv_i, gv_s, isi_of (ty_s _), isi_of (ty_t _), isi_of (ty_st _), isi_of (ty_ts _), isi_of (ty_i _), isi_of (ty_bi _), isi_of (ty_bb _), isi_of (ty_l _), len_s, len_t, len_l, len_c, pr_tl, pr_tt, pr_lt, pr_ll, cmp_lt, cmp_le, cmp_gt, cmp_ge, eq_s, ne_s, eq_i, ne_i, eq_b, ne_b, add_i, sub_i, mt_s, mtok_s, mtok_l, ite_bl, ite_or, ite_fl, bnd_id, wipeF, Tg.slots, Tg.slotsL, List.append_nil, noexc_ret, seq_t, seq_l, it_t, it_l, List.length_set])
      rw [c_law_takes, beq_eq_false_iff_ne.mpr (show ((0 + q : Nat) : Int) ≠ -1 by omega), decide_eq_true (show (-1 : Int) < ((0 + q : Nat) : Int) by omega), hd, show (-1 : Int) + 1 = ((0 : Nat) : Int) from rfl, c_law_free k hl]
      (try simp -implicitDefEqProofs only [run_def, startF, exs, ex, ev, evs, evo, iter, bnd_r, bnd_fail, bnd_bnd, opt_some, bnd_exc, bnd_raise, bnd_ite, blD_bl, out_rt, out_nx, ex_raise, List.map_cons, List.map_nil, List.cons_append, List.nil_append, List.length_cons, List.length_nil, List.replicate, Nat.reduceSub, Nat.reduceAdd, List.getElem?_cons_zero, List.getElem?_cons_succ, if_true, Bool.false_eq_true, if_false, reduceIte, setF, asg_nm, asg_tp, asgs_nil, asgs_cons, List.set_cons_zero, List.set_cons_succ, Option.bind_some, Nat.reduceLT, gv_i, gv_s, isi_of (ty_s _), isi_of (ty_t _), isi_of (ty_st _), isi_of (ty_ts _), isi_of (ty_i _), isi_of (ty_bi _), isi_of (ty_bb _), isi_of (ty_l _), len_s, len_t, len_l, len_c, pr_tl, pr_tt, pr_lt, pr_ll, cmp_lt, cmp_le, cmp_gt, cmp_ge, eq_s, ne_s, eq_i, ne_i, eq_b, ne_b, add_i, sub_i, mt_s, mtok_s, mtok_l, ite_bl, ite_or, ite_fl, bnd_id, wipeF, Tg.slots, Tg.slotsL, List.append_nil, noexc_ret, seq_t, seq_l, it_t, it_l, List.length_set])
      rw [if_pos (show made.length < sizeLine by rw [sizeLine_eq]; omega), hc, show doneB ps none = true from rfl]
      cases skipB ps 0 (0 + q) <;> cases takesB p w <;> rfl
    · (try simp -implicitDefEqProofs only [run_def, startF, exs, ex, ev, evs, evo, iter, bnd_r, bnd_fail, bnd_bnd, opt_some, bnd_exc, bnd_raise, bnd_ite, blD_bl, out_rt, out_nx, ex_raise, List.map_cons, List.map_nil, List.cons_append, List.nil_append, List.length_cons, List.length_nil, List.replicate, Nat.reduceSub, Nat.reduceAdd, List.getElem?_cons_zero, List.getElem?_cons_succ, if_true, Bool.false_eq_true, if_false, reduceIte, setF, asg_nm, asg_tp, asgs_nil, asgs_cons, List.set_cons_zero, List.set_cons_succ, Option.bind_some, Nat.reduceLT, gv_i, gv_s, isi_of (ty_s _), isi_of (ty_t _), isi_of (ty_st _), isi_of (ty_ts _), isi_of (ty_i _), isi_of (ty_bi _), isi_of (ty_bb _), isi_of (ty_l _), len_s, len_t, len_l, len_c, pr_tl, pr_tt, pr_lt, pr_ll, cmp_lt, cmp_le, cmp_gt, cmp_ge, eq_s, ne_s, eq_i, ne_i, eq_b, ne_b, add_i, sub_i, mt_s, mtok_s, mtok_l, ite_bl, ite_or, ite_fl, bnd_id, wipeF, Tg.slots, Tg.slotsL, List.append_nil, noexc_ret, seq_t, seq_l, it_t, it_l, List.length_set])
      rw [← goals_fm]
      rfl
  | some q =>
    obtain ⟨i, m⟩ := q
    obtain ⟨p, hp, h1, h2⟩ := h
    have hi : i < ps.length := (List.getElem?_eq_some_iff.mp hp).1
    unfold stE at hd ⊢
    (try simp -implicitDefEqProofs only [run_def, startF, exs, ex, ev, evs, evo, iter, bnd_r, bnd_fail, bnd_bnd, opt_some, bnd_exc, bnd_raise, bnd_ite, blD_bl, out_rt, out_nx, ex_raise, List.map_cons, List.map_nil, List.cons_append, List.nil_append, List.length_cons, List.length_nil, List.replicate, Nat.reduceSub, Nat.reduceAdd, List.getElem?_cons_zero, List.getElem?_cons_succ, if_true, Bool.false_eq_true, if_false, reduceIte, setF, asg_nm, asg_tp, asgs_nil, asgs_cons, List.set_cons_zero, List.set_cons_succ, Option.bind_some, Nat.reduceLT, gv_i, gv_s, isi_of (ty_s _), isi_of (ty_t _), isi_of (ty_st _), isi_of (ty_ts _), isi_of (ty_i _), isi_of (ty_bi _), isi_of (ty_bb _), isi_of (ty_l _), len_s, len_t, len_l, len_c, pr_tl, pr_tt, pr_lt, pr_ll, cmp_lt, cmp_le, cmp_gt, cmp_ge, eq_s, ne_s, eq_i, ne_i, eq_b, ne_b, add_i, sub_i, mt_s, mtok_s, mtok_l, ite_bl, ite_or, ite_fl, bnd_id, wipeF, Tg.slots, Tg.slotsL, List.append_nil, noexc_ret, seq_t, seq_l, it_t, it_l, List.length_set])
    rw [show dPrim .max2 [.int 0, .int (i : Int)] = some (.int (i : Int)) from by
      show some (D.int (if (i : Int) > 0 then (i : Int) else 0)) = _
      split
      · rfl
      · rw [show i = 0 by omega]; rfl, lenT']
    (try simp -implicitDefEqProofs only [run_def, startF, exs, ex, ev, evs, evo, iter, bnd_r, bnd_fail, bnd_bnd, opt_some, bnd_exc, bnd_raise, bnd_ite, blD_bl, out_rt, out_nx, ex_raise, List.map_cons, List.map_nil, List.cons_append, List.nil_append, List.length_cons, List.length_nil, List.replicate, Nat.reduceSub, Nat.reduceAdd, List.getElem?_cons_zero, List.getElem?_cons_succ, if_true, Bool.false_eq_true, if_false, reduceIte, setF, asg_nm, asg_tp, asgs_nil, asgs_cons, List.set_cons_zero, List.set_cons_succ, Option.bind_some, Nat.reduceLT, gv_i, gv_s, isi_of (ty_s _), isi_of (ty_t _), isi_of (ty_st _), isi_of (ty_ts _), isi_of (ty_i _), isi_of (ty_bi _), isi_of (ty_bb _), isi_of (ty_l _), len_s, len_t, len_l, len_c, pr_tl, pr_tt, pr_lt, pr_ll, cmp_lt, cmp_le, cmp_gt, cmp_ge, eq_s, ne_s, eq_i, ne_i, eq_b, ne_b, add_i, sub_i, mt_s, mtok_s, mtok_l, ite_bl, ite_or, ite_fl, bnd_id, wipeF, Tg.slots, Tg.slotsL, List.append_nil, noexc_ret, seq_t, seq_l, it_t, it_l, List.length_set])
    rw [rng2_nat (by omega) (by omega), show ps.length - i = (ps.length - (i + 1)) + 1 by omega, List.range_succ_eq_map, List.map_cons, List.map_map]
    rw [show ((fun (k : Nat) => D.int ((i + k : Nat) : Int)) ∘ Nat.succ) = fun (k : Nat) => D.int ((i + 1 + k : Nat) : Int) from by
      funext k
      show D.int ((i + (k + 1) : Nat) : Int) = _
      rw [show i + (k + 1) = i + 1 + k by omega]]
    (try simp -implicitDefEqProofs only [run_def, startF, exs, ex, ev, evs, evo, iter, bnd_r, bnd_fail, bnd_bnd, opt_some, bnd_exc, bnd_raise, bnd_ite, blD_bl, out_rt, out_nx, ex_raise, List.map_cons, List.map_nil, List.cons_append, List.nil_append, List.length_cons, List.length_nil, List.replicate, Nat.reduceSub, Nat.reduceAdd, List.getElem?_cons_zero, List.getElem?_cons_succ, if_true, Bool.false_eq_true, if_false, reduceIte, setF, asg_nm, asg_tp, asgs_nil, asgs_cons, List.set_cons_zero, List.set_cons_succ, Option.bind_some, Nat.reduceLT, gv_i, gv_s, isi_of (ty_s _), isi_of (ty_t _), isi_of (ty_st _), isi_of (ty_ts _), isi_of (ty_i _), isi_of (ty_bi _), isi_of (ty_bb _), isi_of (ty_l _), len_s, len_t, len_l, len_c, pr_tl, pr_tt, pr_lt, pr_ll, cmp_lt, cmp_le, cmp_gt, cmp_ge, eq_s, ne_s, eq_i, ne_i, eq_b, ne_b, add_i, sub_i, mt_s, mtok_s, mtok_l, ite_bl, ite_or, ite_fl, bnd_id, wipeF, Tg.slots, Tg.slotsL, List.append_nil, noexc_ret, seq_t, seq_l, it_t, it_l, List.length_set])
    unfold forL
    (try simp -implicitDefEqProofs only [run_def, startF, exs, ex, ev, evs, evo, iter, bnd_r, bnd_fail, bnd_bnd, opt_some, bnd_exc, bnd_raise, bnd_ite, blD_bl, out_rt, out_nx, ex_raise, List.map_cons, List.map_nil, List.cons_append, List.nil_append, List.length_cons, List.length_nil, List.replicate, Nat.reduceSub, Nat.reduceAdd, List.getElem?_cons_zero, List.getElem?_cons_succ, if_true, Bool.false_eq_true, if_false, reduceIte, setF, asg_nm, asg_tp, asgs_nil, asgs_cons, List.set_cons_zero, List.set_cons_succ, Option.bind_some, Nat.reduceLT, gv_i, gv_s, isi_of (ty_s _), isi_of (ty_t _), isi_of (ty_st _), isi_of (ty_ts _), isi_of (ty_i _), isi_of (ty_bi _), isi_of (ty_bb _), isi_of (ty_l _), len_s, len_t, len_l, len_c, pr_tl, pr_tt, pr_lt, pr_ll, cmp_lt, cmp_le, cmp_gt, cmp_ge, eq_s, ne_s, eq_i, ne_i, eq_b, ne_b, add_i, sub_i, mt_s, mtok_s, mtok_l, ite_bl, ite_or, ite_fl, bnd_id, wipeF, Tg.slots, Tg.slotsL, List.append_nil, noexc_ret, seq_t, seq_l, it_t, it_l, List.length_set])
    rw [Nat.add_zero, idxT hp]
    (try simp -implicitDefEqProofs only [run_def, startF, exs, ex, ev, evs, evo, iter, bnd_r, bnd_fail, bnd_bnd, opt_some, bnd_exc, bnd_raise, bnd_ite, blD_bl, out_rt, out_nx, ex_raise, List.map_cons, List.map_nil, List.cons_append, List.nil_append, List.length_cons, List.length_nil, List.replicate, Nat.reduceSub, Nat.reduceAdd, List.getElem?_cons_zero, List.getElem?_cons_succ, if_true, Bool.false_eq_true, if_false, reduceIte, setF, asg_nm, asg_tp, asgs_nil, asgs_cons, List.set_cons_zero, List.set_cons_succ, Option.bind_some, Nat.reduceLT, gv_i, gv_s, isi_of (ty_s _), isi_of (ty_t _), isi_of (ty_st _), isi_of (ty_ts _), isi_of (ty_i _), isi_of (ty_bi _), isi_of (ty_bb _), isi_of (ty_l _), len_s, len_t, len_l, len_c, pr_tl, pr_tt, pr_lt, pr_ll, cmp_lt, cmp_le, cmp_gt, cmp_ge, eq_s, ne_s, eq_i, ne_i, eq_b, ne_b, add_i, sub_i, mt_s, mtok_s, mtok_l, ite_bl, ite_or, ite_fl, bnd_id, wipeF, Tg.slots, Tg.slotsL, List.append_nil, noexc_ret, seq_t, seq_l, it_t, it_l, List.length_set])
    rw [c_law_takes, pk, beq_self_eq_true, decide_eq_false (show ¬ (i : Int) < (i : Int) by omega), c_cap]
    (try simp -implicitDefEqProofs only [run_def, startF, exs, ex, ev, evs, evo, iter, bnd_r, bnd_fail, bnd_bnd, opt_some, bnd_exc, bnd_raise, bnd_ite, blD_bl, out_rt, out_nx, ex_raise, List.map_cons, List.map_nil, List.cons_append, List.nil_append, List.length_cons, List.length_nil, List.replicate, Nat.reduceSub, Nat.reduceAdd, List.getElem?_cons_zero, List.getElem?_cons_succ, if_true, Bool.false_eq_true, if_false, reduceIte, setF, asg_nm, asg_tp, asgs_nil, asgs_cons, List.set_cons_zero, List.set_cons_succ, Option.bind_some, Nat.reduceLT, gv_i, gv_s, isi_of (ty_s _), isi_of (ty_t _), isi_of (ty_st _), isi_of (ty_ts _), isi_of (ty_i _), isi_of (ty_bi _), isi_of (ty_bb _), isi_of (ty_l _), len_s, len_t, len_l, len_c, pr_tl, pr_tt, pr_lt, pr_ll, cmp_lt, cmp_le, cmp_gt, cmp_ge, eq_s, ne_s, eq_i, ne_i, eq_b, ne_b, add_i, sub_i, mt_s, mtok_s, mtok_l, ite_bl, ite_or, ite_fl, bnd_id, wipeF, Tg.slots, Tg.slotsL, List.append_nil, noexc_ret, seq_t, seq_l, it_t, it_l, List.length_set])
    rw [show (m : Int) + 1 = ((m + 1 : Nat) : Int) by omega, min2_nat, Nat.min_comm, kS]
    (try simp -implicitDefEqProofs only [run_def, startF, exs, ex, ev, evs, evo, iter, bnd_r, bnd_fail, bnd_bnd, opt_some, bnd_exc, bnd_raise, bnd_ite, blD_bl, out_rt, out_nx, ex_raise, List.map_cons, List.map_nil, List.cons_append, List.nil_append, List.length_cons, List.length_nil, List.replicate, Nat.reduceSub, Nat.reduceAdd, List.getElem?_cons_zero, List.getElem?_cons_succ, if_true, Bool.false_eq_true, if_false, reduceIte, setF, asg_nm, asg_tp, asgs_nil, asgs_cons, List.set_cons_zero, List.set_cons_succ, Option.bind_some, Nat.reduceLT, gv_i, gv_s, isi_of (ty_s _), isi_of (ty_t _), isi_of (ty_st _), isi_of (ty_ts _), isi_of (ty_i _), isi_of (ty_bi _), isi_of (ty_bb _), isi_of (ty_l _), len_s, len_t, len_l, len_c, pr_tl, pr_tt, pr_lt, pr_ll, cmp_lt, cmp_le, cmp_gt, cmp_ge, eq_s, ne_s, eq_i, ne_i, eq_b, ne_b, add_i, sub_i, mt_s, mtok_s, mtok_l, ite_bl, ite_or, ite_fl, bnd_id, wipeF, Tg.slots, Tg.slotsL, List.append_nil, noexc_ret, seq_t, seq_l, it_t, it_l, List.length_set])
    have hst : stayP ps w (some (i, m)) = if (p.isS && takesB p w) = true then [(i, min (capN p) (m + 1))] else [] := by
      show (match ps[i]? with | some p => if (p.isS && takesB p w) = true then [(i, min (capN p) (m + 1))] else [] | none => []) = _
      rw [hp]
    have hz : 0 < sizeLine := by rw [sizeLine_eq]; decide
    unfold movesP
    rw [hst]
    cases p.isS <;> cases takesB p w
    all_goals simp only [Bool.and_true, Bool.and_false, if_true, Bool.false_eq_true, if_false]
    all_goals (try simp -implicitDefEqProofs only [run_def, startF, exs, ex, ev, evs, evo, iter, bnd_r, bnd_fail, bnd_bnd, opt_some, bnd_exc, bnd_raise, bnd_ite, blD_bl, out_rt, out_nx, ex_raise, List.map_cons, List.map_nil, List.cons_append, List.nil_append, List.length_cons, List.length_nil, List.replicate, Nat.reduceSub, Nat.reduceAdd, List.getElem?_cons_zero, List.getElem?_cons_succ, if_true, Bool.false_eq_true, if_false, reduceIte, setF, asg_nm, asg_tp, asgs_nil, asgs_cons, List.set_cons_zero, List.set_cons_succ, Option.bind_some, Nat.reduceLT, gv_i, gv_s, isi_of (ty_s _), isi_of (ty_t _), isi_of (ty_st _), isi_of (ty_ts _), isi_of (ty_i _), isi_of (ty_bi _), isi_of (ty_bb _), isi_of (ty_l _), len_s, len_t, len_l, len_c, pr_tl, pr_tt, pr_lt, pr_ll, cmp_lt, cmp_le, cmp_gt, cmp_ge, eq_s, ne_s, eq_i, ne_i, eq_b, ne_b, add_i, sub_i, mt_s, mtok_s, mtok_l, ite_bl, ite_or, ite_fl, bnd_id, wipeF, Tg.slots, Tg.slotsL, List.append_nil, noexc_ret, seq_t, seq_l, it_t, it_l, List.length_set])
    all_goals try rw [if_pos hz]
    all_goals try (try simp -implicitDefEqProofs only [run_def, startF, exs, ex, ev, evs, evo, iter, bnd_r, bnd_fail, bnd_bnd, opt_some, bnd_exc, bnd_raise, bnd_ite, blD_bl, out_rt, out_nx, ex_raise, List.map_cons, List.map_nil, List.cons_append, List.nil_append, List.length_cons, List.length_nil, List.replicate, Nat.reduceSub, Nat.reduceAdd, List.getElem?_cons_zero, List.getElem?_cons_succ, if_true, Bool.false_eq_true, if_false, reduceIte, setF, asg_nm, asg_tp, asgs_nil, asgs_cons, List.set_cons_zero, List.set_cons_succ, Option.bind_some, Nat.reduceLT, gv_i, gv_s, isi_of (ty_s _), isi_of (ty_t _), isi_of (ty_st _), isi_of (ty_ts _), isi_of (ty_i _), isi_of (ty_bi _), isi_of (ty_bb _), isi_of (ty_l _), len_s, len_t, len_l, len_c, pr_tl, pr_tt, pr_lt, pr_ll, cmp_lt, cmp_le, cmp_gt, cmp_ge, eq_s, ne_s, eq_i, ne_i, eq_b, ne_b, add_i, sub_i, mt_s, mtok_s, mtok_l, ite_bl, ite_or, ite_fl, bnd_id, wipeF, Tg.slots, Tg.slotsL, List.append_nil, noexc_ret, seq_t, seq_l, it_t, it_l, List.length_set])
    all_goals
      refine goals_then (fun s => [some (.sh (encT ps)), some (.sh (.tup [.int i, .int m])), some (.sh (.str w)), some (.ow (.lst s.1)), s.2, some (.sh (.int i)), some (.sh (.int m))]) (fun q => doneB ps (some (i, m)) && cnd ps (i + 1) w q) _ (by simp) _ (by omega) (fun made x q hm hq => ?_) fun x => ?_
      · obtain ⟨p, hp, hc⟩ := cnd_at (ps := ps) (a := i + 1) (q := q) w (by omega)
        (try simp -implicitDefEqProofs only [run_def, startF, exs, ex, ev, evs, evo, iter, bnd_r, bnd_fail, bnd_bnd, opt_some, bnd_exc, bnd_raise, bnd_ite, blD_bl, out_rt, out_nx, ex_raise, List.map_cons, List.map_nil, List.cons_append, List.nil_append, List.length_cons, List.length_nil, List.replicate, Nat.reduceSub, Nat.reduceAdd, List.getElem?_cons_zero, List.getElem?_cons_succ, if_true, Bool.false_eq_true, if_false, reduceIte, setF, asg_nm, asg_tp, asgs_nil, asgs_cons, List.set_cons_zero, List.set_cons_succ, Option.bind_some, Nat.reduceLT, gv_i, gv_s, isi_of (ty_s _), isi_of (ty_t _), isi_of (ty_st _), isi_of (ty_ts _), isi_of (ty_i _), isi_of (ty_bi _), isi_of (ty_bb _), isi_of (ty_l _), len_s, len_t, len_l, len_c, pr_tl, pr_tt, pr_lt, pr_ll, cmp_lt, cmp_le, cmp_gt, cmp_ge, eq_s, ne_s, eq_i, ne_i, eq_b, ne_b, add_i, sub_i, mt_s, mtok_s, mtok_l, ite_bl, ite_or, ite_fl, bnd_id, wipeF, Tg.slots, Tg.slotsL, List.append_nil, noexc_ret, seq_t, seq_l, it_t, it_l, List.length_set])
        rw [idxT hp]
        (try simp -implicitDefEqProofs only [run_def, startF, exs, ex, ev, evs, evo, iter, bnd_r, bnd_fail, bnd_bnd, opt_some, bnd_exc, bnd_raise, bnd_ite, blD_bl, out_rt, out_nx, ex_raise, List.map_cons, List.map_nil, List.cons_append, List.nil_append, List.length_cons, List.length_nil, List.replicate, Nat.reduceSub, Nat.reduceAdd, List.getElem?_cons_zero, List.getElem?_cons_succ, if_true, Bool.false_eq_true, if_false, reduceIte, setF, asg_nm, asg_tp, asgs_nil, asgs_cons, List.set_cons_zero, List.set_cons_succ, Option.bind_some, Nat.reduceLT, gv_i, gv_s, isi_of (ty_s _), isi_of (ty_t _), isi_of (ty_st _), isi_of (ty_ts _), isi_of (ty_i _), isi_of (ty_bi _), isi_of (ty_bb _), isi_of (ty_l _), len_s, len_t, len_l, len_c, pr_tl, pr_tt, pr_lt, pr_ll, cmp_lt, cmp_le, cmp_gt, cmp_ge, eq_s, ne_s, eq_i, ne_i, eq_b, ne_b, add_i, sub_i, mt_s, mtok_s, mtok_l, ite_bl, ite_or, ite_fl, bnd_id, wipeF, Tg.slots, Tg.slotsL, List.append_nil, noexc_ret, seq_t, seq_l, it_t, it_l, List.length_set])
        rw [c_law_takes, beq_eq_false_iff_ne.mpr (show ((i + 1 + q : Nat) : Int) ≠ (i : Int) by omega), decide_eq_true (show (i : Int) < ((i + 1 + q : Nat) : Int) by omega), hd, show (i : Int) + 1 = ((i + 1 : Nat) : Int) by omega, c_law_free k hl]
        (try simp -implicitDefEqProofs only [run_def, startF, exs, ex, ev, evs, evo, iter, bnd_r, bnd_fail, bnd_bnd, opt_some, bnd_exc, bnd_raise, bnd_ite, blD_bl, out_rt, out_nx, ex_raise, List.map_cons, List.map_nil, List.cons_append, List.nil_append, List.length_cons, List.length_nil, List.replicate, Nat.reduceSub, Nat.reduceAdd, List.getElem?_cons_zero, List.getElem?_cons_succ, if_true, Bool.false_eq_true, if_false, reduceIte, setF, asg_nm, asg_tp, asgs_nil, asgs_cons, List.set_cons_zero, List.set_cons_succ, Option.bind_some, Nat.reduceLT, gv_i, gv_s, isi_of (ty_s _), isi_of (ty_t _), isi_of (ty_st _), isi_of (ty_ts _), isi_of (ty_i _), isi_of (ty_bi _), isi_of (ty_bb _), isi_of (ty_l _), len_s, len_t, len_l, len_c, pr_tl, pr_tt, pr_lt, pr_ll, cmp_lt, cmp_le, cmp_gt, cmp_ge, eq_s, ne_s, eq_i, ne_i, eq_b, ne_b, add_i, sub_i, mt_s, mtok_s, mtok_l, ite_bl, ite_or, ite_fl, bnd_id, wipeF, Tg.slots, Tg.slotsL, List.append_nil, noexc_ret, seq_t, seq_l, it_t, it_l, List.length_set])
        rw [if_pos (show made.length < sizeLine by rw [sizeLine_eq]; omega), hc]
        cases doneB ps (some (i, m)) <;> cases skipB ps (i + 1) (i + 1 + q) <;> cases takesB p w <;> rfl
      · (try simp -implicitDefEqProofs only [run_def, startF, exs, ex, ev, evs, evo, iter, bnd_r, bnd_fail, bnd_bnd, opt_some, bnd_exc, bnd_raise, bnd_ite, blD_bl, out_rt, out_nx, ex_raise, List.map_cons, List.map_nil, List.cons_append, List.nil_append, List.length_cons, List.length_nil, List.replicate, Nat.reduceSub, Nat.reduceAdd, List.getElem?_cons_zero, List.getElem?_cons_succ, if_true, Bool.false_eq_true, if_false, reduceIte, setF, asg_nm, asg_tp, asgs_nil, asgs_cons, List.set_cons_zero, List.set_cons_succ, Option.bind_some, Nat.reduceLT, gv_i, gv_s, isi_of (ty_s _), isi_of (ty_t _), isi_of (ty_st _), isi_of (ty_ts _), isi_of (ty_i _), isi_of (ty_bi _), isi_of (ty_bb _), isi_of (ty_l _), len_s, len_t, len_l, len_c, pr_tl, pr_tt, pr_lt, pr_ll, cmp_lt, cmp_le, cmp_gt, cmp_ge, eq_s, ne_s, eq_i, ne_i, eq_b, ne_b, add_i, sub_i, mt_s, mtok_s, mtok_l, ite_bl, ite_or, ite_fl, bnd_id, wipeF, Tg.slots, Tg.slotsL, List.append_nil, noexc_ret, seq_t, seq_l, it_t, it_l, List.length_set])
        rw [fm_done, ← goals_fm]
        cases doneB ps (some (i, m)) <;> rfl
/-! ### what is a stand -/
theorem c_is_stand (k : Nat) {ps : List Part} {s : Stand} (h : StOk ps s) : sem Δ (k + 2) f_is_stand [encT ps, stE s] = ret (.bl true) := by
  rw [sem_at (F := F_is_stand) rfl rfl]
  unfold F_is_stand
  cases s with
  | none =>
    unfold stE
    (try simp -implicitDefEqProofs only [run_def, startF, exs, ex, ev, evs, evo, iter, bnd_r, bnd_fail, bnd_bnd, opt_some, bnd_exc, bnd_raise, bnd_ite, blD_bl, out_rt, out_nx, ex_raise, List.map_cons, List.map_nil, List.cons_append, List.nil_append, List.length_cons, List.length_nil, List.replicate, Nat.reduceSub, Nat.reduceAdd, List.getElem?_cons_zero, List.getElem?_cons_succ, if_true, Bool.false_eq_true, if_false, reduceIte, setF, asg_nm, asg_tp, asgs_nil, asgs_cons, List.set_cons_zero, List.set_cons_succ, Option.bind_some, Nat.reduceLT, gv_i, gv_s, isi_of (ty_s _), isi_of (ty_t _), isi_of (ty_st _), isi_of (ty_ts _), isi_of (ty_i _), isi_of (ty_bi _), isi_of (ty_bb _), isi_of (ty_l _), len_s, len_t, len_l, len_c, pr_tl, pr_tt, pr_lt, pr_ll, cmp_lt, cmp_le, cmp_gt, cmp_ge, eq_s, ne_s, eq_i, ne_i, eq_b, ne_b, add_i, sub_i, mt_s, mtok_s, mtok_l, ite_bl, ite_or, ite_fl, bnd_id, wipeF, Tg.slots, Tg.slotsL, List.append_nil, noexc_ret, seq_t, seq_l, it_t, it_l, List.length_set])
    rw [ix0, ix1, lenT']
    (try simp -implicitDefEqProofs only [run_def, startF, exs, ex, ev, evs, evo, iter, bnd_r, bnd_fail, bnd_bnd, opt_some, bnd_exc, bnd_raise, bnd_ite, blD_bl, out_rt, out_nx, ex_raise, List.map_cons, List.map_nil, List.cons_append, List.nil_append, List.length_cons, List.length_nil, List.replicate, Nat.reduceSub, Nat.reduceAdd, List.getElem?_cons_zero, List.getElem?_cons_succ, if_true, Bool.false_eq_true, if_false, reduceIte, setF, asg_nm, asg_tp, asgs_nil, asgs_cons, List.set_cons_zero, List.set_cons_succ, Option.bind_some, Nat.reduceLT, gv_i, gv_s, isi_of (ty_s _), isi_of (ty_t _), isi_of (ty_st _), isi_of (ty_ts _), isi_of (ty_i _), isi_of (ty_bi _), isi_of (ty_bb _), isi_of (ty_l _), len_s, len_t, len_l, len_c, pr_tl, pr_tt, pr_lt, pr_ll, cmp_lt, cmp_le, cmp_gt, cmp_ge, eq_s, ne_s, eq_i, ne_i, eq_b, ne_b, add_i, sub_i, mt_s, mtok_s, mtok_l, ite_bl, ite_or, ite_fl, bnd_id, wipeF, Tg.slots, Tg.slotsL, List.append_nil, noexc_ret, seq_t, seq_l, it_t, it_l, List.length_set])
    rw [c_is_whole, decide_eq_true (show (-1 : Int) ≤ -1 by decide), decide_eq_true (show (-1 : Int) ≤ (ps.length : Int) - 1 by omega)]
    (try simp -implicitDefEqProofs only [run_def, startF, exs, ex, ev, evs, evo, iter, bnd_r, bnd_fail, bnd_bnd, opt_some, bnd_exc, bnd_raise, bnd_ite, blD_bl, out_rt, out_nx, ex_raise, List.map_cons, List.map_nil, List.cons_append, List.nil_append, List.length_cons, List.length_nil, List.replicate, Nat.reduceSub, Nat.reduceAdd, List.getElem?_cons_zero, List.getElem?_cons_succ, if_true, Bool.false_eq_true, if_false, reduceIte, setF, asg_nm, asg_tp, asgs_nil, asgs_cons, List.set_cons_zero, List.set_cons_succ, Option.bind_some, Nat.reduceLT, gv_i, gv_s, isi_of (ty_s _), isi_of (ty_t _), isi_of (ty_st _), isi_of (ty_ts _), isi_of (ty_i _), isi_of (ty_bi _), isi_of (ty_bb _), isi_of (ty_l _), len_s, len_t, len_l, len_c, pr_tl, pr_tt, pr_lt, pr_ll, cmp_lt, cmp_le, cmp_gt, cmp_ge, eq_s, ne_s, eq_i, ne_i, eq_b, ne_b, add_i, sub_i, mt_s, mtok_s, mtok_l, ite_bl, ite_or, ite_fl, bnd_id, wipeF, Tg.slots, Tg.slotsL, List.append_nil, noexc_ret, seq_t, seq_l, it_t, it_l, List.length_set])
    rw [c_is_whole]
    rfl
  | some q =>
    obtain ⟨i, m⟩ := q
    obtain ⟨p, hp, h1, h2⟩ := h
    have hi : i < ps.length := (List.getElem?_eq_some_iff.mp hp).1
    unfold stE
    (try simp -implicitDefEqProofs only [run_def, startF, exs, ex, ev, evs, evo, iter, bnd_r, bnd_fail, bnd_bnd, opt_some, bnd_exc, bnd_raise, bnd_ite, blD_bl, out_rt, out_nx, ex_raise, List.map_cons, List.map_nil, List.cons_append, List.nil_append, List.length_cons, List.length_nil, List.replicate, Nat.reduceSub, Nat.reduceAdd, List.getElem?_cons_zero, List.getElem?_cons_succ, if_true, Bool.false_eq_true, if_false, reduceIte, setF, asg_nm, asg_tp, asgs_nil, asgs_cons, List.set_cons_zero, List.set_cons_succ, Option.bind_some, Nat.reduceLT, gv_i, gv_s, isi_of (ty_s _), isi_of (ty_t _), isi_of (ty_st _), isi_of (ty_ts _), isi_of (ty_i _), isi_of (ty_bi _), isi_of (ty_bb _), isi_of (ty_l _), len_s, len_t, len_l, len_c, pr_tl, pr_tt, pr_lt, pr_ll, cmp_lt, cmp_le, cmp_gt, cmp_ge, eq_s, ne_s, eq_i, ne_i, eq_b, ne_b, add_i, sub_i, mt_s, mtok_s, mtok_l, ite_bl, ite_or, ite_fl, bnd_id, wipeF, Tg.slots, Tg.slotsL, List.append_nil, noexc_ret, seq_t, seq_l, it_t, it_l, List.length_set])
    rw [ix0, ix1, lenT']
    (try simp -implicitDefEqProofs only [run_def, startF, exs, ex, ev, evs, evo, iter, bnd_r, bnd_fail, bnd_bnd, opt_some, bnd_exc, bnd_raise, bnd_ite, blD_bl, out_rt, out_nx, ex_raise, List.map_cons, List.map_nil, List.cons_append, List.nil_append, List.length_cons, List.length_nil, List.replicate, Nat.reduceSub, Nat.reduceAdd, List.getElem?_cons_zero, List.getElem?_cons_succ, if_true, Bool.false_eq_true, if_false, reduceIte, setF, asg_nm, asg_tp, asgs_nil, asgs_cons, List.set_cons_zero, List.set_cons_succ, Option.bind_some, Nat.reduceLT, gv_i, gv_s, isi_of (ty_s _), isi_of (ty_t _), isi_of (ty_st _), isi_of (ty_ts _), isi_of (ty_i _), isi_of (ty_bi _), isi_of (ty_bb _), isi_of (ty_l _), len_s, len_t, len_l, len_c, pr_tl, pr_tt, pr_lt, pr_ll, cmp_lt, cmp_le, cmp_gt, cmp_ge, eq_s, ne_s, eq_i, ne_i, eq_b, ne_b, add_i, sub_i, mt_s, mtok_s, mtok_l, ite_bl, ite_or, ite_fl, bnd_id, wipeF, Tg.slots, Tg.slotsL, List.append_nil, noexc_ret, seq_t, seq_l, it_t, it_l, List.length_set])
    rw [c_is_whole, decide_eq_true (show (-1 : Int) ≤ (i : Int) by omega), decide_eq_true (show (i : Int) ≤ (ps.length : Int) - 1 by omega), decide_eq_false (show ¬ (i : Int) < 0 by omega), idxT hp]
    (try simp -implicitDefEqProofs only [run_def, startF, exs, ex, ev, evs, evo, iter, bnd_r, bnd_fail, bnd_bnd, opt_some, bnd_exc, bnd_raise, bnd_ite, blD_bl, out_rt, out_nx, ex_raise, List.map_cons, List.map_nil, List.cons_append, List.nil_append, List.length_cons, List.length_nil, List.replicate, Nat.reduceSub, Nat.reduceAdd, List.getElem?_cons_zero, List.getElem?_cons_succ, if_true, Bool.false_eq_true, if_false, reduceIte, setF, asg_nm, asg_tp, asgs_nil, asgs_cons, List.set_cons_zero, List.set_cons_succ, Option.bind_some, Nat.reduceLT, gv_i, gv_s, isi_of (ty_s _), isi_of (ty_t _), isi_of (ty_st _), isi_of (ty_ts _), isi_of (ty_i _), isi_of (ty_bi _), isi_of (ty_bb _), isi_of (ty_l _), len_s, len_t, len_l, len_c, pr_tl, pr_tt, pr_lt, pr_ll, cmp_lt, cmp_le, cmp_gt, cmp_ge, eq_s, ne_s, eq_i, ne_i, eq_b, ne_b, add_i, sub_i, mt_s, mtok_s, mtok_l, ite_bl, ite_or, ite_fl, bnd_id, wipeF, Tg.slots, Tg.slotsL, List.append_nil, noexc_ret, seq_t, seq_l, it_t, it_l, List.length_set])
    rw [c_most]
    (try simp -implicitDefEqProofs only [run_def, startF, exs, ex, ev, evs, evo, iter, bnd_r, bnd_fail, bnd_bnd, opt_some, bnd_exc, bnd_raise, bnd_ite, blD_bl, out_rt, out_nx, ex_raise, List.map_cons, List.map_nil, List.cons_append, List.nil_append, List.length_cons, List.length_nil, List.replicate, Nat.reduceSub, Nat.reduceAdd, List.getElem?_cons_zero, List.getElem?_cons_succ, if_true, Bool.false_eq_true, if_false, reduceIte, setF, asg_nm, asg_tp, asgs_nil, asgs_cons, List.set_cons_zero, List.set_cons_succ, Option.bind_some, Nat.reduceLT, gv_i, gv_s, isi_of (ty_s _), isi_of (ty_t _), isi_of (ty_st _), isi_of (ty_ts _), isi_of (ty_i _), isi_of (ty_bi _), isi_of (ty_bb _), isi_of (ty_l _), len_s, len_t, len_l, len_c, pr_tl, pr_tt, pr_lt, pr_ll, cmp_lt, cmp_le, cmp_gt, cmp_ge, eq_s, ne_s, eq_i, ne_i, eq_b, ne_b, add_i, sub_i, mt_s, mtok_s, mtok_l, ite_bl, ite_or, ite_fl, bnd_id, wipeF, Tg.slots, Tg.slotsL, List.append_nil, noexc_ret, seq_t, seq_l, it_t, it_l, List.length_set])
    rw [c_is_whole, decide_eq_true (show (1 : Int) ≤ (m : Int) by omega), decide_eq_true (show (m : Int) ≤ (capN p : Int) by omega)]
    rfl
theorem c_need_stand (k : Nat) {ps : List Part} {s : Stand} (h : StOk ps s) : sem Δ (k + 3) f_need_stand [encT ps, stE s] = ret .non := by
  rw [sem_at (F := F_need_stand) rfl rfl]
  unfold F_need_stand
  (try simp -implicitDefEqProofs only [run_def, startF, exs, ex, ev, evs, evo, iter, bnd_r, bnd_fail, bnd_bnd, opt_some, bnd_exc, bnd_raise, bnd_ite, blD_bl, out_rt, out_nx, ex_raise, List.map_cons, List.map_nil, List.cons_append, List.nil_append, List.length_cons, List.length_nil, List.replicate, Nat.reduceSub, Nat.reduceAdd, List.getElem?_cons_zero, List.getElem?_cons_succ, if_true, Bool.false_eq_true, if_false, reduceIte, setF, asg_nm, asg_tp, asgs_nil, asgs_cons, List.set_cons_zero, List.set_cons_succ, Option.bind_some, Nat.reduceLT, gv_i, gv_s, isi_of (ty_s _), isi_of (ty_t _), isi_of (ty_st _), isi_of (ty_ts _), isi_of (ty_i _), isi_of (ty_bi _), isi_of (ty_bb _), isi_of (ty_l _), len_s, len_t, len_l, len_c, pr_tl, pr_tt, pr_lt, pr_ll, cmp_lt, cmp_le, cmp_gt, cmp_ge, eq_s, ne_s, eq_i, ne_i, eq_b, ne_b, add_i, sub_i, mt_s, mtok_s, mtok_l, ite_bl, ite_or, ite_fl, bnd_id, wipeF, Tg.slots, Tg.slotsL, List.append_nil, noexc_ret, seq_t, seq_l, it_t, it_l, List.length_set])
  rw [c_is_stand k h]
  rfl
theorem c_moves (k : Nat) {ps : List Part} (h : TplOk ps) {s : Stand} (hs : StOk ps s) {w : Str} (hw : wordB w = true) : sem Δ (k + 7) f_moves [encT ps, stE s, .str w] = ret (.lst ((movesP ps s w).map mvE)) := by
  rw [sem_at (F := F_moves) rfl rfl]
  unfold F_moves
  (try simp -implicitDefEqProofs only [run_def, startF, exs, ex, ev, evs, evo, iter, bnd_r, bnd_fail, bnd_bnd, opt_some, bnd_exc, bnd_raise, bnd_ite, blD_bl, out_rt, out_nx, ex_raise, List.map_cons, List.map_nil, List.cons_append, List.nil_append, List.length_cons, List.length_nil, List.replicate, Nat.reduceSub, Nat.reduceAdd, List.getElem?_cons_zero, List.getElem?_cons_succ, if_true, Bool.false_eq_true, if_false, reduceIte, setF, asg_nm, asg_tp, asgs_nil, asgs_cons, List.set_cons_zero, List.set_cons_succ, Option.bind_some, Nat.reduceLT, gv_i, gv_s, isi_of (ty_s _), isi_of (ty_t _), isi_of (ty_st _), isi_of (ty_ts _), isi_of (ty_i _), isi_of (ty_bi _), isi_of (ty_bb _), isi_of (ty_l _), len_s, len_t, len_l, len_c, pr_tl, pr_tt, pr_lt, pr_ll, cmp_lt, cmp_le, cmp_gt, cmp_ge, eq_s, ne_s, eq_i, ne_i, eq_b, ne_b, add_i, sub_i, mt_s, mtok_s, mtok_l, ite_bl, ite_or, ite_fl, bnd_id, wipeF, Tg.slots, Tg.slotsL, List.append_nil, noexc_ret, seq_t, seq_l, it_t, it_l, List.length_set])
  rw [c_need k h]
  (try simp -implicitDefEqProofs only [run_def, startF, exs, ex, ev, evs, evo, iter, bnd_r, bnd_fail, bnd_bnd, opt_some, bnd_exc, bnd_raise, bnd_ite, blD_bl, out_rt, out_nx, ex_raise, List.map_cons, List.map_nil, List.cons_append, List.nil_append, List.length_cons, List.length_nil, List.replicate, Nat.reduceSub, Nat.reduceAdd, List.getElem?_cons_zero, List.getElem?_cons_succ, if_true, Bool.false_eq_true, if_false, reduceIte, setF, asg_nm, asg_tp, asgs_nil, asgs_cons, List.set_cons_zero, List.set_cons_succ, Option.bind_some, Nat.reduceLT, gv_i, gv_s, isi_of (ty_s _), isi_of (ty_t _), isi_of (ty_st _), isi_of (ty_ts _), isi_of (ty_i _), isi_of (ty_bi _), isi_of (ty_bb _), isi_of (ty_l _), len_s, len_t, len_l, len_c, pr_tl, pr_tt, pr_lt, pr_ll, cmp_lt, cmp_le, cmp_gt, cmp_ge, eq_s, ne_s, eq_i, ne_i, eq_b, ne_b, add_i, sub_i, mt_s, mtok_s, mtok_l, ite_bl, ite_or, ite_fl, bnd_id, wipeF, Tg.slots, Tg.slotsL, List.append_nil, noexc_ret, seq_t, seq_l, it_t, it_l, List.length_set])
  rw [c_need_stand (k + 3) hs]
  (try simp -implicitDefEqProofs only [run_def, startF, exs, ex, ev, evs, evo, iter, bnd_r, bnd_fail, bnd_bnd, opt_some, bnd_exc, bnd_raise, bnd_ite, blD_bl, out_rt, out_nx, ex_raise, List.map_cons, List.map_nil, List.cons_append, List.nil_append, List.length_cons, List.length_nil, List.replicate, Nat.reduceSub, Nat.reduceAdd, List.getElem?_cons_zero, List.getElem?_cons_succ, if_true, Bool.false_eq_true, if_false, reduceIte, setF, asg_nm, asg_tp, asgs_nil, asgs_cons, List.set_cons_zero, List.set_cons_succ, Option.bind_some, Nat.reduceLT, gv_i, gv_s, isi_of (ty_s _), isi_of (ty_t _), isi_of (ty_st _), isi_of (ty_ts _), isi_of (ty_i _), isi_of (ty_bi _), isi_of (ty_bb _), isi_of (ty_l _), len_s, len_t, len_l, len_c, pr_tl, pr_tt, pr_lt, pr_ll, cmp_lt, cmp_le, cmp_gt, cmp_ge, eq_s, ne_s, eq_i, ne_i, eq_b, ne_b, add_i, sub_i, mt_s, mtok_s, mtok_l, ite_bl, ite_or, ite_fl, bnd_id, wipeF, Tg.slots, Tg.slotsL, List.append_nil, noexc_ret, seq_t, seq_l, it_t, it_l, List.length_set])
  rw [c_is_word, hw]
  (try simp -implicitDefEqProofs only [run_def, startF, exs, ex, ev, evs, evo, iter, bnd_r, bnd_fail, bnd_bnd, opt_some, bnd_exc, bnd_raise, bnd_ite, blD_bl, out_rt, out_nx, ex_raise, List.map_cons, List.map_nil, List.cons_append, List.nil_append, List.length_cons, List.length_nil, List.replicate, Nat.reduceSub, Nat.reduceAdd, List.getElem?_cons_zero, List.getElem?_cons_succ, if_true, Bool.false_eq_true, if_false, reduceIte, setF, asg_nm, asg_tp, asgs_nil, asgs_cons, List.set_cons_zero, List.set_cons_succ, Option.bind_some, Nat.reduceLT, gv_i, gv_s, isi_of (ty_s _), isi_of (ty_t _), isi_of (ty_st _), isi_of (ty_ts _), isi_of (ty_i _), isi_of (ty_bi _), isi_of (ty_bb _), isi_of (ty_l _), len_s, len_t, len_l, len_c, pr_tl, pr_tt, pr_lt, pr_ll, cmp_lt, cmp_le, cmp_gt, cmp_ge, eq_s, ne_s, eq_i, ne_i, eq_b, ne_b, add_i, sub_i, mt_s, mtok_s, mtok_l, ite_bl, ite_or, ite_fl, bnd_id, wipeF, Tg.slots, Tg.slotsL, List.append_nil, noexc_ret, seq_t, seq_l, it_t, it_l, List.length_set])
  rw [c_moves_at (k + 4) h.len hs]
  rfl
def endB (ps : List Part) (s : Stand) : Bool := doneB ps s && skipB ps s.nxt ps.length
theorem st_nxt (s : Stand) : bnd (opt (dIdx (stE s) (.int 0))) (fun a => opt (dBin .add a (.int 1))) = ret (.int (s.nxt : Nat)) := by
  cases s with
  | none => rfl
  | some q =>
    obtain ⟨i, m⟩ := q
    unfold stE
    rw [ix0]
    rfl
theorem st_ix (s : Stand) : ∃ a : Int, dIdx (stE s) (.int 0) = some (.int a) ∧ a + 1 = (s.nxt : Int) := by
  cases s with
  | none => exact ⟨-1, rfl, rfl⟩
  | some q => exact ⟨(q.1 : Int), ix0 .., by show _ = ((q.1 + 1 : Nat) : Int); omega⟩
theorem c_end_now (k : Nat) {ps : List Part} (h : ps.length ≤ 6) {s : Stand} (hs : StOk ps s) : sem Δ (k + 2) f_end_now [encT ps, stE s] = ret (.bl (endB ps s)) := by
  rw [sem_at (F := F_end_now) rfl rfl]
  unfold F_end_now
  obtain ⟨a, h1, h2⟩ := st_ix s
  (try simp -implicitDefEqProofs only [run_def, startF, exs, ex, ev, evs, evo, iter, bnd_r, bnd_fail, bnd_bnd, opt_some, bnd_exc, bnd_raise, bnd_ite, blD_bl, out_rt, out_nx, ex_raise, List.map_cons, List.map_nil, List.cons_append, List.nil_append, List.length_cons, List.length_nil, List.replicate, Nat.reduceSub, Nat.reduceAdd, List.getElem?_cons_zero, List.getElem?_cons_succ, if_true, Bool.false_eq_true, if_false, reduceIte, setF, asg_nm, asg_tp, asgs_nil, asgs_cons, List.set_cons_zero, List.set_cons_succ, Option.bind_some, Nat.reduceLT, gv_i, gv_s, isi_of (ty_s _), isi_of (ty_t _), isi_of (ty_st _), isi_of (ty_ts _), isi_of (ty_i _), isi_of (ty_bi _), isi_of (ty_bb _), isi_of (ty_l _), len_s, len_t, len_l, len_c, pr_tl, pr_tt, pr_lt, pr_ll, cmp_lt, cmp_le, cmp_gt, cmp_ge, eq_s, ne_s, eq_i, ne_i, eq_b, ne_b, add_i, sub_i, mt_s, mtok_s, mtok_l, ite_bl, ite_or, ite_fl, bnd_id, wipeF, Tg.slots, Tg.slotsL, List.append_nil, noexc_ret, seq_t, seq_l, it_t, it_l, List.length_set])
  rw [c_done k hs, h1, lenT']
  (try simp -implicitDefEqProofs only [run_def, startF, exs, ex, ev, evs, evo, iter, bnd_r, bnd_fail, bnd_bnd, opt_some, bnd_exc, bnd_raise, bnd_ite, blD_bl, out_rt, out_nx, ex_raise, List.map_cons, List.map_nil, List.cons_append, List.nil_append, List.length_cons, List.length_nil, List.replicate, Nat.reduceSub, Nat.reduceAdd, List.getElem?_cons_zero, List.getElem?_cons_succ, if_true, Bool.false_eq_true, if_false, reduceIte, setF, asg_nm, asg_tp, asgs_nil, asgs_cons, List.set_cons_zero, List.set_cons_succ, Option.bind_some, Nat.reduceLT, gv_i, gv_s, isi_of (ty_s _), isi_of (ty_t _), isi_of (ty_st _), isi_of (ty_ts _), isi_of (ty_i _), isi_of (ty_bi _), isi_of (ty_bb _), isi_of (ty_l _), len_s, len_t, len_l, len_c, pr_tl, pr_tt, pr_lt, pr_ll, cmp_lt, cmp_le, cmp_gt, cmp_ge, eq_s, ne_s, eq_i, ne_i, eq_b, ne_b, add_i, sub_i, mt_s, mtok_s, mtok_l, ite_bl, ite_or, ite_fl, bnd_id, wipeF, Tg.slots, Tg.slotsL, List.append_nil, noexc_ret, seq_t, seq_l, it_t, it_l, List.length_set])
  rw [h2, c_skip k h]
  unfold endB
  cases doneB ps s <;> rfl
theorem c_may_end (k : Nat) {ps : List Part} (h : TplOk ps) {s : Stand} (hs : StOk ps s) : sem Δ (k + 7) f_may_end [encT ps, stE s] = ret (.bl (endB ps s)) := by
  rw [sem_at (F := F_may_end) rfl rfl]
  unfold F_may_end
  (try simp -implicitDefEqProofs only [run_def, startF, exs, ex, ev, evs, evo, iter, bnd_r, bnd_fail, bnd_bnd, opt_some, bnd_exc, bnd_raise, bnd_ite, blD_bl, out_rt, out_nx, ex_raise, List.map_cons, List.map_nil, List.cons_append, List.nil_append, List.length_cons, List.length_nil, List.replicate, Nat.reduceSub, Nat.reduceAdd, List.getElem?_cons_zero, List.getElem?_cons_succ, if_true, Bool.false_eq_true, if_false, reduceIte, setF, asg_nm, asg_tp, asgs_nil, asgs_cons, List.set_cons_zero, List.set_cons_succ, Option.bind_some, Nat.reduceLT, gv_i, gv_s, isi_of (ty_s _), isi_of (ty_t _), isi_of (ty_st _), isi_of (ty_ts _), isi_of (ty_i _), isi_of (ty_bi _), isi_of (ty_bb _), isi_of (ty_l _), len_s, len_t, len_l, len_c, pr_tl, pr_tt, pr_lt, pr_ll, cmp_lt, cmp_le, cmp_gt, cmp_ge, eq_s, ne_s, eq_i, ne_i, eq_b, ne_b, add_i, sub_i, mt_s, mtok_s, mtok_l, ite_bl, ite_or, ite_fl, bnd_id, wipeF, Tg.slots, Tg.slotsL, List.append_nil, noexc_ret, seq_t, seq_l, it_t, it_l, List.length_set])
  rw [c_need k h]
  (try simp -implicitDefEqProofs only [run_def, startF, exs, ex, ev, evs, evo, iter, bnd_r, bnd_fail, bnd_bnd, opt_some, bnd_exc, bnd_raise, bnd_ite, blD_bl, out_rt, out_nx, ex_raise, List.map_cons, List.map_nil, List.cons_append, List.nil_append, List.length_cons, List.length_nil, List.replicate, Nat.reduceSub, Nat.reduceAdd, List.getElem?_cons_zero, List.getElem?_cons_succ, if_true, Bool.false_eq_true, if_false, reduceIte, setF, asg_nm, asg_tp, asgs_nil, asgs_cons, List.set_cons_zero, List.set_cons_succ, Option.bind_some, Nat.reduceLT, gv_i, gv_s, isi_of (ty_s _), isi_of (ty_t _), isi_of (ty_st _), isi_of (ty_ts _), isi_of (ty_i _), isi_of (ty_bi _), isi_of (ty_bb _), isi_of (ty_l _), len_s, len_t, len_l, len_c, pr_tl, pr_tt, pr_lt, pr_ll, cmp_lt, cmp_le, cmp_gt, cmp_ge, eq_s, ne_s, eq_i, ne_i, eq_b, ne_b, add_i, sub_i, mt_s, mtok_s, mtok_l, ite_bl, ite_or, ite_fl, bnd_id, wipeF, Tg.slots, Tg.slotsL, List.append_nil, noexc_ret, seq_t, seq_l, it_t, it_l, List.length_set])
  rw [c_need_stand (k + 3) hs]
  (try simp -implicitDefEqProofs only [run_def, startF, exs, ex, ev, evs, evo, iter, bnd_r, bnd_fail, bnd_bnd, opt_some, bnd_exc, bnd_raise, bnd_ite, blD_bl, out_rt, out_nx, ex_raise, List.map_cons, List.map_nil, List.cons_append, List.nil_append, List.length_cons, List.length_nil, List.replicate, Nat.reduceSub, Nat.reduceAdd, List.getElem?_cons_zero, List.getElem?_cons_succ, if_true, Bool.false_eq_true, if_false, reduceIte, setF, asg_nm, asg_tp, asgs_nil, asgs_cons, List.set_cons_zero, List.set_cons_succ, Option.bind_some, Nat.reduceLT, gv_i, gv_s, isi_of (ty_s _), isi_of (ty_t _), isi_of (ty_st _), isi_of (ty_ts _), isi_of (ty_i _), isi_of (ty_bi _), isi_of (ty_bb _), isi_of (ty_l _), len_s, len_t, len_l, len_c, pr_tl, pr_tt, pr_lt, pr_ll, cmp_lt, cmp_le, cmp_gt, cmp_ge, eq_s, ne_s, eq_i, ne_i, eq_b, ne_b, add_i, sub_i, mt_s, mtok_s, mtok_l, ite_bl, ite_or, ite_fl, bnd_id, wipeF, Tg.slots, Tg.slotsL, List.append_nil, noexc_ret, seq_t, seq_l, it_t, it_l, List.length_set])
  rw [c_end_now (k + 4) h.len hs]
end G
/-! P10: sorting of rows with unlike texts in front; worths of a row. -/
namespace G
open PySem L2
theorem okAll_self : ∀ l : List PyData, PySem.W.alikeAll l l = true → okAll l l = true
  | [], _ => rfl
  | x :: l, h => by
    obtain ⟨h1, h2⟩ := PySem.W.alike_all_cons h
    show (PySem.W.alike x x && (!PyData.eqv x x || okAll l l)) = true
    rw [h1, okAll_self l h2, Bool.or_true]
    rfl
theorem srt_ok {l : List D} (hk : ∀ d ∈ l, ∃ x r, d = .tup (.str x :: r)) (inj : ∀ x r r', D.tup (.str x :: r) ∈ l → D.tup (.str x :: r') ∈ l → r = r') (hp : D.plains l = true) (hd : D.deps l ≤ 50) (hl : l.length ≤ sizeLine) : srtB l = true := by
  unfold srtB
  rw [hp, decide_eq_true hd, decide_eq_true hl]
  have e1 : l.all neT = true := List.all_eq_true.mpr fun d m => by
    obtain ⟨x, r, rfl⟩ := hk d m
    rfl
  have e2 : allP okD l = true := List.all_eq_true.mpr fun a ma => List.all_eq_true.mpr fun b mb => by
    obtain ⟨x, r, rfl⟩ := hk a ma
    obtain ⟨y, r', rfl⟩ := hk b mb
    show (PySem.W.alike (.str x) (.str y) && (!PyData.eqv (.str x) (.str y) || okAll (D.toPs r) (D.toPs r'))) = true
    by_cases e : x = y
    · subst e
      have := inj x r r' ma mb
      subst this
      have hr : D.plains r = true := (Bool.and_eq_true_iff.mp (show (true && D.plains r) = true from plains_mem hp _ ma)).2
      rw [okAll_self _ (alike_toPs r hr), Bool.or_true]
      simp [PySem.W.alike]
    · have : PyData.eqv (.str x) (.str y) = false := by simpa [PyData.eqv] using e
      rw [this]
      simp [PySem.W.alike]
  rw [e1, e2]
  rfl
theorem srt_l {l : List D} (h : srtB l = true) : dPrim .srt [.lst l] = some (.lst (sortG l)) := by
  show (if srtB l = true then _ else _) = _
  rw [if_pos h]
theorem srt_t {l : List D} (h : srtB l = true) : dPrim .srt [.tup l] = some (.lst (sortG l)) := by
  show (if srtB l = true then _ else _) = _
  rw [if_pos h]
theorem sortG_perm (l : List D) : (sortG l).Perm l := List.mergeSort_perm _ _
/-! ### worths -/
def rowE (row : List Nat) : D := .lst (row.map fun (i : Nat) => D.int (i : Int))
def wordsAt (ws : List Str) (row : List Nat) (i : Nat) : List Str := (ws.zip row).filterMap fun q => if q.2 = i then some q.1 else none
def worthD (ws : List Str) (row : List Nat) (q : Nat × Part) : Option D := match q.2 with
  | .word _ => none
  | .one n _ => some (.tup [.str n, .str ((wordsAt ws row q.1).headD Str.empty)])
  | .sm n _ _ => some (.tup [.str n, encS (wordsAt ws row q.1)])
def worthsL (ps : List Part) (ws : List Str) (row : List Nat) : List D := (enumP 0 ps).filterMap (worthD ws row)
theorem zip_rows : ∀ (ws : List Str) (row : List Nat), zipD (ws.map D.str) (row.map fun (i : Nat) => D.int (i : Int)) = (ws.zip row).map fun q => D.tup [.str q.1, .int (q.2 : Nat)]
  | [], _ => by cases ‹List Nat› <;> rfl
  | w :: ws, [] => rfl
  | w :: ws, i :: row => by
    show D.tup [.str w, .int i] :: zipD (ws.map D.str) (row.map fun (i : Nat) => D.int (i : Int)) = _
    rw [zip_rows ws row]
    rfl
theorem fold_pairs {α β γ : Type} (h : α → Option β) (g : α → γ) : ∀ (l : List α) (a : List β) (x : γ), (l.foldl (fun (s : List β × γ) y => (s.1 ++ (h y).toList, g y)) (a, x)).1 = a ++ l.filterMap h
  | [], a, x => by simp
  | y :: l, a, x => by
    rw [List.foldl_cons, fold_pairs h g l, List.filterMap_cons]
    cases h y <;> simp
theorem worthD_name {ws : List Str} {row : List Nat} {q : Nat × Part} {d : D} (h : worthD ws row q = some d) : ∃ n v, q.2.gap = some n ∧ d = .tup [.str n, v] ∧ v.plain = true ∧ v.dep ≤ 1 := by
  obtain ⟨i, p⟩ := q
  cases p with
  | word w => cases h
  | one n bs => cases h; exact ⟨n, _, rfl, rfl, rfl, Nat.zero_le _⟩
  | sm n lo bs =>
    cases h
    refine ⟨n, _, rfl, rfl, D.prs_plain _ (strs_pr _), dep_t (n := 0) fun d m => ?_⟩
    obtain ⟨x, _, rfl⟩ := List.mem_map.mp m
    exact Nat.le_refl 0
theorem enumP_inj {α : Type} {k : Nat} {l : List α} {i : Nat} {a b : α} (h1 : (i, a) ∈ enumP k l) (h2 : (i, b) ∈ enumP k l) : a = b := by
  have e1 := (enumP_mem h1).2
  have e2 := (enumP_mem h2).2
  dsimp only at e1 e2
  rw [e1] at e2
  exact Option.some.inj e2
theorem dedup_nodup {xs : List Str} (h : (dedupS xs).length = xs.length) : xs.Nodup := by
  induction xs with
  | nil => exact List.nodup_nil
  | cons x xs ih =>
    unfold dedupS at h
    have hle := dedupS_len xs
    split at h
    · simp at h; omega
    · rename_i hc
      refine List.nodup_cons.mpr ⟨fun m => hc ?_, ih (by simpa using h)⟩
      simpa using m
theorem gaps_nodup {ps : List Part} (h : gapsB ps = true) : (gapsOf ps).Nodup := dedup_nodup (of_decide_eq_true h)
theorem gaps_at {ps : List Part} (h : (gapsOf ps).Nodup) : ∀ {i j : Nat} {p q : Part} {n : Str}, ps[i]? = some p → ps[j]? = some q → p.gap = some n → q.gap = some n → i = j := by
  induction ps with
  | nil => intro i j p q n h1; simp at h1
  | cons a ps ih =>
    have mem : ∀ {j : Nat} {q : Part} {n : Str}, ps[j]? = some q → q.gap = some n → n ∈ gapsOf ps := fun h1 h2 => List.mem_filterMap.mpr ⟨_, List.mem_of_getElem? h1, h2⟩
    have hn : (gapsOf ps).Nodup ∧ ∀ n, a.gap = some n → n ∉ gapsOf ps := by
      unfold gapsOf at h ⊢
      rw [List.filterMap_cons] at h
      cases e : a.gap with
      | none => rw [e] at h; exact ⟨h, fun n z => nomatch z⟩
      | some m =>
        rw [e] at h
        obtain ⟨h1, h2⟩ := List.nodup_cons.mp h
        exact ⟨h2, fun n z => by cases z; exact h1⟩
    intro i j p q n h1 h2 g1 g2
    match i, j, h1, h2 with
    | 0, 0, _, _ => rfl
    | 0, j + 1, h1, h2 =>
      cases h1
      exact absurd (mem (by simpa using h2) g2) (hn.2 n g1)
    | i + 1, 0, h1, h2 =>
      cases h2
      exact absurd (mem (by simpa using h1) g1) (hn.2 n g2)
    | i + 1, j + 1, h1, h2 =>
      have := ih hn.1 (i := i) (j := j) (p := p) (q := q) (n := n) (by simpa using h1) (by simpa using h2) g1 g2
      rw [this]
theorem plains_of {l : List D} (h : ∀ d ∈ l, d.plain = true) : D.plains l = true := by
  induction l with
  | nil => rfl
  | cons a l ih => exact Bool.and_eq_true_iff.mpr ⟨h a List.mem_cons_self, ih fun d m => h d (List.mem_cons_of_mem _ m)⟩
theorem worths_mem {ps : List Part} {ws : List Str} {row : List Nat} {d : D} (m : d ∈ worthsL ps ws row) : ∃ i p n v, ps[i]? = some p ∧ p.gap = some n ∧ d = .tup [.str n, v] ∧ v.plain = true ∧ v.dep ≤ 1 ∧ worthD ws row (i, p) = some d := by
  obtain ⟨⟨i, p⟩, mq, hq⟩ := List.mem_filterMap.mp m
  obtain ⟨n, v, e1, e2, e3, e4⟩ := worthD_name hq
  exact ⟨i, p, n, v, (enumP_mem mq).2, e1, e2, e3, e4, hq⟩
theorem worths_deps {ps : List Part} (h : TplOk ps) (ws : List Str) (row : List Nat) : D.deps (sortG (worthsL ps ws row)) ≤ 2 := by
  refine D.deps_le (n := 2) fun d m => ?_
  obtain ⟨i, p, n, v, _, _, e, _, e3, _⟩ := worths_mem ((sortG_perm _).mem_iff.mp m)
  rw [e]
  refine dep_t (n := 1) fun x mx => ?_
  rcases List.mem_cons.mp mx with rfl | mx
  · exact Nat.zero_le _
  · cases List.mem_singleton.mp mx; exact e3
theorem worths_srt {ps : List Part} (h : TplOk ps) (ws : List Str) (row : List Nat) : srtB (worthsL ps ws row) = true := by
  have mem : ∀ d ∈ worthsL ps ws row, ∃ i p n v, ps[i]? = some p ∧ p.gap = some n ∧ d = .tup [.str n, v] ∧ v.plain = true ∧ v.dep ≤ 1 ∧ worthD ws row (i, p) = some d := fun d m => by
    obtain ⟨⟨i, p⟩, mq, hq⟩ := List.mem_filterMap.mp m
    obtain ⟨n, v, e1, e2, e3, e4⟩ := worthD_name hq
    exact ⟨i, p, n, v, (enumP_mem mq).2, e1, e2, e3, e4, hq⟩
  refine srt_ok (fun d m => ?_) (fun x r r' h1 h2 => ?_) ?_ ?_ ?_
  · obtain ⟨i, p, n, v, _, _, e, _⟩ := mem d m
    exact ⟨n, [v], e⟩
  · obtain ⟨i, p, n, v, a1, a2, a3, _, _, a6⟩ := mem _ h1
    obtain ⟨j, q, n', v', b1, b2, b3, _, _, b6⟩ := mem _ h2
    cases a3
    cases b3
    have := gaps_at (gaps_nodup h.gaps) a1 b1 a2 b2
    subst this
    rw [a1] at b1
    cases b1
    rw [a6] at b6
    cases b6
    rfl
  · have : ∀ l : List D, (∀ d ∈ l, d.plain = true) → D.plains l = true := by
      intro l
      induction l with
      | nil => exact fun _ => rfl
      | cons a l ih => exact fun h => Bool.and_eq_true_iff.mpr ⟨h a List.mem_cons_self, ih fun d m => h d (List.mem_cons_of_mem _ m)⟩
    refine this _ fun d m => ?_
    obtain ⟨i, p, n, v, _, _, e, e2, _⟩ := mem d m
    rw [e]
    show (true && (v.plain && true)) = true
    rw [e2]; rfl
  · refine Nat.le_trans (D.deps_le (n := 2) fun d m => ?_) (by decide)
    obtain ⟨i, p, n, v, _, _, e, _, e3, _⟩ := mem d m
    rw [e]
    refine dep_t (n := 1) fun x mx => ?_
    rcases List.mem_cons.mp mx with rfl | mx
    · exact Nat.zero_le _
    · cases List.mem_singleton.mp mx; exact e3
  · unfold worthsL
    refine Nat.le_trans (List.length_filterMap_le ..) ?_
    rw [enumP_len, sizeLine_eq]
    have := h.len
    omega
theorem c_worths (k : Nat) {ps : List Part} (h : TplOk ps) (ws : List Str) (row : List Nat) (hw : ws.length ≤ 1000) (h1 : ∀ i n bs, ps[i]? = some (.one n bs) → wordsAt ws row i ≠ []) :
    sem Δ (k + 1) f_worths_of [encT ps, encS ws, rowE row] = ret (.tup (sortG (worthsL ps ws row))) := by
  rw [sem_at (F := F_worths_of) rfl rfl]
  unfold F_worths_of
  (try simp -implicitDefEqProofs only [run_def, startF, exs, ex, ev, evs, evo, iter, bnd_r, bnd_fail, bnd_bnd, opt_some, bnd_exc, bnd_raise, bnd_ite, blD_bl, out_rt, out_nx, ex_raise, List.map_cons, List.map_nil, List.cons_append, List.nil_append, List.length_cons, List.length_nil, List.replicate, Nat.reduceSub, Nat.reduceAdd, List.getElem?_cons_zero, List.getElem?_cons_succ, if_true, Bool.false_eq_true, if_false, reduceIte, setF, asg_nm, asg_tp, asgs_nil, asgs_cons, List.set_cons_zero, List.set_cons_succ, Option.bind_some, Nat.reduceLT, gv_i, gv_s, isi_of (ty_s _), isi_of (ty_t _), isi_of (ty_st _), isi_of (ty_ts _), isi_of (ty_i _), isi_of (ty_bi _), isi_of (ty_bb _), isi_of (ty_l _), len_s, len_t, len_l, len_c, pr_tl, pr_tt, pr_lt, pr_ll, cmp_lt, cmp_le, cmp_gt, cmp_ge, eq_s, ne_s, eq_i, ne_i, eq_b, ne_b, add_i, sub_i, mt_s, mtok_s, mtok_l, ite_bl, ite_or, ite_fl, bnd_id, wipeF, Tg.slots, Tg.slotsL, List.append_nil, noexc_ret, seq_t, seq_l, it_t, it_l, List.length_set])
  rw [seqT]
  (try simp -implicitDefEqProofs only [run_def, startF, exs, ex, ev, evs, evo, iter, bnd_r, bnd_fail, bnd_bnd, opt_some, bnd_exc, bnd_raise, bnd_ite, blD_bl, out_rt, out_nx, ex_raise, List.map_cons, List.map_nil, List.cons_append, List.nil_append, List.length_cons, List.length_nil, List.replicate, Nat.reduceSub, Nat.reduceAdd, List.getElem?_cons_zero, List.getElem?_cons_succ, if_true, Bool.false_eq_true, if_false, reduceIte, setF, asg_nm, asg_tp, asgs_nil, asgs_cons, List.set_cons_zero, List.set_cons_succ, Option.bind_some, Nat.reduceLT, gv_i, gv_s, isi_of (ty_s _), isi_of (ty_t _), isi_of (ty_st _), isi_of (ty_ts _), isi_of (ty_i _), isi_of (ty_bi _), isi_of (ty_bb _), isi_of (ty_l _), len_s, len_t, len_l, len_c, pr_tl, pr_tt, pr_lt, pr_ll, cmp_lt, cmp_le, cmp_gt, cmp_ge, eq_s, ne_s, eq_i, ne_i, eq_b, ne_b, add_i, sub_i, mt_s, mtok_s, mtok_l, ite_bl, ite_or, ite_fl, bnd_id, wipeF, Tg.slots, Tg.slotsL, List.append_nil, noexc_ret, seq_t, seq_l, it_t, it_l, List.length_set])
  rw [enum_map]
  rw [bnd_for (forL_map (σ := List D × Option Slot × Option Slot × Option Slot) (fun s => [some (.sh (encT ps)), some (.sh (encS ws)), some (.sh (rowE row)), some (.ow (.lst s.1)), s.2.1, s.2.2.1, s.2.2.2, none, none]) (fun q : Nat × Part => D.tup [.int (q.1 : Nat), q.2.enc])
    (fun s q => (s.1 ++ (worthD ws row q).toList, some (.sh (.int (q.1 : Nat))), some (.sh q.2.enc), some (.sh (encS (wordsAt ws row q.1))))) (fun i s => s.1.length ≤ i) 6 (enumP 0 ps) 0 ([], none, none, none) (by rw [enumP_len]; have := h.len; omega) (Nat.le_refl 0) ?_).1]
  · have hf := fold_pairs (worthD ws row) (fun q : Nat × Part => (some (Slot.sh (D.int (q.1 : Nat))), some (Slot.sh q.2.enc), some (Slot.sh (encS (wordsAt ws row q.1))))) (enumP 0 ps) [] (none, none, none)
    generalize List.foldl _ _ (enumP 0 ps) = T at hf ⊢
    obtain ⟨made, x⟩ := T
    dsimp only at hf ⊢
    subst hf
    (try simp -implicitDefEqProofs only [run_def, startF, exs, ex, ev, evs, evo, iter, bnd_r, bnd_fail, bnd_bnd, opt_some, bnd_exc, bnd_raise, bnd_ite, blD_bl, out_rt, out_nx, ex_raise, List.map_cons, List.map_nil, List.cons_append, List.nil_append, List.length_cons, List.length_nil, List.replicate, Nat.reduceSub, Nat.reduceAdd, List.getElem?_cons_zero, List.getElem?_cons_succ, if_true, Bool.false_eq_true, if_false, reduceIte, setF, asg_nm, asg_tp, asgs_nil, asgs_cons, List.set_cons_zero, List.set_cons_succ, Option.bind_some, Nat.reduceLT, gv_i, gv_s, isi_of (ty_s _), isi_of (ty_t _), isi_of (ty_st _), isi_of (ty_ts _), isi_of (ty_i _), isi_of (ty_bi _), isi_of (ty_bb _), isi_of (ty_l _), len_s, len_t, len_l, len_c, pr_tl, pr_tt, pr_lt, pr_ll, cmp_lt, cmp_le, cmp_gt, cmp_ge, eq_s, ne_s, eq_i, ne_i, eq_b, ne_b, add_i, sub_i, mt_s, mtok_s, mtok_l, ite_bl, ite_or, ite_fl, bnd_id, wipeF, Tg.slots, Tg.slotsL, List.append_nil, noexc_ret, seq_t, seq_l, it_t, it_l, List.length_set])
    rw [show (enumP 0 ps).filterMap (worthD ws row) = worthsL ps ws row from rfl, srt_l (worths_srt h ws row)]
    (try simp -implicitDefEqProofs only [run_def, startF, exs, ex, ev, evs, evo, iter, bnd_r, bnd_fail, bnd_bnd, opt_some, bnd_exc, bnd_raise, bnd_ite, blD_bl, out_rt, out_nx, ex_raise, List.map_cons, List.map_nil, List.cons_append, List.nil_append, List.length_cons, List.length_nil, List.replicate, Nat.reduceSub, Nat.reduceAdd, List.getElem?_cons_zero, List.getElem?_cons_succ, if_true, Bool.false_eq_true, if_false, reduceIte, setF, asg_nm, asg_tp, asgs_nil, asgs_cons, List.set_cons_zero, List.set_cons_succ, Option.bind_some, Nat.reduceLT, gv_i, gv_s, isi_of (ty_s _), isi_of (ty_t _), isi_of (ty_st _), isi_of (ty_ts _), isi_of (ty_i _), isi_of (ty_bi _), isi_of (ty_bb _), isi_of (ty_l _), len_s, len_t, len_l, len_c, pr_tl, pr_tt, pr_lt, pr_ll, cmp_lt, cmp_le, cmp_gt, cmp_ge, eq_s, ne_s, eq_i, ne_i, eq_b, ne_b, add_i, sub_i, mt_s, mtok_s, mtok_l, ite_bl, ite_or, ite_fl, bnd_id, wipeF, Tg.slots, Tg.slotsL, List.append_nil, noexc_ret, seq_t, seq_l, it_t, it_l, List.length_set])
  · rintro j ⟨made, x4, x5, x6⟩ ⟨i, p⟩ hj mq hs
    have hs : made.length ≤ j := hs
    have hp : ps[i]? = some p := (enumP_mem mq).2
    (try simp -implicitDefEqProofs only [run_def, startF, exs, ex, ev, evs, evo, iter, bnd_r, bnd_fail, bnd_bnd, opt_some, bnd_exc, bnd_raise, bnd_ite, blD_bl, out_rt, out_nx, ex_raise, List.map_cons, List.map_nil, List.cons_append, List.nil_append, List.length_cons, List.length_nil, List.replicate, Nat.reduceSub, Nat.reduceAdd, List.getElem?_cons_zero, List.getElem?_cons_succ, if_true, Bool.false_eq_true, if_false, reduceIte, setF, asg_nm, asg_tp, asgs_nil, asgs_cons, List.set_cons_zero, List.set_cons_succ, Option.bind_some, Nat.reduceLT, gv_i, gv_s, isi_of (ty_s _), isi_of (ty_t _), isi_of (ty_st _), isi_of (ty_ts _), isi_of (ty_i _), isi_of (ty_bi _), isi_of (ty_bb _), isi_of (ty_l _), len_s, len_t, len_l, len_c, pr_tl, pr_tt, pr_lt, pr_ll, cmp_lt, cmp_le, cmp_gt, cmp_ge, eq_s, ne_s, eq_i, ne_i, eq_b, ne_b, add_i, sub_i, mt_s, mtok_s, mtok_l, ite_bl, ite_or, ite_fl, bnd_id, wipeF, Tg.slots, Tg.slotsL, List.append_nil, noexc_ret, seq_t, seq_l, it_t, it_l, List.length_set])
    rw [show seqOf (encS ws) = some (ws.map D.str) from rfl, show seqOf (rowE row) = some (row.map fun (i : Nat) => D.int (i : Int)) from rfl]
    (try simp -implicitDefEqProofs only [run_def, startF, exs, ex, ev, evs, evo, iter, bnd_r, bnd_fail, bnd_bnd, opt_some, bnd_exc, bnd_raise, bnd_ite, blD_bl, out_rt, out_nx, ex_raise, List.map_cons, List.map_nil, List.cons_append, List.nil_append, List.length_cons, List.length_nil, List.replicate, Nat.reduceSub, Nat.reduceAdd, List.getElem?_cons_zero, List.getElem?_cons_succ, if_true, Bool.false_eq_true, if_false, reduceIte, setF, asg_nm, asg_tp, asgs_nil, asgs_cons, List.set_cons_zero, List.set_cons_succ, Option.bind_some, Nat.reduceLT, gv_i, gv_s, isi_of (ty_s _), isi_of (ty_t _), isi_of (ty_st _), isi_of (ty_ts _), isi_of (ty_i _), isi_of (ty_bi _), isi_of (ty_bb _), isi_of (ty_l _), len_s, len_t, len_l, len_c, pr_tl, pr_tt, pr_lt, pr_ll, cmp_lt, cmp_le, cmp_gt, cmp_ge, eq_s, ne_s, eq_i, ne_i, eq_b, ne_b, add_i, sub_i, mt_s, mtok_s, mtok_l, ite_bl, ite_or, ite_fl, bnd_id, wipeF, Tg.slots, Tg.slotsL, List.append_nil, noexc_ret, seq_t, seq_l, it_t, it_l, List.length_set])
    rw [zip_rows, Hl.lenOk (by rw [List.length_map, List.length_zip]; omega), bnd_r, comp_fm (ws.zip row) (fun q => D.tup [.str q.1, .int (q.2 : Nat)]) (fun q => if q.2 = i then some (.str q.1) else none) fun q _ => ?_]
    · have e : ((ws.zip row).filterMap fun q => if q.2 = i then some (D.str q.1) else none) = (wordsAt ws row i).map D.str := by
        unfold wordsAt
        rw [List.map_filterMap]
        congr 1
        funext q
        split <;> rfl
      rw [e]
      (try simp -implicitDefEqProofs only [run_def, startF, exs, ex, ev, evs, evo, iter, bnd_r, bnd_fail, bnd_bnd, opt_some, bnd_exc, bnd_raise, bnd_ite, blD_bl, out_rt, out_nx, ex_raise, List.map_cons, List.map_nil, List.cons_append, List.nil_append, List.length_cons, List.length_nil, List.replicate, Nat.reduceSub, Nat.reduceAdd, List.getElem?_cons_zero, List.getElem?_cons_succ, if_true, Bool.false_eq_true, if_false, reduceIte, setF, asg_nm, asg_tp, asgs_nil, asgs_cons, List.set_cons_zero, List.set_cons_succ, Option.bind_some, Nat.reduceLT, gv_i, gv_s, isi_of (ty_s _), isi_of (ty_t _), isi_of (ty_st _), isi_of (ty_ts _), isi_of (ty_i _), isi_of (ty_bi _), isi_of (ty_bb _), isi_of (ty_l _), len_s, len_t, len_l, len_c, pr_tl, pr_tt, pr_lt, pr_ll, cmp_lt, cmp_le, cmp_gt, cmp_ge, eq_s, ne_s, eq_i, ne_i, eq_b, ne_b, add_i, sub_i, mt_s, mtok_s, mtok_l, ite_bl, ite_or, ite_fl, bnd_id, wipeF, Tg.slots, Tg.slotsL, List.append_nil, noexc_ret, seq_t, seq_l, it_t, it_l, List.length_set])
      rw [show D.tup ((wordsAt ws row i).map D.str) = encS (wordsAt ws row i) from rfl, pk, pn]
      (try simp -implicitDefEqProofs only [run_def, startF, exs, ex, ev, evs, evo, iter, bnd_r, bnd_fail, bnd_bnd, opt_some, bnd_exc, bnd_raise, bnd_ite, blD_bl, out_rt, out_nx, ex_raise, List.map_cons, List.map_nil, List.cons_append, List.nil_append, List.length_cons, List.length_nil, List.replicate, Nat.reduceSub, Nat.reduceAdd, List.getElem?_cons_zero, List.getElem?_cons_succ, if_true, Bool.false_eq_true, if_false, reduceIte, setF, asg_nm, asg_tp, asgs_nil, asgs_cons, List.set_cons_zero, List.set_cons_succ, Option.bind_some, Nat.reduceLT, gv_i, gv_s, isi_of (ty_s _), isi_of (ty_t _), isi_of (ty_st _), isi_of (ty_ts _), isi_of (ty_i _), isi_of (ty_bi _), isi_of (ty_bb _), isi_of (ty_l _), len_s, len_t, len_l, len_c, pr_tl, pr_tt, pr_lt, pr_ll, cmp_lt, cmp_le, cmp_gt, cmp_ge, eq_s, ne_s, eq_i, ne_i, eq_b, ne_b, add_i, sub_i, mt_s, mtok_s, mtok_l, ite_bl, ite_or, ite_fl, bnd_id, wipeF, Tg.slots, Tg.slotsL, List.append_nil, noexc_ret, seq_t, seq_l, it_t, it_l, List.length_set])
      have hlen : made.length < sizeLine := by rw [sizeLine_eq]; omega
      cases p with
      | word v => exact ⟨by rw [show (worthD ws row (i, Part.word v)).toList = [] from rfl, List.append_nil]; rfl, by show (made ++ []).length ≤ _; rw [List.append_nil]; omega⟩
      | one n bs =>
        cases hw' : wordsAt ws row i with
        | nil => exact absurd hw' (h1 i n bs hp)
        | cons w r =>
          refine ⟨?_, by show (made ++ (worthD ws row (i, Part.one n bs)).toList).length ≤ _; rw [List.length_append]; show made.length + 1 ≤ _; omega⟩
          rw [show (worthD ws row (i, Part.one n bs)).toList = [D.tup [.str n, .str w]] by unfold worthD; dsimp only; rw [hw']; rfl]
          simp only [show ((Part.one n bs).kind == Str.ofString "one") = true from rfl, if_true]
          (try simp -implicitDefEqProofs only [run_def, startF, exs, ex, ev, evs, evo, iter, bnd_r, bnd_fail, bnd_bnd, opt_some, bnd_exc, bnd_raise, bnd_ite, blD_bl, out_rt, out_nx, ex_raise, List.map_cons, List.map_nil, List.cons_append, List.nil_append, List.length_cons, List.length_nil, List.replicate, Nat.reduceSub, Nat.reduceAdd, List.getElem?_cons_zero, List.getElem?_cons_succ, if_true, Bool.false_eq_true, if_false, reduceIte, setF, asg_nm, asg_tp, asgs_nil, asgs_cons, List.set_cons_zero, List.set_cons_succ, Option.bind_some, Nat.reduceLT, gv_i, gv_s, isi_of (ty_s _), isi_of (ty_t _), isi_of (ty_st _), isi_of (ty_ts _), isi_of (ty_i _), isi_of (ty_bi _), isi_of (ty_bb _), isi_of (ty_l _), len_s, len_t, len_l, len_c, pr_tl, pr_tt, pr_lt, pr_ll, cmp_lt, cmp_le, cmp_gt, cmp_ge, eq_s, ne_s, eq_i, ne_i, eq_b, ne_b, add_i, sub_i, mt_s, mtok_s, mtok_l, ite_bl, ite_or, ite_fl, bnd_id, wipeF, Tg.slots, Tg.slotsL, List.append_nil, noexc_ret, seq_t, seq_l, it_t, it_l, List.length_set])
          rw [show dIdx (encS (w :: r)) (.int 0) = some (.str w) from ix0 ..]
          (try simp -implicitDefEqProofs only [run_def, startF, exs, ex, ev, evs, evo, iter, bnd_r, bnd_fail, bnd_bnd, opt_some, bnd_exc, bnd_raise, bnd_ite, blD_bl, out_rt, out_nx, ex_raise, List.map_cons, List.map_nil, List.cons_append, List.nil_append, List.length_cons, List.length_nil, List.replicate, Nat.reduceSub, Nat.reduceAdd, List.getElem?_cons_zero, List.getElem?_cons_succ, if_true, Bool.false_eq_true, if_false, reduceIte, setF, asg_nm, asg_tp, asgs_nil, asgs_cons, List.set_cons_zero, List.set_cons_succ, Option.bind_some, Nat.reduceLT, gv_i, gv_s, isi_of (ty_s _), isi_of (ty_t _), isi_of (ty_st _), isi_of (ty_ts _), isi_of (ty_i _), isi_of (ty_bi _), isi_of (ty_bb _), isi_of (ty_l _), len_s, len_t, len_l, len_c, pr_tl, pr_tt, pr_lt, pr_ll, cmp_lt, cmp_le, cmp_gt, cmp_ge, eq_s, ne_s, eq_i, ne_i, eq_b, ne_b, add_i, sub_i, mt_s, mtok_s, mtok_l, ite_bl, ite_or, ite_fl, bnd_id, wipeF, Tg.slots, Tg.slotsL, List.append_nil, noexc_ret, seq_t, seq_l, it_t, it_l, List.length_set])
          rw [if_pos hlen]
          rfl
      | sm n lo bs =>
        refine ⟨?_, by show (made ++ (worthD ws row (i, Part.sm n lo bs)).toList).length ≤ _; rw [List.length_append]; show made.length + 1 ≤ _; omega⟩
        rw [show (worthD ws row (i, Part.sm n lo bs)).toList = [D.tup [.str n, encS (wordsAt ws row i)]] from rfl]
        simp only [show ((Part.sm n lo bs).kind == Str.ofString "one") = false from rfl, show ((Part.sm n lo bs).kind == Str.ofString "some") = true from rfl, if_true, Bool.false_eq_true, if_false]
        (try simp -implicitDefEqProofs only [run_def, startF, exs, ex, ev, evs, evo, iter, bnd_r, bnd_fail, bnd_bnd, opt_some, bnd_exc, bnd_raise, bnd_ite, blD_bl, out_rt, out_nx, ex_raise, List.map_cons, List.map_nil, List.cons_append, List.nil_append, List.length_cons, List.length_nil, List.replicate, Nat.reduceSub, Nat.reduceAdd, List.getElem?_cons_zero, List.getElem?_cons_succ, if_true, Bool.false_eq_true, if_false, reduceIte, setF, asg_nm, asg_tp, asgs_nil, asgs_cons, List.set_cons_zero, List.set_cons_succ, Option.bind_some, Nat.reduceLT, gv_i, gv_s, isi_of (ty_s _), isi_of (ty_t _), isi_of (ty_st _), isi_of (ty_ts _), isi_of (ty_i _), isi_of (ty_bi _), isi_of (ty_bb _), isi_of (ty_l _), len_s, len_t, len_l, len_c, pr_tl, pr_tt, pr_lt, pr_ll, cmp_lt, cmp_le, cmp_gt, cmp_ge, eq_s, ne_s, eq_i, ne_i, eq_b, ne_b, add_i, sub_i, mt_s, mtok_s, mtok_l, ite_bl, ite_or, ite_fl, bnd_id, wipeF, Tg.slots, Tg.slotsL, List.append_nil, noexc_ret, seq_t, seq_l, it_t, it_l, List.length_set])
        rw [if_pos hlen]
        rfl
    · (try simp -implicitDefEqProofs only [run_def, startF, exs, ex, ev, evs, evo, iter, bnd_r, bnd_fail, bnd_bnd, opt_some, bnd_exc, bnd_raise, bnd_ite, blD_bl, out_rt, out_nx, ex_raise, List.map_cons, List.map_nil, List.cons_append, List.nil_append, List.length_cons, List.length_nil, List.replicate, Nat.reduceSub, Nat.reduceAdd, List.getElem?_cons_zero, List.getElem?_cons_succ, if_true, Bool.false_eq_true, if_false, reduceIte, setF, asg_nm, asg_tp, asgs_nil, asgs_cons, List.set_cons_zero, List.set_cons_succ, Option.bind_some, Nat.reduceLT, gv_i, gv_s, isi_of (ty_s _), isi_of (ty_t _), isi_of (ty_st _), isi_of (ty_ts _), isi_of (ty_i _), isi_of (ty_bi _), isi_of (ty_bb _), isi_of (ty_l _), len_s, len_t, len_l, len_c, pr_tl, pr_tt, pr_lt, pr_ll, cmp_lt, cmp_le, cmp_gt, cmp_ge, eq_s, ne_s, eq_i, ne_i, eq_b, ne_b, add_i, sub_i, mt_s, mtok_s, mtok_l, ite_bl, ite_or, ite_fl, bnd_id, wipeF, Tg.slots, Tg.slotsL, List.append_nil, noexc_ret, seq_t, seq_l, it_t, it_l, List.length_set])
      rw [ints_eq]
      by_cases e : q.2 = i
      · rw [decide_eq_true e, if_pos e]; rfl
      · rw [decide_eq_false e, if_neg e]; rfl
end G
namespace G
open PySem L2
theorem gv_t (l : List Int) : (GV.tup l).toD = .tup (l.map .int) := rfl
section
variable {a b : D} {c : Nat}
theorem ask13_r {i f : Nat} (hi : [f_taken_by, f_marks, f_how_often_taken, f_alike_words][i]? = some f) (h : sem Δ 10 f [a, b] = raiseM c) (hc : c < 14) : sem Δ 11 f_law_ask_13 [.int (i : Int), a, b] = ret (refD c) := by
  refine c_try1 (F := F_law_ask_13) rfl rfl rfl ?_ hc
  (try simp -implicitDefEqProofs only [run_def, startF, exs, ex, ev, evs, evo, iter, bnd_r, bnd_fail, bnd_bnd, opt_some, bnd_exc, bnd_raise, bnd_ite, blD_bl, out_rt, out_nx, ex_raise, List.map_cons, List.map_nil, List.cons_append, List.nil_append, List.length_cons, List.length_nil, List.replicate, Nat.reduceSub, Nat.reduceAdd, List.getElem?_cons_zero, List.getElem?_cons_succ, if_true, Bool.false_eq_true, if_false, reduceIte, setF, asg_nm, asg_tp, asgs_nil, asgs_cons, List.set_cons_zero, List.set_cons_succ, Option.bind_some, Nat.reduceLT, gv_i, gv_s, isi_of (ty_s _), isi_of (ty_t _), isi_of (ty_st _), isi_of (ty_ts _), isi_of (ty_i _), isi_of (ty_bi _), isi_of (ty_bb _), isi_of (ty_l _), len_s, len_t, len_l, len_c, pr_tl, pr_tt, pr_lt, pr_ll, cmp_lt, cmp_le, cmp_gt, cmp_ge, eq_s, ne_s, eq_i, ne_i, eq_b, ne_b, add_i, sub_i, mt_s, mtok_s, mtok_l, ite_bl, ite_or, ite_fl, bnd_id, wipeF, Tg.slots, Tg.slotsL, List.append_nil, noexc_ret, seq_t, seq_l, it_t, it_l, List.length_set])
  match i, hi with
  | 0, hi => cases hi; rw [show dIdx (.lst [.fn f_taken_by, .fn f_marks, .fn f_how_often_taken, .fn f_alike_words]) (.int ((0 : Nat) : Int)) = some (.fn f_taken_by) from rfl]; simp only [opt_some, bnd_r, h]; rfl
  | 1, hi => cases hi; rw [show dIdx (.lst [.fn f_taken_by, .fn f_marks, .fn f_how_often_taken, .fn f_alike_words]) (.int ((1 : Nat) : Int)) = some (.fn f_marks) from rfl]; simp only [opt_some, bnd_r, h]; rfl
  | 2, hi => cases hi; rw [show dIdx (.lst [.fn f_taken_by, .fn f_marks, .fn f_how_often_taken, .fn f_alike_words]) (.int ((2 : Nat) : Int)) = some (.fn f_how_often_taken) from rfl]; simp only [opt_some, bnd_r, h]; rfl
  | 3, hi => cases hi; rw [show dIdx (.lst [.fn f_taken_by, .fn f_marks, .fn f_how_often_taken, .fn f_alike_words]) (.int ((3 : Nat) : Int)) = some (.fn f_alike_words) from rfl]; simp only [opt_some, bnd_r, h]; rfl
end
theorem ask13_bad : ∀ d ∈ oddL, ∀ (i : Nat), i < 4 → sem Δ 11 f_law_ask_13 [.int (i : Int), d, .non] = ret (refD 0) := by
  intro d m i hi
  have h := odd_need 3 d m
  match i, hi with
  | 0, _ => exact ask13_r rfl (need_first (F := F_taken_by) rfl rfl rfl h) (by decide)
  | 1, _ => exact ask13_r rfl (need_first (F := F_marks) rfl rfl rfl h) (by decide)
  | 2, _ => exact ask13_r rfl (need_first (F := F_how_often_taken) rfl rfl rfl h) (by decide)
  | 3, _ => exact ask13_r rfl (need_first (F := F_alike_words) rfl rfl rfl h) (by decide)
def badX : List D := [.non, .int 5, .str "a", .lst [.str "a"], .tup [.str "A"], .tup [.str "a", .int 5], .tup (List.replicate 13 (.str "a")), .tup [.str ""], .tup [.str "toolong"]]
theorem bad_text : ∀ d ∈ badX, sem Δ 9 f_need_text [d] = raiseM 1 := by
  intro d m
  simp only [badX, List.mem_cons, List.not_mem_nil, or_false] at m
  rcases m with rfl | rfl | rfl | rfl | rfl | rfl | rfl | rfl | rfl <;> (funext s; kernel_rfl)
theorem need_text2 {k f c : Nat} {F : FDef} {rest : List S} {d e : D} (hF : Δ f = some F) (hb : F.body = .exp (.call f_need_template [.var 0]) :: .exp (.call f_need_text [.var 1]) :: rest) (hl : 2 = F.ar) (h : sem Δ k f_need_template [d] = ret .non) (h2 : sem Δ k f_need_text [e] = raiseM c) : sem Δ (k + 1) f [d, e] = raiseM c := by
  rw [sem_at hF (by rw [← hl]; rfl), run_def, hb]
  unfold startF
  simp only [exs, ex, ev, evs, List.map_cons, List.cons_append, List.getElem?_cons_zero, List.getElem?_cons_succ, bnd_r, h, h2, bnd_raise]
theorem ask13_text {t : D} (hn : sem Δ 9 f_need_template [t] = ret .non) : ∀ d ∈ badX, ∀ (i : Nat), i < 4 → sem Δ 11 f_law_ask_13 [.int (i : Int), t, d] = ret (refD 1) := by
  intro d m i hi
  have h := bad_text d m
  match i, hi with
  | 0, _ => exact ask13_r rfl (need_text2 (F := F_taken_by) rfl rfl rfl hn h) (by decide)
  | 1, _ => exact ask13_r rfl (need_text2 (F := F_marks) rfl rfl rfl hn h) (by decide)
  | 2, _ => exact ask13_r rfl (need_text2 (F := F_how_often_taken) rfl rfl rfl hn h) (by decide)
  | 3, _ => exact ask13_r rfl (need_text2 (F := F_alike_words) rfl rfl rfl hn h) (by decide)
theorem runs0 (k : Nat) {ps : List Part} (hl : ps.length ≤ 6) : sem Δ (k + 3) f_runs [encT ps, .tup []] = ret (.lst (if endB ps none = true then [.lst []] else [])) := by
  have he := c_end_now k hl (s := none) trivial
  rw [sem_at (F := F_runs) rfl rfl]
  unfold F_runs
  (try simp -implicitDefEqProofs only [run_def, startF, exs, ex, ev, evs, evo, iter, bnd_r, bnd_fail, bnd_bnd, opt_some, bnd_exc, bnd_raise, bnd_ite, blD_bl, out_rt, out_nx, ex_raise, List.map_cons, List.map_nil, List.cons_append, List.nil_append, List.length_cons, List.length_nil, List.replicate, Nat.reduceSub, Nat.reduceAdd, List.getElem?_cons_zero, List.getElem?_cons_succ, if_true, Bool.false_eq_true, if_false, reduceIte, setF, asg_nm, asg_tp, asgs_nil, asgs_cons, List.set_cons_zero, List.set_cons_succ, Option.bind_some, Nat.reduceLT, gv_i, gv_s, isi_of (ty_s _), isi_of (ty_t _), isi_of (ty_st _), isi_of (ty_ts _), isi_of (ty_i _), isi_of (ty_bi _), isi_of (ty_bb _), isi_of (ty_l _), len_s, len_t, len_l, len_c, pr_tl, pr_tt, pr_lt, pr_ll, cmp_lt, cmp_le, cmp_gt, cmp_ge, eq_s, ne_s, eq_i, ne_i, eq_b, ne_b, add_i, sub_i, mt_s, mtok_s, mtok_l, ite_bl, ite_or, ite_fl, bnd_id, wipeF, Tg.slots, Tg.slotsL, List.append_nil, noexc_ret, seq_t, seq_l, it_t, it_l, List.length_set])
  rw [gv_t]
  unfold forL
  (try simp -implicitDefEqProofs only [run_def, startF, exs, ex, ev, evs, evo, iter, bnd_r, bnd_fail, bnd_bnd, opt_some, bnd_exc, bnd_raise, bnd_ite, blD_bl, out_rt, out_nx, ex_raise, List.map_cons, List.map_nil, List.cons_append, List.nil_append, List.length_cons, List.length_nil, List.replicate, Nat.reduceSub, Nat.reduceAdd, List.getElem?_cons_zero, List.getElem?_cons_succ, if_true, Bool.false_eq_true, if_false, reduceIte, setF, asg_nm, asg_tp, asgs_nil, asgs_cons, List.set_cons_zero, List.set_cons_succ, Option.bind_some, Nat.reduceLT, gv_i, gv_s, isi_of (ty_s _), isi_of (ty_t _), isi_of (ty_st _), isi_of (ty_ts _), isi_of (ty_i _), isi_of (ty_bi _), isi_of (ty_bb _), isi_of (ty_l _), len_s, len_t, len_l, len_c, pr_tl, pr_tt, pr_lt, pr_ll, cmp_lt, cmp_le, cmp_gt, cmp_ge, eq_s, ne_s, eq_i, ne_i, eq_b, ne_b, add_i, sub_i, mt_s, mtok_s, mtok_l, ite_bl, ite_or, ite_fl, bnd_id, wipeF, Tg.slots, Tg.slotsL, List.append_nil, noexc_ret, seq_t, seq_l, it_t, it_l, List.length_set])
  rw [Hl.lenOk (by simp), bnd_r]
  unfold compL
  (try simp -implicitDefEqProofs only [run_def, startF, exs, ex, ev, evs, evo, iter, bnd_r, bnd_fail, bnd_bnd, opt_some, bnd_exc, bnd_raise, bnd_ite, blD_bl, out_rt, out_nx, ex_raise, List.map_cons, List.map_nil, List.cons_append, List.nil_append, List.length_cons, List.length_nil, List.replicate, Nat.reduceSub, Nat.reduceAdd, List.getElem?_cons_zero, List.getElem?_cons_succ, if_true, Bool.false_eq_true, if_false, reduceIte, setF, asg_nm, asg_tp, asgs_nil, asgs_cons, List.set_cons_zero, List.set_cons_succ, Option.bind_some, Nat.reduceLT, gv_i, gv_s, isi_of (ty_s _), isi_of (ty_t _), isi_of (ty_st _), isi_of (ty_ts _), isi_of (ty_i _), isi_of (ty_bi _), isi_of (ty_bb _), isi_of (ty_l _), len_s, len_t, len_l, len_c, pr_tl, pr_tt, pr_lt, pr_ll, cmp_lt, cmp_le, cmp_gt, cmp_ge, eq_s, ne_s, eq_i, ne_i, eq_b, ne_b, add_i, sub_i, mt_s, mtok_s, mtok_l, ite_bl, ite_or, ite_fl, bnd_id, wipeF, Tg.slots, Tg.slotsL, List.append_nil, noexc_ret, seq_t, seq_l, it_t, it_l, List.length_set])
  rw [show D.tup [D.int (-1), D.int 0] = stE none from rfl, he]
  unfold compL
  (try simp -implicitDefEqProofs only [run_def, startF, exs, ex, ev, evs, evo, iter, bnd_r, bnd_fail, bnd_bnd, opt_some, bnd_exc, bnd_raise, bnd_ite, blD_bl, out_rt, out_nx, ex_raise, List.map_cons, List.map_nil, List.cons_append, List.nil_append, List.length_cons, List.length_nil, List.replicate, Nat.reduceSub, Nat.reduceAdd, List.getElem?_cons_zero, List.getElem?_cons_succ, if_true, Bool.false_eq_true, if_false, reduceIte, setF, asg_nm, asg_tp, asgs_nil, asgs_cons, List.set_cons_zero, List.set_cons_succ, Option.bind_some, Nat.reduceLT, gv_i, gv_s, isi_of (ty_s _), isi_of (ty_t _), isi_of (ty_st _), isi_of (ty_ts _), isi_of (ty_i _), isi_of (ty_bi _), isi_of (ty_bb _), isi_of (ty_l _), len_s, len_t, len_l, len_c, pr_tl, pr_tt, pr_lt, pr_ll, cmp_lt, cmp_le, cmp_gt, cmp_ge, eq_s, ne_s, eq_i, ne_i, eq_b, ne_b, add_i, sub_i, mt_s, mtok_s, mtok_l, ite_bl, ite_or, ite_fl, bnd_id, wipeF, Tg.slots, Tg.slotsL, List.append_nil, noexc_ret, seq_t, seq_l, it_t, it_l, List.length_set])
  cases endB ps none <;> rfl
theorem taken0 {ps : List Part} (tk : TplOk ps) : sem Δ 10 f_taken_by [encT ps, .tup []] = ret (if endB ps none = true then .lst [] else .non) := by
  rw [sem_at (F := F_taken_by) rfl rfl]
  unfold F_taken_by
  (try simp -implicitDefEqProofs only [run_def, startF, exs, ex, ev, evs, evo, iter, bnd_r, bnd_fail, bnd_bnd, opt_some, bnd_exc, bnd_raise, bnd_ite, blD_bl, out_rt, out_nx, ex_raise, List.map_cons, List.map_nil, List.cons_append, List.nil_append, List.length_cons, List.length_nil, List.replicate, Nat.reduceSub, Nat.reduceAdd, List.getElem?_cons_zero, List.getElem?_cons_succ, if_true, Bool.false_eq_true, if_false, reduceIte, setF, asg_nm, asg_tp, asgs_nil, asgs_cons, List.set_cons_zero, List.set_cons_succ, Option.bind_some, Nat.reduceLT, gv_i, gv_s, isi_of (ty_s _), isi_of (ty_t _), isi_of (ty_st _), isi_of (ty_ts _), isi_of (ty_i _), isi_of (ty_bi _), isi_of (ty_bb _), isi_of (ty_l _), len_s, len_t, len_l, len_c, pr_tl, pr_tt, pr_lt, pr_ll, cmp_lt, cmp_le, cmp_gt, cmp_ge, eq_s, ne_s, eq_i, ne_i, eq_b, ne_b, add_i, sub_i, mt_s, mtok_s, mtok_l, ite_bl, ite_or, ite_fl, bnd_id, wipeF, Tg.slots, Tg.slotsL, List.append_nil, noexc_ret, seq_t, seq_l, it_t, it_l, List.length_set])
  rw [c_need 3 tk, show sem Δ 9 f_need_text [.tup []] = ret .non from by funext s; kernel_rfl]
  (try simp -implicitDefEqProofs only [run_def, startF, exs, ex, ev, evs, evo, iter, bnd_r, bnd_fail, bnd_bnd, opt_some, bnd_exc, bnd_raise, bnd_ite, blD_bl, out_rt, out_nx, ex_raise, List.map_cons, List.map_nil, List.cons_append, List.nil_append, List.length_cons, List.length_nil, List.replicate, Nat.reduceSub, Nat.reduceAdd, List.getElem?_cons_zero, List.getElem?_cons_succ, if_true, Bool.false_eq_true, if_false, reduceIte, setF, asg_nm, asg_tp, asgs_nil, asgs_cons, List.set_cons_zero, List.set_cons_succ, Option.bind_some, Nat.reduceLT, gv_i, gv_s, isi_of (ty_s _), isi_of (ty_t _), isi_of (ty_st _), isi_of (ty_ts _), isi_of (ty_i _), isi_of (ty_bi _), isi_of (ty_bb _), isi_of (ty_l _), len_s, len_t, len_l, len_c, pr_tl, pr_tt, pr_lt, pr_ll, cmp_lt, cmp_le, cmp_gt, cmp_ge, eq_s, ne_s, eq_i, ne_i, eq_b, ne_b, add_i, sub_i, mt_s, mtok_s, mtok_l, ite_bl, ite_or, ite_fl, bnd_id, wipeF, Tg.slots, Tg.slotsL, List.append_nil, noexc_ret, seq_t, seq_l, it_t, it_l, List.length_set])
  rw [sem_at (k := 8) (F := F_first_run) rfl rfl]
  unfold F_first_run
  (try simp -implicitDefEqProofs only [run_def, startF, exs, ex, ev, evs, evo, iter, bnd_r, bnd_fail, bnd_bnd, opt_some, bnd_exc, bnd_raise, bnd_ite, blD_bl, out_rt, out_nx, ex_raise, List.map_cons, List.map_nil, List.cons_append, List.nil_append, List.length_cons, List.length_nil, List.replicate, Nat.reduceSub, Nat.reduceAdd, List.getElem?_cons_zero, List.getElem?_cons_succ, if_true, Bool.false_eq_true, if_false, reduceIte, setF, asg_nm, asg_tp, asgs_nil, asgs_cons, List.set_cons_zero, List.set_cons_succ, Option.bind_some, Nat.reduceLT, gv_i, gv_s, isi_of (ty_s _), isi_of (ty_t _), isi_of (ty_st _), isi_of (ty_ts _), isi_of (ty_i _), isi_of (ty_bi _), isi_of (ty_bb _), isi_of (ty_l _), len_s, len_t, len_l, len_c, pr_tl, pr_tt, pr_lt, pr_ll, cmp_lt, cmp_le, cmp_gt, cmp_ge, eq_s, ne_s, eq_i, ne_i, eq_b, ne_b, add_i, sub_i, mt_s, mtok_s, mtok_l, ite_bl, ite_or, ite_fl, bnd_id, wipeF, Tg.slots, Tg.slotsL, List.append_nil, noexc_ret, seq_t, seq_l, it_t, it_l, List.length_set])
  rw [runs0 5 tk.len]
  (try simp -implicitDefEqProofs only [run_def, startF, exs, ex, ev, evs, evo, iter, bnd_r, bnd_fail, bnd_bnd, opt_some, bnd_exc, bnd_raise, bnd_ite, blD_bl, out_rt, out_nx, ex_raise, List.map_cons, List.map_nil, List.cons_append, List.nil_append, List.length_cons, List.length_nil, List.replicate, Nat.reduceSub, Nat.reduceAdd, List.getElem?_cons_zero, List.getElem?_cons_succ, if_true, Bool.false_eq_true, if_false, reduceIte, setF, asg_nm, asg_tp, asgs_nil, asgs_cons, List.set_cons_zero, List.set_cons_succ, Option.bind_some, Nat.reduceLT, gv_i, gv_s, isi_of (ty_s _), isi_of (ty_t _), isi_of (ty_st _), isi_of (ty_ts _), isi_of (ty_i _), isi_of (ty_bi _), isi_of (ty_bb _), isi_of (ty_l _), len_s, len_t, len_l, len_c, pr_tl, pr_tt, pr_lt, pr_ll, cmp_lt, cmp_le, cmp_gt, cmp_ge, eq_s, ne_s, eq_i, ne_i, eq_b, ne_b, add_i, sub_i, mt_s, mtok_s, mtok_l, ite_bl, ite_or, ite_fl, bnd_id, wipeF, Tg.slots, Tg.slotsL, List.append_nil, noexc_ret, seq_t, seq_l, it_t, it_l, List.length_set])
  cases he : endB ps none with
  | false => rfl
  | true =>
    simp only [if_true]
    rw [show dCmp .eq (.lst [.lst []]) (.lst []) = some (.bl false) from rfl]
    (try simp -implicitDefEqProofs only [run_def, startF, exs, ex, ev, evs, evo, iter, bnd_r, bnd_fail, bnd_bnd, opt_some, bnd_exc, bnd_raise, bnd_ite, blD_bl, out_rt, out_nx, ex_raise, List.map_cons, List.map_nil, List.cons_append, List.nil_append, List.length_cons, List.length_nil, List.replicate, Nat.reduceSub, Nat.reduceAdd, List.getElem?_cons_zero, List.getElem?_cons_succ, if_true, Bool.false_eq_true, if_false, reduceIte, setF, asg_nm, asg_tp, asgs_nil, asgs_cons, List.set_cons_zero, List.set_cons_succ, Option.bind_some, Nat.reduceLT, gv_i, gv_s, isi_of (ty_s _), isi_of (ty_t _), isi_of (ty_st _), isi_of (ty_ts _), isi_of (ty_i _), isi_of (ty_bi _), isi_of (ty_bb _), isi_of (ty_l _), len_s, len_t, len_l, len_c, pr_tl, pr_tt, pr_lt, pr_ll, cmp_lt, cmp_le, cmp_gt, cmp_ge, eq_s, ne_s, eq_i, ne_i, eq_b, ne_b, add_i, sub_i, mt_s, mtok_s, mtok_l, ite_bl, ite_or, ite_fl, bnd_id, wipeF, Tg.slots, Tg.slotsL, List.append_nil, noexc_ret, seq_t, seq_l, it_t, it_l, List.length_set])
    rw [Hl.lenOk (by simp), bnd_r]
    unfold compL
    (try simp -implicitDefEqProofs only [run_def, startF, exs, ex, ev, evs, evo, iter, bnd_r, bnd_fail, bnd_bnd, opt_some, bnd_exc, bnd_raise, bnd_ite, blD_bl, out_rt, out_nx, ex_raise, List.map_cons, List.map_nil, List.cons_append, List.nil_append, List.length_cons, List.length_nil, List.replicate, Nat.reduceSub, Nat.reduceAdd, List.getElem?_cons_zero, List.getElem?_cons_succ, if_true, Bool.false_eq_true, if_false, reduceIte, setF, asg_nm, asg_tp, asgs_nil, asgs_cons, List.set_cons_zero, List.set_cons_succ, Option.bind_some, Nat.reduceLT, gv_i, gv_s, isi_of (ty_s _), isi_of (ty_t _), isi_of (ty_st _), isi_of (ty_ts _), isi_of (ty_i _), isi_of (ty_bi _), isi_of (ty_bb _), isi_of (ty_l _), len_s, len_t, len_l, len_c, pr_tl, pr_tt, pr_lt, pr_ll, cmp_lt, cmp_le, cmp_gt, cmp_ge, eq_s, ne_s, eq_i, ne_i, eq_b, ne_b, add_i, sub_i, mt_s, mtok_s, mtok_l, ite_bl, ite_or, ite_fl, bnd_id, wipeF, Tg.slots, Tg.slotsL, List.append_nil, noexc_ret, seq_t, seq_l, it_t, it_l, List.length_set])
    have hfree : ps.all Part.free = true := by
      have h2 : skipB ps 0 ps.length = true := by
        have : (doneB ps none && skipB ps (Stand.nxt none) ps.length) = true := he
        exact (Bool.and_eq_true_iff.mp this).2
      unfold skipB at h2
      simpa using h2
    have hw := c_worths 7 tk [] [] (by simp) fun i n bs hp => by
      have := List.all_eq_true.mp hfree _ (List.mem_of_getElem? hp)
      cases this
    rw [show D.lst [] = rowE [] from rfl, show D.tup [] = encS [] from rfl, hw]
    unfold compL
    (try simp -implicitDefEqProofs only [run_def, startF, exs, ex, ev, evs, evo, iter, bnd_r, bnd_fail, bnd_bnd, opt_some, bnd_exc, bnd_raise, bnd_ite, blD_bl, out_rt, out_nx, ex_raise, List.map_cons, List.map_nil, List.cons_append, List.nil_append, List.length_cons, List.length_nil, List.replicate, Nat.reduceSub, Nat.reduceAdd, List.getElem?_cons_zero, List.getElem?_cons_succ, if_true, Bool.false_eq_true, if_false, reduceIte, setF, asg_nm, asg_tp, asgs_nil, asgs_cons, List.set_cons_zero, List.set_cons_succ, Option.bind_some, Nat.reduceLT, gv_i, gv_s, isi_of (ty_s _), isi_of (ty_t _), isi_of (ty_st _), isi_of (ty_ts _), isi_of (ty_i _), isi_of (ty_bi _), isi_of (ty_bb _), isi_of (ty_l _), len_s, len_t, len_l, len_c, pr_tl, pr_tt, pr_lt, pr_ll, cmp_lt, cmp_le, cmp_gt, cmp_ge, eq_s, ne_s, eq_i, ne_i, eq_b, ne_b, add_i, sub_i, mt_s, mtok_s, mtok_l, ite_bl, ite_or, ite_fl, bnd_id, wipeF, Tg.slots, Tg.slotsL, List.append_nil, noexc_ret, seq_t, seq_l, it_t, it_l, List.length_set])
    have hp := D.plains (sortG (worthsL ps [] []))
    have hm : minB [.tup [.tup (sortG (worthsL ps [] [])), rowE []]] = true := by
      have e1 := worths_srt tk [] []
      unfold srtB at e1
      simp only [Bool.and_eq_true, decide_eq_true_eq] at e1
      obtain ⟨⟨p1, p2, _⟩, _⟩ := e1
      have q1 : D.plains (sortG (worthsL ps [] [])) = true := plains_of fun d m => plains_mem p1 d ((sortG_perm _).mem_iff.mp m)
      have q2 : D.deps (sortG (worthsL ps [] [])) ≤ 2 := worths_deps tk [] []
      have q3 : (D.tup [.tup (sortG (worthsL ps [] [])), rowE []]).plain = true := by
        show (D.plains (sortG (worthsL ps [] [])) && true) = true
        rw [q1]; rfl
      unfold minB
      rw [show D.plains [.tup [.tup (sortG (worthsL ps [] [])), rowE []]] = true by show ((D.tup [.tup (sortG (worthsL ps [] [])), rowE []]).plain && true) = true; rw [q3]; rfl]
      rw [decide_eq_true (show D.deps [.tup [.tup (sortG (worthsL ps [] [])), rowE []]] ≤ 50 by
        refine Nat.le_trans (D.deps_le (n := 4) fun d m => ?_) (by decide)
        cases List.mem_singleton.mp m
        refine dep_t (n := 3) fun d m => ?_
        rcases List.mem_cons.mp m with rfl | m
        · exact Nat.succ_le_succ q2
        · cases List.mem_singleton.mp m
          exact Nat.le_succ_of_le (Nat.le_succ_of_le (Nat.le_refl 1)))]
      have q4 : allP alikeD [.tup [.tup (sortG (worthsL ps [] [])), rowE []]] = true := by
        show ((alikeD _ _ && true) && true) = true
        rw [show alikeD (.tup [.tup (sortG (worthsL ps [] [])), rowE []]) (.tup [.tup (sortG (worthsL ps [] [])), rowE []]) = true from alike_toP _ q3]
        rfl
      rw [q4]
      rfl
    rw [show dPrim .mn [.lst [.tup [.tup (sortG (worthsL ps [] [])), rowE []]]] = some (.tup [.tup (sortG (worthsL ps [] [])), rowE []]) by
      show (if minB [.tup [.tup (sortG (worthsL ps [] [])), rowE []]] = true then _ else _) = _
      rw [if_pos hm]
      rfl]
    (try simp -implicitDefEqProofs only [run_def, startF, exs, ex, ev, evs, evo, iter, bnd_r, bnd_fail, bnd_bnd, opt_some, bnd_exc, bnd_raise, bnd_ite, blD_bl, out_rt, out_nx, ex_raise, List.map_cons, List.map_nil, List.cons_append, List.nil_append, List.length_cons, List.length_nil, List.replicate, Nat.reduceSub, Nat.reduceAdd, List.getElem?_cons_zero, List.getElem?_cons_succ, if_true, Bool.false_eq_true, if_false, reduceIte, setF, asg_nm, asg_tp, asgs_nil, asgs_cons, List.set_cons_zero, List.set_cons_succ, Option.bind_some, Nat.reduceLT, gv_i, gv_s, isi_of (ty_s _), isi_of (ty_t _), isi_of (ty_st _), isi_of (ty_ts _), isi_of (ty_i _), isi_of (ty_bi _), isi_of (ty_bb _), isi_of (ty_l _), len_s, len_t, len_l, len_c, pr_tl, pr_tt, pr_lt, pr_ll, cmp_lt, cmp_le, cmp_gt, cmp_ge, eq_s, ne_s, eq_i, ne_i, eq_b, ne_b, add_i, sub_i, mt_s, mtok_s, mtok_l, ite_bl, ite_or, ite_fl, bnd_id, wipeF, Tg.slots, Tg.slotsL, List.append_nil, noexc_ret, seq_t, seq_l, it_t, it_l, List.length_set])
    rw [ix1]
    (try simp -implicitDefEqProofs only [run_def, startF, exs, ex, ev, evs, evo, iter, bnd_r, bnd_fail, bnd_bnd, opt_some, bnd_exc, bnd_raise, bnd_ite, blD_bl, out_rt, out_nx, ex_raise, List.map_cons, List.map_nil, List.cons_append, List.nil_append, List.length_cons, List.length_nil, List.replicate, Nat.reduceSub, Nat.reduceAdd, List.getElem?_cons_zero, List.getElem?_cons_succ, if_true, Bool.false_eq_true, if_false, reduceIte, setF, asg_nm, asg_tp, asgs_nil, asgs_cons, List.set_cons_zero, List.set_cons_succ, Option.bind_some, Nat.reduceLT, gv_i, gv_s, isi_of (ty_s _), isi_of (ty_t _), isi_of (ty_st _), isi_of (ty_ts _), isi_of (ty_i _), isi_of (ty_bi _), isi_of (ty_bb _), isi_of (ty_l _), len_s, len_t, len_l, len_c, pr_tl, pr_tt, pr_lt, pr_ll, cmp_lt, cmp_le, cmp_gt, cmp_ge, eq_s, ne_s, eq_i, ne_i, eq_b, ne_b, add_i, sub_i, mt_s, mtok_s, mtok_l, ite_bl, ite_or, ite_fl, bnd_id, wipeF, Tg.slots, Tg.slotsL, List.append_nil, noexc_ret, seq_t, seq_l, it_t, it_l, List.length_set])
theorem ask13_ok {a b r : D} (h : sem Δ 10 f_taken_by [a, b] = ret r) : sem Δ 11 f_law_ask_13 [.int 0, a, b] = ret r := by
  refine c_try_ok (F := F_law_ask_13) rfl rfl rfl ?_
  (try simp -implicitDefEqProofs only [run_def, startF, exs, ex, ev, evs, evo, iter, bnd_r, bnd_fail, bnd_bnd, opt_some, bnd_exc, bnd_raise, bnd_ite, blD_bl, out_rt, out_nx, ex_raise, List.map_cons, List.map_nil, List.cons_append, List.nil_append, List.length_cons, List.length_nil, List.replicate, Nat.reduceSub, Nat.reduceAdd, List.getElem?_cons_zero, List.getElem?_cons_succ, if_true, Bool.false_eq_true, if_false, reduceIte, setF, asg_nm, asg_tp, asgs_nil, asgs_cons, List.set_cons_zero, List.set_cons_succ, Option.bind_some, Nat.reduceLT, gv_i, gv_s, isi_of (ty_s _), isi_of (ty_t _), isi_of (ty_st _), isi_of (ty_ts _), isi_of (ty_i _), isi_of (ty_bi _), isi_of (ty_bb _), isi_of (ty_l _), len_s, len_t, len_l, len_c, pr_tl, pr_tt, pr_lt, pr_ll, cmp_lt, cmp_le, cmp_gt, cmp_ge, eq_s, ne_s, eq_i, ne_i, eq_b, ne_b, add_i, sub_i, mt_s, mtok_s, mtok_l, ite_bl, ite_or, ite_fl, bnd_id, wipeF, Tg.slots, Tg.slotsL, List.append_nil, noexc_ret, seq_t, seq_l, it_t, it_l, List.length_set])
  rw [show dIdx (.lst [.fn f_taken_by, .fn f_marks, .fn f_how_often_taken, .fn f_alike_words]) (.int 0) = some (.fn f_taken_by) from rfl]
  simp only [opt_some, bnd_r, h]
theorem often0 : sem Δ 10 f_how_often_taken [.tup [], .tup []] = ret (.int 1) := by
  have tk : TplOk [] := ⟨Nat.zero_le _, (fun _ m => nomatch m), rfl⟩
  rw [sem_at (F := F_how_often_taken) rfl rfl]
  unfold F_how_often_taken
  (try simp -implicitDefEqProofs only [run_def, startF, exs, ex, ev, evs, evo, iter, bnd_r, bnd_fail, bnd_bnd, opt_some, bnd_exc, bnd_raise, bnd_ite, blD_bl, out_rt, out_nx, ex_raise, List.map_cons, List.map_nil, List.cons_append, List.nil_append, List.length_cons, List.length_nil, List.replicate, Nat.reduceSub, Nat.reduceAdd, List.getElem?_cons_zero, List.getElem?_cons_succ, if_true, Bool.false_eq_true, if_false, reduceIte, setF, asg_nm, asg_tp, asgs_nil, asgs_cons, List.set_cons_zero, List.set_cons_succ, Option.bind_some, Nat.reduceLT, gv_i, gv_s, isi_of (ty_s _), isi_of (ty_t _), isi_of (ty_st _), isi_of (ty_ts _), isi_of (ty_i _), isi_of (ty_bi _), isi_of (ty_bb _), isi_of (ty_l _), len_s, len_t, len_l, len_c, pr_tl, pr_tt, pr_lt, pr_ll, cmp_lt, cmp_le, cmp_gt, cmp_ge, eq_s, ne_s, eq_i, ne_i, eq_b, ne_b, add_i, sub_i, mt_s, mtok_s, mtok_l, ite_bl, ite_or, ite_fl, bnd_id, wipeF, Tg.slots, Tg.slotsL, List.append_nil, noexc_ret, seq_t, seq_l, it_t, it_l, List.length_set])
  rw [show D.tup [] = encT [] from rfl, c_need 3 tk, show sem Δ 9 f_need_text [encT []] = ret .non from by funext s; kernel_rfl]
  (try simp -implicitDefEqProofs only [run_def, startF, exs, ex, ev, evs, evo, iter, bnd_r, bnd_fail, bnd_bnd, opt_some, bnd_exc, bnd_raise, bnd_ite, blD_bl, out_rt, out_nx, ex_raise, List.map_cons, List.map_nil, List.cons_append, List.nil_append, List.length_cons, List.length_nil, List.replicate, Nat.reduceSub, Nat.reduceAdd, List.getElem?_cons_zero, List.getElem?_cons_succ, if_true, Bool.false_eq_true, if_false, reduceIte, setF, asg_nm, asg_tp, asgs_nil, asgs_cons, List.set_cons_zero, List.set_cons_succ, Option.bind_some, Nat.reduceLT, gv_i, gv_s, isi_of (ty_s _), isi_of (ty_t _), isi_of (ty_st _), isi_of (ty_ts _), isi_of (ty_i _), isi_of (ty_bi _), isi_of (ty_bb _), isi_of (ty_l _), len_s, len_t, len_l, len_c, pr_tl, pr_tt, pr_lt, pr_ll, cmp_lt, cmp_le, cmp_gt, cmp_ge, eq_s, ne_s, eq_i, ne_i, eq_b, ne_b, add_i, sub_i, mt_s, mtok_s, mtok_l, ite_bl, ite_or, ite_fl, bnd_id, wipeF, Tg.slots, Tg.slotsL, List.append_nil, noexc_ret, seq_t, seq_l, it_t, it_l, List.length_set])
  rw [show sem Δ 9 f_runs [encT [], encT []] = ret (.lst [.lst []]) from runs0 6 tk.len]
  (try simp -implicitDefEqProofs only [run_def, startF, exs, ex, ev, evs, evo, iter, bnd_r, bnd_fail, bnd_bnd, opt_some, bnd_exc, bnd_raise, bnd_ite, blD_bl, out_rt, out_nx, ex_raise, List.map_cons, List.map_nil, List.cons_append, List.nil_append, List.length_cons, List.length_nil, List.replicate, Nat.reduceSub, Nat.reduceAdd, List.getElem?_cons_zero, List.getElem?_cons_succ, if_true, Bool.false_eq_true, if_false, reduceIte, setF, asg_nm, asg_tp, asgs_nil, asgs_cons, List.set_cons_zero, List.set_cons_succ, Option.bind_some, Nat.reduceLT, gv_i, gv_s, isi_of (ty_s _), isi_of (ty_t _), isi_of (ty_st _), isi_of (ty_ts _), isi_of (ty_i _), isi_of (ty_bi _), isi_of (ty_bb _), isi_of (ty_l _), len_s, len_t, len_l, len_c, pr_tl, pr_tt, pr_lt, pr_ll, cmp_lt, cmp_le, cmp_gt, cmp_ge, eq_s, ne_s, eq_i, ne_i, eq_b, ne_b, add_i, sub_i, mt_s, mtok_s, mtok_l, ite_bl, ite_or, ite_fl, bnd_id, wipeF, Tg.slots, Tg.slotsL, List.append_nil, noexc_ret, seq_t, seq_l, it_t, it_l, List.length_set])
  rw [Hl.lenOk (by simp), bnd_r]
  unfold compL
  (try simp -implicitDefEqProofs only [run_def, startF, exs, ex, ev, evs, evo, iter, bnd_r, bnd_fail, bnd_bnd, opt_some, bnd_exc, bnd_raise, bnd_ite, blD_bl, out_rt, out_nx, ex_raise, List.map_cons, List.map_nil, List.cons_append, List.nil_append, List.length_cons, List.length_nil, List.replicate, Nat.reduceSub, Nat.reduceAdd, List.getElem?_cons_zero, List.getElem?_cons_succ, if_true, Bool.false_eq_true, if_false, reduceIte, setF, asg_nm, asg_tp, asgs_nil, asgs_cons, List.set_cons_zero, List.set_cons_succ, Option.bind_some, Nat.reduceLT, gv_i, gv_s, isi_of (ty_s _), isi_of (ty_t _), isi_of (ty_st _), isi_of (ty_ts _), isi_of (ty_i _), isi_of (ty_bi _), isi_of (ty_bb _), isi_of (ty_l _), len_s, len_t, len_l, len_c, pr_tl, pr_tt, pr_lt, pr_ll, cmp_lt, cmp_le, cmp_gt, cmp_ge, eq_s, ne_s, eq_i, ne_i, eq_b, ne_b, add_i, sub_i, mt_s, mtok_s, mtok_l, ite_bl, ite_or, ite_fl, bnd_id, wipeF, Tg.slots, Tg.slotsL, List.append_nil, noexc_ret, seq_t, seq_l, it_t, it_l, List.length_set])
  rw [show sem Δ 9 f_worths_of [encT [], encT [], .lst []] = ret (.tup []) from by
    have := c_worths 8 tk [] [] (by simp) fun i n bs hp => by simp at hp
    rw [show D.lst [] = rowE [] from rfl, show encT [] = encS [] from rfl] at *
    rw [this]
    have e : sortG (worthsL [] [] []) = [] := List.eq_nil_of_length_eq_zero (by rw [(sortG_perm _).length_eq]; rfl)
    rw [e]]
  unfold compL
  (try simp -implicitDefEqProofs only [run_def, startF, exs, ex, ev, evs, evo, iter, bnd_r, bnd_fail, bnd_bnd, opt_some, bnd_exc, bnd_raise, bnd_ite, blD_bl, out_rt, out_nx, ex_raise, List.map_cons, List.map_nil, List.cons_append, List.nil_append, List.length_cons, List.length_nil, List.replicate, Nat.reduceSub, Nat.reduceAdd, List.getElem?_cons_zero, List.getElem?_cons_succ, if_true, Bool.false_eq_true, if_false, reduceIte, setF, asg_nm, asg_tp, asgs_nil, asgs_cons, List.set_cons_zero, List.set_cons_succ, Option.bind_some, Nat.reduceLT, gv_i, gv_s, isi_of (ty_s _), isi_of (ty_t _), isi_of (ty_st _), isi_of (ty_ts _), isi_of (ty_i _), isi_of (ty_bi _), isi_of (ty_bb _), isi_of (ty_l _), len_s, len_t, len_l, len_c, pr_tl, pr_tt, pr_lt, pr_ll, cmp_lt, cmp_le, cmp_gt, cmp_ge, eq_s, ne_s, eq_i, ne_i, eq_b, ne_b, add_i, sub_i, mt_s, mtok_s, mtok_l, ite_bl, ite_or, ite_fl, bnd_id, wipeF, Tg.slots, Tg.slotsL, List.append_nil, noexc_ret, seq_t, seq_l, it_t, it_l, List.length_set])
  rfl
theorem ask13_2 {a b r : D} (h : sem Δ 10 f_how_often_taken [a, b] = ret r) : sem Δ 11 f_law_ask_13 [.int 2, a, b] = ret r := by
  refine c_try_ok (F := F_law_ask_13) rfl rfl rfl ?_
  (try simp -implicitDefEqProofs only [run_def, startF, exs, ex, ev, evs, evo, iter, bnd_r, bnd_fail, bnd_bnd, opt_some, bnd_exc, bnd_raise, bnd_ite, blD_bl, out_rt, out_nx, ex_raise, List.map_cons, List.map_nil, List.cons_append, List.nil_append, List.length_cons, List.length_nil, List.replicate, Nat.reduceSub, Nat.reduceAdd, List.getElem?_cons_zero, List.getElem?_cons_succ, if_true, Bool.false_eq_true, if_false, reduceIte, setF, asg_nm, asg_tp, asgs_nil, asgs_cons, List.set_cons_zero, List.set_cons_succ, Option.bind_some, Nat.reduceLT, gv_i, gv_s, isi_of (ty_s _), isi_of (ty_t _), isi_of (ty_st _), isi_of (ty_ts _), isi_of (ty_i _), isi_of (ty_bi _), isi_of (ty_bb _), isi_of (ty_l _), len_s, len_t, len_l, len_c, pr_tl, pr_tt, pr_lt, pr_ll, cmp_lt, cmp_le, cmp_gt, cmp_ge, eq_s, ne_s, eq_i, ne_i, eq_b, ne_b, add_i, sub_i, mt_s, mtok_s, mtok_l, ite_bl, ite_or, ite_fl, bnd_id, wipeF, Tg.slots, Tg.slotsL, List.append_nil, noexc_ret, seq_t, seq_l, it_t, it_l, List.length_set])
  rw [show dIdx (.lst [.fn f_taken_by, .fn f_marks, .fn f_how_often_taken, .fn f_alike_words]) (.int 2) = some (.fn f_how_often_taken) from rfl]
  simp only [opt_some, bnd_r, h]
theorem nil_eq {l : List D} (h : D.plains l = true) : dCmp .eq (.lst l) (.lst []) = some (.bl l.isEmpty) := by
  have ok : (D.lst l).eqOk (.lst []) = true := by
    unfold D.eqOk
    rw [show (D.lst l).plain = true from h, show (D.lst []).plain = true from rfl]
    have : min (D.lst l).dep (D.lst []).dep ≤ 60 := Nat.le_trans (Nat.min_le_right _ _) (by show (1 : Nat) ≤ 60; decide)
    rw [decide_eq_true this]
    rfl
  rw [eq_d ok]
  cases l <;> rfl
theorem fewest_nil : ∀ ps : List Part, (ps.filterMap fun p => if p.free = true then none else some p.enc).isEmpty = ps.all Part.free
  | [] => rfl
  | p :: ps => by
    rw [List.filterMap_cons, List.all_cons]
    cases p.free with
    | true => exact fewest_nil ps
    | false => rfl
theorem THELAW : ∀ ns : List Int, ns.length ≤ 63 → ∃ S, sem Δ 12 f_k29_law [.scr ns] none = .ok (.bl true) S := fun ns _ => by
  refine law_start (c := 40) (F := F_k29_law) rfl rfl rfl (by decide) (by decide) ?_
  unfold F_k29_law
  (try simp -implicitDefEqProofs only [run_def, startF, exs, ex, ev, evs, evo, iter, bnd_r, bnd_fail, bnd_bnd, opt_some, bnd_exc, bnd_raise, bnd_ite, blD_bl, out_rt, out_nx, ex_raise, List.map_cons, List.map_nil, List.cons_append, List.nil_append, List.length_cons, List.length_nil, List.replicate, Nat.reduceSub, Nat.reduceAdd, List.getElem?_cons_zero, List.getElem?_cons_succ, if_true, Bool.false_eq_true, if_false, reduceIte, setF, asg_nm, asg_tp, asgs_nil, asgs_cons, List.set_cons_zero, List.set_cons_succ, Option.bind_some, Nat.reduceLT, gv_i, gv_s, isi_of (ty_s _), isi_of (ty_t _), isi_of (ty_st _), isi_of (ty_ts _), isi_of (ty_i _), isi_of (ty_bi _), isi_of (ty_bb _), isi_of (ty_l _), len_s, len_t, len_l, len_c, pr_tl, pr_tt, pr_lt, pr_ll, cmp_lt, cmp_le, cmp_gt, cmp_ge, eq_s, ne_s, eq_i, ne_i, eq_b, ne_b, add_i, sub_i, mt_s, mtok_s, mtok_l, ite_bl, ite_or, ite_fl, bnd_id, wipeF, Tg.slots, Tg.slotsL, List.append_nil, noexc_ret, seq_t, seq_l, it_t, it_l, List.length_set])
  refine (Hl.bnd (d := 35) (c_odd 6 ns) fun d md => ?_).mono (by decide)
  (try simp -implicitDefEqProofs only [run_def, startF, exs, ex, ev, evs, evo, iter, bnd_r, bnd_fail, bnd_bnd, opt_some, bnd_exc, bnd_raise, bnd_ite, blD_bl, out_rt, out_nx, ex_raise, List.map_cons, List.map_nil, List.cons_append, List.nil_append, List.length_cons, List.length_nil, List.replicate, Nat.reduceSub, Nat.reduceAdd, List.getElem?_cons_zero, List.getElem?_cons_succ, if_true, Bool.false_eq_true, if_false, reduceIte, setF, asg_nm, asg_tp, asgs_nil, asgs_cons, List.set_cons_zero, List.set_cons_succ, Option.bind_some, Nat.reduceLT, gv_i, gv_s, isi_of (ty_s _), isi_of (ty_t _), isi_of (ty_st _), isi_of (ty_ts _), isi_of (ty_i _), isi_of (ty_bi _), isi_of (ty_bb _), isi_of (ty_l _), len_s, len_t, len_l, len_c, pr_tl, pr_tt, pr_lt, pr_ll, cmp_lt, cmp_le, cmp_gt, cmp_ge, eq_s, ne_s, eq_i, ne_i, eq_b, ne_b, add_i, sub_i, mt_s, mtok_s, mtok_l, ite_bl, ite_or, ite_fl, bnd_id, wipeF, Tg.slots, Tg.slotsL, List.append_nil, noexc_ret, seq_t, seq_l, it_t, it_l, List.length_set])
  rw [show rngD 0 4 = some ((List.range 4).map fun (k : Nat) => D.int (k : Int)) from rng_nat (n := 4) (by decide)]
  (try simp -implicitDefEqProofs only [run_def, startF, exs, ex, ev, evs, evo, iter, bnd_r, bnd_fail, bnd_bnd, opt_some, bnd_exc, bnd_raise, bnd_ite, blD_bl, out_rt, out_nx, ex_raise, List.map_cons, List.map_nil, List.cons_append, List.nil_append, List.length_cons, List.length_nil, List.replicate, Nat.reduceSub, Nat.reduceAdd, List.getElem?_cons_zero, List.getElem?_cons_succ, if_true, Bool.false_eq_true, if_false, reduceIte, setF, asg_nm, asg_tp, asgs_nil, asgs_cons, List.set_cons_zero, List.set_cons_succ, Option.bind_some, Nat.reduceLT, gv_i, gv_s, isi_of (ty_s _), isi_of (ty_t _), isi_of (ty_st _), isi_of (ty_ts _), isi_of (ty_i _), isi_of (ty_bi _), isi_of (ty_bb _), isi_of (ty_l _), len_s, len_t, len_l, len_c, pr_tl, pr_tt, pr_lt, pr_ll, cmp_lt, cmp_le, cmp_gt, cmp_ge, eq_s, ne_s, eq_i, ne_i, eq_b, ne_b, add_i, sub_i, mt_s, mtok_s, mtok_l, ite_bl, ite_or, ite_fl, bnd_id, wipeF, Tg.slots, Tg.slotsL, List.append_nil, noexc_ret, seq_t, seq_l, it_t, it_l, List.length_set])
  rw [Hl.lenOk (l := (List.range 4).map fun (k : Nat) => D.int (k : Int)) (by simp), bnd_r, comp_map (List.range 4) (fun k : Nat => D.int (k : Int)) (fun _ => refD 0) fun i mi => ?_]
  · (try simp -implicitDefEqProofs only [run_def, startF, exs, ex, ev, evs, evo, iter, bnd_r, bnd_fail, bnd_bnd, opt_some, bnd_exc, bnd_raise, bnd_ite, blD_bl, out_rt, out_nx, ex_raise, List.map_cons, List.map_nil, List.cons_append, List.nil_append, List.length_cons, List.length_nil, List.replicate, Nat.reduceSub, Nat.reduceAdd, List.getElem?_cons_zero, List.getElem?_cons_succ, if_true, Bool.false_eq_true, if_false, reduceIte, setF, asg_nm, asg_tp, asgs_nil, asgs_cons, List.set_cons_zero, List.set_cons_succ, Option.bind_some, Nat.reduceLT, gv_i, gv_s, isi_of (ty_s _), isi_of (ty_t _), isi_of (ty_st _), isi_of (ty_ts _), isi_of (ty_i _), isi_of (ty_bi _), isi_of (ty_bb _), isi_of (ty_l _), len_s, len_t, len_l, len_c, pr_tl, pr_tt, pr_lt, pr_ll, cmp_lt, cmp_le, cmp_gt, cmp_ge, eq_s, ne_s, eq_i, ne_i, eq_b, ne_b, add_i, sub_i, mt_s, mtok_s, mtok_l, ite_bl, ite_or, ite_fl, bnd_id, wipeF, Tg.slots, Tg.slotsL, List.append_nil, noexc_ret, seq_t, seq_l, it_t, it_l, List.length_set])
    rw [show dBin .mul (.lst [.tup [.str (Str.ofString "refused"), .int 0]]) (.int 4) = some (.lst [refD 0, refD 0, refD 0, refD 0]) from rfl]
    (try simp -implicitDefEqProofs only [run_def, startF, exs, ex, ev, evs, evo, iter, bnd_r, bnd_fail, bnd_bnd, opt_some, bnd_exc, bnd_raise, bnd_ite, blD_bl, out_rt, out_nx, ex_raise, List.map_cons, List.map_nil, List.cons_append, List.nil_append, List.length_cons, List.length_nil, List.replicate, Nat.reduceSub, Nat.reduceAdd, List.getElem?_cons_zero, List.getElem?_cons_succ, if_true, Bool.false_eq_true, if_false, reduceIte, setF, asg_nm, asg_tp, asgs_nil, asgs_cons, List.set_cons_zero, List.set_cons_succ, Option.bind_some, Nat.reduceLT, gv_i, gv_s, isi_of (ty_s _), isi_of (ty_t _), isi_of (ty_st _), isi_of (ty_ts _), isi_of (ty_i _), isi_of (ty_bi _), isi_of (ty_bb _), isi_of (ty_l _), len_s, len_t, len_l, len_c, pr_tl, pr_tt, pr_lt, pr_ll, cmp_lt, cmp_le, cmp_gt, cmp_ge, eq_s, ne_s, eq_i, ne_i, eq_b, ne_b, add_i, sub_i, mt_s, mtok_s, mtok_l, ite_bl, ite_or, ite_fl, bnd_id, wipeF, Tg.slots, Tg.slotsL, List.append_nil, noexc_ret, seq_t, seq_l, it_t, it_l, List.length_set])
    rw [show dCmp .ne (.lst ((List.range 4).map fun _ => refD 0)) (.lst [refD 0, refD 0, refD 0, refD 0]) = some (.bl false) from rfl]
    (try simp -implicitDefEqProofs only [run_def, startF, exs, ex, ev, evs, evo, iter, bnd_r, bnd_fail, bnd_bnd, opt_some, bnd_exc, bnd_raise, bnd_ite, blD_bl, out_rt, out_nx, ex_raise, List.map_cons, List.map_nil, List.cons_append, List.nil_append, List.length_cons, List.length_nil, List.replicate, Nat.reduceSub, Nat.reduceAdd, List.getElem?_cons_zero, List.getElem?_cons_succ, if_true, Bool.false_eq_true, if_false, reduceIte, setF, asg_nm, asg_tp, asgs_nil, asgs_cons, List.set_cons_zero, List.set_cons_succ, Option.bind_some, Nat.reduceLT, gv_i, gv_s, isi_of (ty_s _), isi_of (ty_t _), isi_of (ty_st _), isi_of (ty_ts _), isi_of (ty_i _), isi_of (ty_bi _), isi_of (ty_bb _), isi_of (ty_l _), len_s, len_t, len_l, len_c, pr_tl, pr_tt, pr_lt, pr_ll, cmp_lt, cmp_le, cmp_gt, cmp_ge, eq_s, ne_s, eq_i, ne_i, eq_b, ne_b, add_i, sub_i, mt_s, mtok_s, mtok_l, ite_bl, ite_or, ite_fl, bnd_id, wipeF, Tg.slots, Tg.slotsL, List.append_nil, noexc_ret, seq_t, seq_l, it_t, it_l, List.length_set])
    refine (Hl.bnd (d := 4) (c_template1 5 ns 6 (by decide)) fun t ⟨ps, e, hd, hl⟩ => ?_).mono (by decide)
    subst e
    have tk := hd.tpl
    have hn := c_need 3 tk
    (try simp -implicitDefEqProofs only [run_def, startF, exs, ex, ev, evs, evo, iter, bnd_r, bnd_fail, bnd_bnd, opt_some, bnd_exc, bnd_raise, bnd_ite, blD_bl, out_rt, out_nx, ex_raise, List.map_cons, List.map_nil, List.cons_append, List.nil_append, List.length_cons, List.length_nil, List.replicate, Nat.reduceSub, Nat.reduceAdd, List.getElem?_cons_zero, List.getElem?_cons_succ, if_true, Bool.false_eq_true, if_false, reduceIte, setF, asg_nm, asg_tp, asgs_nil, asgs_cons, List.set_cons_zero, List.set_cons_succ, Option.bind_some, Nat.reduceLT, gv_i, gv_s, isi_of (ty_s _), isi_of (ty_t _), isi_of (ty_st _), isi_of (ty_ts _), isi_of (ty_i _), isi_of (ty_bi _), isi_of (ty_bb _), isi_of (ty_l _), len_s, len_t, len_l, len_c, pr_tl, pr_tt, pr_lt, pr_ll, cmp_lt, cmp_le, cmp_gt, cmp_ge, eq_s, ne_s, eq_i, ne_i, eq_b, ne_b, add_i, sub_i, mt_s, mtok_s, mtok_l, ite_bl, ite_or, ite_fl, bnd_id, wipeF, Tg.slots, Tg.slotsL, List.append_nil, noexc_ret, seq_t, seq_l, it_t, it_l, List.length_set])
    rw [show dBin .mul (.tup [.str (Str.ofString "a")]) (.int 13) = some (.tup (List.replicate 13 (.str "a"))) from rfl]
    (try simp -implicitDefEqProofs only [run_def, startF, exs, ex, ev, evs, evo, iter, bnd_r, bnd_fail, bnd_bnd, opt_some, bnd_exc, bnd_raise, bnd_ite, blD_bl, out_rt, out_nx, ex_raise, List.map_cons, List.map_nil, List.cons_append, List.nil_append, List.length_cons, List.length_nil, List.replicate, Nat.reduceSub, Nat.reduceAdd, List.getElem?_cons_zero, List.getElem?_cons_succ, if_true, Bool.false_eq_true, if_false, reduceIte, setF, asg_nm, asg_tp, asgs_nil, asgs_cons, List.set_cons_zero, List.set_cons_succ, Option.bind_some, Nat.reduceLT, gv_i, gv_s, isi_of (ty_s _), isi_of (ty_t _), isi_of (ty_st _), isi_of (ty_ts _), isi_of (ty_i _), isi_of (ty_bi _), isi_of (ty_bb _), isi_of (ty_l _), len_s, len_t, len_l, len_c, pr_tl, pr_tt, pr_lt, pr_ll, cmp_lt, cmp_le, cmp_gt, cmp_ge, eq_s, ne_s, eq_i, ne_i, eq_b, ne_b, add_i, sub_i, mt_s, mtok_s, mtok_l, ite_bl, ite_or, ite_fl, bnd_id, wipeF, Tg.slots, Tg.slotsL, List.append_nil, noexc_ret, seq_t, seq_l, it_t, it_l, List.length_set])
    refine (Hl.bnd (d := 0) (c_pick1 7 ns badX (by decide)) fun w mw => ?_).mono (by decide)
    (try simp -implicitDefEqProofs only [run_def, startF, exs, ex, ev, evs, evo, iter, bnd_r, bnd_fail, bnd_bnd, opt_some, bnd_exc, bnd_raise, bnd_ite, blD_bl, out_rt, out_nx, ex_raise, List.map_cons, List.map_nil, List.cons_append, List.nil_append, List.length_cons, List.length_nil, List.replicate, Nat.reduceSub, Nat.reduceAdd, List.getElem?_cons_zero, List.getElem?_cons_succ, if_true, Bool.false_eq_true, if_false, reduceIte, setF, asg_nm, asg_tp, asgs_nil, asgs_cons, List.set_cons_zero, List.set_cons_succ, Option.bind_some, Nat.reduceLT, gv_i, gv_s, isi_of (ty_s _), isi_of (ty_t _), isi_of (ty_st _), isi_of (ty_ts _), isi_of (ty_i _), isi_of (ty_bi _), isi_of (ty_bb _), isi_of (ty_l _), len_s, len_t, len_l, len_c, pr_tl, pr_tt, pr_lt, pr_ll, cmp_lt, cmp_le, cmp_gt, cmp_ge, eq_s, ne_s, eq_i, ne_i, eq_b, ne_b, add_i, sub_i, mt_s, mtok_s, mtok_l, ite_bl, ite_or, ite_fl, bnd_id, wipeF, Tg.slots, Tg.slotsL, List.append_nil, noexc_ret, seq_t, seq_l, it_t, it_l, List.length_set])
    rw [comp_map (List.range 4) (fun k : Nat => D.int (k : Int)) (fun _ => refD 1) fun i mi => ?_]
    · (try simp -implicitDefEqProofs only [run_def, startF, exs, ex, ev, evs, evo, iter, bnd_r, bnd_fail, bnd_bnd, opt_some, bnd_exc, bnd_raise, bnd_ite, blD_bl, out_rt, out_nx, ex_raise, List.map_cons, List.map_nil, List.cons_append, List.nil_append, List.length_cons, List.length_nil, List.replicate, Nat.reduceSub, Nat.reduceAdd, List.getElem?_cons_zero, List.getElem?_cons_succ, if_true, Bool.false_eq_true, if_false, reduceIte, setF, asg_nm, asg_tp, asgs_nil, asgs_cons, List.set_cons_zero, List.set_cons_succ, Option.bind_some, Nat.reduceLT, gv_i, gv_s, isi_of (ty_s _), isi_of (ty_t _), isi_of (ty_st _), isi_of (ty_ts _), isi_of (ty_i _), isi_of (ty_bi _), isi_of (ty_bb _), isi_of (ty_l _), len_s, len_t, len_l, len_c, pr_tl, pr_tt, pr_lt, pr_ll, cmp_lt, cmp_le, cmp_gt, cmp_ge, eq_s, ne_s, eq_i, ne_i, eq_b, ne_b, add_i, sub_i, mt_s, mtok_s, mtok_l, ite_bl, ite_or, ite_fl, bnd_id, wipeF, Tg.slots, Tg.slotsL, List.append_nil, noexc_ret, seq_t, seq_l, it_t, it_l, List.length_set])
      rw [show dBin .mul (.lst [.tup [.str (Str.ofString "refused"), .int 1]]) (.int 4) = some (.lst [refD 1, refD 1, refD 1, refD 1]) from rfl]
      (try simp -implicitDefEqProofs only [run_def, startF, exs, ex, ev, evs, evo, iter, bnd_r, bnd_fail, bnd_bnd, opt_some, bnd_exc, bnd_raise, bnd_ite, blD_bl, out_rt, out_nx, ex_raise, List.map_cons, List.map_nil, List.cons_append, List.nil_append, List.length_cons, List.length_nil, List.replicate, Nat.reduceSub, Nat.reduceAdd, List.getElem?_cons_zero, List.getElem?_cons_succ, if_true, Bool.false_eq_true, if_false, reduceIte, setF, asg_nm, asg_tp, asgs_nil, asgs_cons, List.set_cons_zero, List.set_cons_succ, Option.bind_some, Nat.reduceLT, gv_i, gv_s, isi_of (ty_s _), isi_of (ty_t _), isi_of (ty_st _), isi_of (ty_ts _), isi_of (ty_i _), isi_of (ty_bi _), isi_of (ty_bb _), isi_of (ty_l _), len_s, len_t, len_l, len_c, pr_tl, pr_tt, pr_lt, pr_ll, cmp_lt, cmp_le, cmp_gt, cmp_ge, eq_s, ne_s, eq_i, ne_i, eq_b, ne_b, add_i, sub_i, mt_s, mtok_s, mtok_l, ite_bl, ite_or, ite_fl, bnd_id, wipeF, Tg.slots, Tg.slotsL, List.append_nil, noexc_ret, seq_t, seq_l, it_t, it_l, List.length_set])
      rw [show dCmp .ne (.lst ((List.range 4).map fun _ => refD 1)) (.lst [refD 1, refD 1, refD 1, refD 1]) = some (.bl false) from rfl]
      (try simp -implicitDefEqProofs only [run_def, startF, exs, ex, ev, evs, evo, iter, bnd_r, bnd_fail, bnd_bnd, opt_some, bnd_exc, bnd_raise, bnd_ite, blD_bl, out_rt, out_nx, ex_raise, List.map_cons, List.map_nil, List.cons_append, List.nil_append, List.length_cons, List.length_nil, List.replicate, Nat.reduceSub, Nat.reduceAdd, List.getElem?_cons_zero, List.getElem?_cons_succ, if_true, Bool.false_eq_true, if_false, reduceIte, setF, asg_nm, asg_tp, asgs_nil, asgs_cons, List.set_cons_zero, List.set_cons_succ, Option.bind_some, Nat.reduceLT, gv_i, gv_s, isi_of (ty_s _), isi_of (ty_t _), isi_of (ty_st _), isi_of (ty_ts _), isi_of (ty_i _), isi_of (ty_bi _), isi_of (ty_bb _), isi_of (ty_l _), len_s, len_t, len_l, len_c, pr_tl, pr_tt, pr_lt, pr_ll, cmp_lt, cmp_le, cmp_gt, cmp_ge, eq_s, ne_s, eq_i, ne_i, eq_b, ne_b, add_i, sub_i, mt_s, mtok_s, mtok_l, ite_bl, ite_or, ite_fl, bnd_id, wipeF, Tg.slots, Tg.slotsL, List.append_nil, noexc_ret, seq_t, seq_l, it_t, it_l, List.length_set])
      rw [itT']
      (try simp -implicitDefEqProofs only [run_def, startF, exs, ex, ev, evs, evo, iter, bnd_r, bnd_fail, bnd_bnd, opt_some, bnd_exc, bnd_raise, bnd_ite, blD_bl, out_rt, out_nx, ex_raise, List.map_cons, List.map_nil, List.cons_append, List.nil_append, List.length_cons, List.length_nil, List.replicate, Nat.reduceSub, Nat.reduceAdd, List.getElem?_cons_zero, List.getElem?_cons_succ, if_true, Bool.false_eq_true, if_false, reduceIte, setF, asg_nm, asg_tp, asgs_nil, asgs_cons, List.set_cons_zero, List.set_cons_succ, Option.bind_some, Nat.reduceLT, gv_i, gv_s, isi_of (ty_s _), isi_of (ty_t _), isi_of (ty_st _), isi_of (ty_ts _), isi_of (ty_i _), isi_of (ty_bi _), isi_of (ty_bb _), isi_of (ty_l _), len_s, len_t, len_l, len_c, pr_tl, pr_tt, pr_lt, pr_ll, cmp_lt, cmp_le, cmp_gt, cmp_ge, eq_s, ne_s, eq_i, ne_i, eq_b, ne_b, add_i, sub_i, mt_s, mtok_s, mtok_l, ite_bl, ite_or, ite_fl, bnd_id, wipeF, Tg.slots, Tg.slotsL, List.append_nil, noexc_ret, seq_t, seq_l, it_t, it_l, List.length_set])
      rw [Hl.lenOk (by rw [List.length_map]; have := tk.len; omega), bnd_r, comp_fm ps Part.enc (fun p => if p.free = true then none else some p.enc) fun p _ => ?_]
      · (try simp -implicitDefEqProofs only [run_def, startF, exs, ex, ev, evs, evo, iter, bnd_r, bnd_fail, bnd_bnd, opt_some, bnd_exc, bnd_raise, bnd_ite, blD_bl, out_rt, out_nx, ex_raise, List.map_cons, List.map_nil, List.cons_append, List.nil_append, List.length_cons, List.length_nil, List.replicate, Nat.reduceSub, Nat.reduceAdd, List.getElem?_cons_zero, List.getElem?_cons_succ, if_true, Bool.false_eq_true, if_false, reduceIte, setF, asg_nm, asg_tp, asgs_nil, asgs_cons, List.set_cons_zero, List.set_cons_succ, Option.bind_some, Nat.reduceLT, gv_i, gv_s, isi_of (ty_s _), isi_of (ty_t _), isi_of (ty_st _), isi_of (ty_ts _), isi_of (ty_i _), isi_of (ty_bi _), isi_of (ty_bb _), isi_of (ty_l _), len_s, len_t, len_l, len_c, pr_tl, pr_tt, pr_lt, pr_ll, cmp_lt, cmp_le, cmp_gt, cmp_ge, eq_s, ne_s, eq_i, ne_i, eq_b, ne_b, add_i, sub_i, mt_s, mtok_s, mtok_l, ite_bl, ite_or, ite_fl, bnd_id, wipeF, Tg.slots, Tg.slotsL, List.append_nil, noexc_ret, seq_t, seq_l, it_t, it_l, List.length_set])
        rw [ask13_ok (taken0 tk), ask13_2 often0]
        (try simp -implicitDefEqProofs only [run_def, startF, exs, ex, ev, evs, evo, iter, bnd_r, bnd_fail, bnd_bnd, opt_some, bnd_exc, bnd_raise, bnd_ite, blD_bl, out_rt, out_nx, ex_raise, List.map_cons, List.map_nil, List.cons_append, List.nil_append, List.length_cons, List.length_nil, List.replicate, Nat.reduceSub, Nat.reduceAdd, List.getElem?_cons_zero, List.getElem?_cons_succ, if_true, Bool.false_eq_true, if_false, reduceIte, setF, asg_nm, asg_tp, asgs_nil, asgs_cons, List.set_cons_zero, List.set_cons_succ, Option.bind_some, Nat.reduceLT, gv_i, gv_s, isi_of (ty_s _), isi_of (ty_t _), isi_of (ty_st _), isi_of (ty_ts _), isi_of (ty_i _), isi_of (ty_bi _), isi_of (ty_bb _), isi_of (ty_l _), len_s, len_t, len_l, len_c, pr_tl, pr_tt, pr_lt, pr_ll, cmp_lt, cmp_le, cmp_gt, cmp_ge, eq_s, ne_s, eq_i, ne_i, eq_b, ne_b, add_i, sub_i, mt_s, mtok_s, mtok_l, ite_bl, ite_or, ite_fl, bnd_id, wipeF, Tg.slots, Tg.slotsL, List.append_nil, noexc_ret, seq_t, seq_l, it_t, it_l, List.length_set])
        have hpl : D.plains (ps.filterMap fun p => if p.free = true then none else some p.enc) = true := plains_of fun d m => by
          obtain ⟨p, _, e⟩ := List.mem_filterMap.mp m
          split at e
          · cases e
          · cases e; exact D.pr_plain _ (enc_pr p)
        rw [nil_eq hpl]
        (try simp -implicitDefEqProofs only [run_def, startF, exs, ex, ev, evs, evo, iter, bnd_r, bnd_fail, bnd_bnd, opt_some, bnd_exc, bnd_raise, bnd_ite, blD_bl, out_rt, out_nx, ex_raise, List.map_cons, List.map_nil, List.cons_append, List.nil_append, List.length_cons, List.length_nil, List.replicate, Nat.reduceSub, Nat.reduceAdd, List.getElem?_cons_zero, List.getElem?_cons_succ, if_true, Bool.false_eq_true, if_false, reduceIte, setF, asg_nm, asg_tp, asgs_nil, asgs_cons, List.set_cons_zero, List.set_cons_succ, Option.bind_some, Nat.reduceLT, gv_i, gv_s, isi_of (ty_s _), isi_of (ty_t _), isi_of (ty_st _), isi_of (ty_ts _), isi_of (ty_i _), isi_of (ty_bi _), isi_of (ty_bb _), isi_of (ty_l _), len_s, len_t, len_l, len_c, pr_tl, pr_tt, pr_lt, pr_ll, cmp_lt, cmp_le, cmp_gt, cmp_ge, eq_s, ne_s, eq_i, ne_i, eq_b, ne_b, add_i, sub_i, mt_s, mtok_s, mtok_l, ite_bl, ite_or, ite_fl, bnd_id, wipeF, Tg.slots, Tg.slotsL, List.append_nil, noexc_ret, seq_t, seq_l, it_t, it_l, List.length_set])
        have he : endB ps none = ps.all Part.free := by
          show (doneB ps none && skipB ps (Stand.nxt none) ps.length) = _
          show (true && skipB ps 0 ps.length) = _
          unfold skipB
          simp
        have hf := fewest_nil ps
        rw [hf, ← he]
        cases endB ps none
        · exact Hl.ret (a := D.bl true) rfl
        · exact Hl.ret (a := D.bl true) rfl
      · (try simp -implicitDefEqProofs only [run_def, startF, exs, ex, ev, evs, evo, iter, bnd_r, bnd_fail, bnd_bnd, opt_some, bnd_exc, bnd_raise, bnd_ite, blD_bl, out_rt, out_nx, ex_raise, List.map_cons, List.map_nil, List.cons_append, List.nil_append, List.length_cons, List.length_nil, List.replicate, Nat.reduceSub, Nat.reduceAdd, List.getElem?_cons_zero, List.getElem?_cons_succ, if_true, Bool.false_eq_true, if_false, reduceIte, setF, asg_nm, asg_tp, asgs_nil, asgs_cons, List.set_cons_zero, List.set_cons_succ, Option.bind_some, Nat.reduceLT, gv_i, gv_s, isi_of (ty_s _), isi_of (ty_t _), isi_of (ty_st _), isi_of (ty_ts _), isi_of (ty_i _), isi_of (ty_bi _), isi_of (ty_bb _), isi_of (ty_l _), len_s, len_t, len_l, len_c, pr_tl, pr_tt, pr_lt, pr_ll, cmp_lt, cmp_le, cmp_gt, cmp_ge, eq_s, ne_s, eq_i, ne_i, eq_b, ne_b, add_i, sub_i, mt_s, mtok_s, mtok_l, ite_bl, ite_or, ite_fl, bnd_id, wipeF, Tg.slots, Tg.slotsL, List.append_nil, noexc_ret, seq_t, seq_l, it_t, it_l, List.length_set])
        rw [pk]
        (try simp -implicitDefEqProofs only [run_def, startF, exs, ex, ev, evs, evo, iter, bnd_r, bnd_fail, bnd_bnd, opt_some, bnd_exc, bnd_raise, bnd_ite, blD_bl, out_rt, out_nx, ex_raise, List.map_cons, List.map_nil, List.cons_append, List.nil_append, List.length_cons, List.length_nil, List.replicate, Nat.reduceSub, Nat.reduceAdd, List.getElem?_cons_zero, List.getElem?_cons_succ, if_true, Bool.false_eq_true, if_false, reduceIte, setF, asg_nm, asg_tp, asgs_nil, asgs_cons, List.set_cons_zero, List.set_cons_succ, Option.bind_some, Nat.reduceLT, gv_i, gv_s, isi_of (ty_s _), isi_of (ty_t _), isi_of (ty_st _), isi_of (ty_ts _), isi_of (ty_i _), isi_of (ty_bi _), isi_of (ty_bb _), isi_of (ty_l _), len_s, len_t, len_l, len_c, pr_tl, pr_tt, pr_lt, pr_ll, cmp_lt, cmp_le, cmp_gt, cmp_ge, eq_s, ne_s, eq_i, ne_i, eq_b, ne_b, add_i, sub_i, mt_s, mtok_s, mtok_l, ite_bl, ite_or, ite_fl, bnd_id, wipeF, Tg.slots, Tg.slotsL, List.append_nil, noexc_ret, seq_t, seq_l, it_t, it_l, List.length_set])
        cases p with
        | word v => rfl
        | one n bs => rfl
        | sm n lo bs =>
          rw [show dIdx (Part.sm n lo bs).enc (.int 2) = some (.int lo) from ix2 ..]
          (try simp -implicitDefEqProofs only [run_def, startF, exs, ex, ev, evs, evo, iter, bnd_r, bnd_fail, bnd_bnd, opt_some, bnd_exc, bnd_raise, bnd_ite, blD_bl, out_rt, out_nx, ex_raise, List.map_cons, List.map_nil, List.cons_append, List.nil_append, List.length_cons, List.length_nil, List.replicate, Nat.reduceSub, Nat.reduceAdd, List.getElem?_cons_zero, List.getElem?_cons_succ, if_true, Bool.false_eq_true, if_false, reduceIte, setF, asg_nm, asg_tp, asgs_nil, asgs_cons, List.set_cons_zero, List.set_cons_succ, Option.bind_some, Nat.reduceLT, gv_i, gv_s, isi_of (ty_s _), isi_of (ty_t _), isi_of (ty_st _), isi_of (ty_ts _), isi_of (ty_i _), isi_of (ty_bi _), isi_of (ty_bb _), isi_of (ty_l _), len_s, len_t, len_l, len_c, pr_tl, pr_tt, pr_lt, pr_ll, cmp_lt, cmp_le, cmp_gt, cmp_ge, eq_s, ne_s, eq_i, ne_i, eq_b, ne_b, add_i, sub_i, mt_s, mtok_s, mtok_l, ite_bl, ite_or, ite_fl, bnd_id, wipeF, Tg.slots, Tg.slotsL, List.append_nil, noexc_ret, seq_t, seq_l, it_t, it_l, List.length_set])
          show (if decide ((0 : Int) < (lo : Int)) = true then ret (some (Part.sm n lo bs).enc) else ret none) = ret (if (lo == 0) = true then none else some (Part.sm n lo bs).enc)
          by_cases e : lo = 0
          · subst e; rfl
          · rw [decide_eq_true (show (0 : Int) < (lo : Int) by omega), beq_eq_false_iff_ne.mpr e]; rfl
    · (try simp -implicitDefEqProofs only [run_def, startF, exs, ex, ev, evs, evo, iter, bnd_r, bnd_fail, bnd_bnd, opt_some, bnd_exc, bnd_raise, bnd_ite, blD_bl, out_rt, out_nx, ex_raise, List.map_cons, List.map_nil, List.cons_append, List.nil_append, List.length_cons, List.length_nil, List.replicate, Nat.reduceSub, Nat.reduceAdd, List.getElem?_cons_zero, List.getElem?_cons_succ, if_true, Bool.false_eq_true, if_false, reduceIte, setF, asg_nm, asg_tp, asgs_nil, asgs_cons, List.set_cons_zero, List.set_cons_succ, Option.bind_some, Nat.reduceLT, gv_i, gv_s, isi_of (ty_s _), isi_of (ty_t _), isi_of (ty_st _), isi_of (ty_ts _), isi_of (ty_i _), isi_of (ty_bi _), isi_of (ty_bb _), isi_of (ty_l _), len_s, len_t, len_l, len_c, pr_tl, pr_tt, pr_lt, pr_ll, cmp_lt, cmp_le, cmp_gt, cmp_ge, eq_s, ne_s, eq_i, ne_i, eq_b, ne_b, add_i, sub_i, mt_s, mtok_s, mtok_l, ite_bl, ite_or, ite_fl, bnd_id, wipeF, Tg.slots, Tg.slotsL, List.append_nil, noexc_ret, seq_t, seq_l, it_t, it_l, List.length_set])
      rw [ask13_text hn w mw i (List.mem_range.mp mi)]
      rfl
  · (try simp -implicitDefEqProofs only [run_def, startF, exs, ex, ev, evs, evo, iter, bnd_r, bnd_fail, bnd_bnd, opt_some, bnd_exc, bnd_raise, bnd_ite, blD_bl, out_rt, out_nx, ex_raise, List.map_cons, List.map_nil, List.cons_append, List.nil_append, List.length_cons, List.length_nil, List.replicate, Nat.reduceSub, Nat.reduceAdd, List.getElem?_cons_zero, List.getElem?_cons_succ, if_true, Bool.false_eq_true, if_false, reduceIte, setF, asg_nm, asg_tp, asgs_nil, asgs_cons, List.set_cons_zero, List.set_cons_succ, Option.bind_some, Nat.reduceLT, gv_i, gv_s, isi_of (ty_s _), isi_of (ty_t _), isi_of (ty_st _), isi_of (ty_ts _), isi_of (ty_i _), isi_of (ty_bi _), isi_of (ty_bb _), isi_of (ty_l _), len_s, len_t, len_l, len_c, pr_tl, pr_tt, pr_lt, pr_ll, cmp_lt, cmp_le, cmp_gt, cmp_ge, eq_s, ne_s, eq_i, ne_i, eq_b, ne_b, add_i, sub_i, mt_s, mtok_s, mtok_l, ite_bl, ite_or, ite_fl, bnd_id, wipeF, Tg.slots, Tg.slotsL, List.append_nil, noexc_ret, seq_t, seq_l, it_t, it_l, List.length_set])
    rw [ask13_bad d md i (List.mem_range.mp mi)]
    rfl
end G
namespace G
open PySem L2
def tp (i : Nat) : Stmt := PySem.Challenge.pw_gapforms_k29_marking_refused.main.body.getD i (.Pass ⟨0, 0, 0, 0⟩)
def tab : Tab := ⟨[(("_law_cell_at" : Str), f_law_cell_at), (("_law_mixed" : Str), f_law_mixed_1), (("_law_draw" : Str), f_law_draw_1), (("_law_pick" : Str), f_law_pick_1), (("_law_odd" : Str), f_law_odd), (("_law_barred" : Str), f_law_barred_1), (("_law_template" : Str), f_law_template_1), (("is_word" : Str), f_is_word), (("are_words" : Str), f_are_words), (("is_barred" : Str), f_is_barred), (("is_whole" : Str), f_is_whole), (("is_part" : Str), f_is_part), (("is_template" : Str), f_is_template), (("need_template" : Str), f_need_template), (("is_text" : Str), f_is_text), (("need_text" : Str), f_need_text), (("is_done" : Str), f_is_done), (("may_skip" : Str), f_may_skip), (("end_now" : Str), f_end_now), (("takes" : Str), f_takes), (("most_of" : Str), f_most_of), (("moves_at" : Str), f_moves_at), (("runs" : Str), f_runs), (("worths_of" : Str), f_worths_of), (("first_run" : Str), f_first_run), (("taken_by" : Str), f_taken_by), (("marks" : Str), f_marks), (("how_often_taken" : Str), f_how_often_taken), (("alike_words" : Str), f_alike_words), (("_law_ask" : Str), f_law_ask_13), (("law" : Str), f_k29_law)], [(("NoTemplate" : Str), 0), (("NoText" : Str), 1), (("NoWorths" : Str), 2), (("NoStand" : Str), 3), (("NoWord" : Str), 4), (("NoBook" : Str), 5), (("NoRows" : Str), 6), (("NoPair" : Str), 7), (("Unsure" : Str), 8), (("NoForm" : Str), 9), (("NoNumber" : Str), 10), (("NoName" : Str), 11), (("TooGreat" : Str), 12), (("NoDeed" : Str), 13)], [("LETTERS", (.str "abcdefghijklmnopqrstuvwxyz")), ("LONGEST", (.int 4)), ("WORDS", (.int 12)), ("PARTS", (.int 6)), ("BARRED", (.int 3)), ("LOW", (.int 2)), ("BEGIN", (.tup [(-1), (0)]))], [(("_law_which" : Str), f_law_which_1)]⟩
theorem ck0 : chkF tab Δ false F_law_cell_at (tp 51) = true := by decide +kernel
theorem ck1 : chkF tab Δ false F_law_mixed_1 (tp 52) = true := by decide +kernel
theorem ck2 : chkF tab Δ false F_law_draw_1 (tp 53) = true := by decide +kernel
theorem ck3 : chkF tab Δ false F_law_pick_1 (tp 54) = true := by decide +kernel
theorem ck4 : chkF tab Δ false F_law_odd (tp 61) = true := by decide +kernel
theorem ck5 : chkF tab Δ false F_law_barred_1 (tp 55) = true := by decide +kernel
theorem ck6 : chkF tab Δ false F_law_template_1 (tp 56) = true := by decide +kernel
theorem ck7 : chkF tab Δ false F_is_word (tp 25) = true := by decide +kernel
theorem ck8 : chkF tab Δ false F_are_words (tp 26) = true := by decide +kernel
theorem ck9 : chkF tab Δ false F_is_barred (tp 28) = true := by decide +kernel
theorem ck10 : chkF tab Δ false F_is_whole (tp 24) = true := by decide +kernel
theorem ck11 : chkF tab Δ false F_is_part (tp 29) = true := by decide +kernel
theorem ck12 : chkF tab Δ false F_is_template (tp 30) = true := by decide +kernel
theorem ck13 : chkF tab Δ false F_need_template (tp 31) = true := by decide +kernel
theorem ck14 : chkF tab Δ false F_is_text (tp 27) = true := by decide +kernel
theorem ck15 : chkF tab Δ false F_need_text (tp 32) = true := by decide +kernel
theorem ck16 : chkF tab Δ false F_is_done (tp 37) = true := by decide +kernel
theorem ck17 : chkF tab Δ false F_may_skip (tp 38) = true := by decide +kernel
theorem ck18 : chkF tab Δ false F_end_now (tp 39) = true := by decide +kernel
theorem ck19 : chkF tab Δ false F_takes (tp 33) = true := by decide +kernel
theorem ck20 : chkF tab Δ false F_most_of (tp 36) = true := by decide +kernel
theorem ck21 : chkF tab Δ false F_moves_at (tp 40) = true := by decide +kernel
theorem ck22 : chkF tab Δ false F_runs (tp 42) = true := by decide +kernel
theorem ck23 : chkF tab Δ false F_worths_of (tp 43) = true := by decide +kernel
theorem ck24 : chkF tab Δ false F_first_run (tp 45) = true := by decide +kernel
theorem ck25 : chkF tab Δ false F_taken_by (tp 46) = true := by decide +kernel
theorem ck26 : chkF tab Δ false F_marks (tp 47) = true := by decide +kernel
theorem ck27 : chkF tab Δ false F_how_often_taken (tp 48) = true := by decide +kernel
theorem ck28 : chkF tab Δ false F_alike_words (tp 49) = true := by decide +kernel
theorem ck29 : chkF tab Δ false F_law_ask_13 (tp 63) = true := by decide +kernel
theorem ck30 : chkF tab Δ false F_k29_law (tp 64) = true := by decide +kernel
theorem cw0 : chkF tab Δ true F_law_which_1 (tp 62) = true := by decide +kernel
theorem all_mk {l : PySem.W.OpenLaw} {w : World} {K : PySem.W.Frag} {h : Heap} {mg : Str → Option Value} {fa a0 a1 a2 a3 a4 a5 a6 a7 a8 a9 a10 a11 a12 a13 a14 a15 a16 a17 a18 a19 a20 a21 a22 a23 a24 a25 a26 a27 a28 a29 a30 a31 c0 c1 c2 c3 c4 c5 c6 c7 c8 c9 c10 c11 c12 c13 dS cG : Addr} {od0 od1 od2 od3 od4 od5 od6 od7 od8 od9 od10 od11 od12 od13 od14 od15 od16 od17 od18 od19 od20 od21 od22 od23 od24 od25 od26 od27 od28 od29 od30 od31 an0 an1 an2 an3 an4 an5 an6 an7 an8 an9 an10 an11 an12 an13 an14 an15 an16 an17 an18 an19 an20 an21 an22 an23 an24 an25 an26 an27 an28 an29 an30 an31 : Option Addr} {sl0 sl1 sl2 sl3 sl4 sl5 sl6 sl7 sl8 sl9 sl10 sl11 sl12 sl13 sl14 sl15 sl16 sl17 sl18 sl19 sl20 sl21 sl22 sl23 sl24 sl25 sl26 sl27 sl28 sl29 sl30 sl31 : Array (Option Value)} {oc0 kV0 dc0 pm0 cd0 ct0 oc1 kV1 dc1 pm1 cd1 ct1 oc2 kV2 dc2 pm2 cd2 ct2 oc3 kV3 dc3 pm3 cd3 ct3 oc4 kV4 dc4 pm4 cd4 ct4 oc5 kV5 dc5 pm5 cd5 ct5 oc6 kV6 dc6 pm6 cd6 ct6 oc7 kV7 dc7 pm7 cd7 ct7 oc8 kV8 dc8 pm8 cd8 ct8 oc9 kV9 dc9 pm9 cd9 ct9 oc10 kV10 dc10 pm10 cd10 ct10 oc11 kV11 dc11 pm11 cd11 ct11 oc12 kV12 dc12 pm12 cd12 ct12 oc13 kV13 dc13 pm13 cd13 ct13 oc14 kV14 dc14 pm14 cd14 ct14 oc15 kV15 dc15 pm15 cd15 ct15 oc16 kV16 dc16 pm16 cd16 ct16 oc17 kV17 dc17 pm17 cd17 ct17 oc18 kV18 dc18 pm18 cd18 ct18 oc19 kV19 dc19 pm19 cd19 ct19 oc20 kV20 dc20 pm20 cd20 ct20 oc21 kV21 dc21 pm21 cd21 ct21 oc22 kV22 dc22 pm22 cd22 ct22 oc23 kV23 dc23 pm23 cd23 ct23 oc24 kV24 dc24 pm24 cd24 ct24 oc25 kV25 dc25 pm25 cd25 ct25 oc26 kV26 dc26 pm26 cd26 ct26 oc27 kV27 dc27 pm27 cd27 ct27 oc28 kV28 dc28 pm28 cd28 ct28 oc29 kV29 dc29 pm29 cd29 ct29 oc30 kV30 dc30 pm30 cd30 ct30 oc31 kV31 dc31 pm31 cd31 ct31 : Value} {gt0 : Tok} {gt1 : Tok} {gt2 : Tok} {gt3 : Tok} {gt4 : Tok} {gt5 : Tok} {ga6 : Addr} {gd6 : Option Addr} {gs6 : Array (Option Value)} {gn6 : Nat} {gt6_0 gt6_1 : Tok} {st1 st2 st3 su1 su2 su3 : Tok} {sn : Nat} (X : K.In h) (G : h.Ns mainGlobals mg) (hfa : mg "law" = some (.ref fa))
    (n0 : PySem.W.nsIn K mainGlobals "_law_cell_at" = some (some (.ref a0)))
    (l0 : K.lookup a0 = some ⟨oc0, od0, .func (PySem.W.fnOf "_law_cell_at" "_law_cell_at" (defArgs (tp 51)) (defBody (tp 51)) (defScope (tp 51)) .none kV0 dc0 pm0 an0 cd0 ct0), sl0⟩)
    (q0 : PySem.W.codeIn K cd0 "_law_cell_at" = true)
    (k0 : PySem.W.keepIn K (.ref a0) = true)
    (n1 : PySem.W.nsIn K mainGlobals "_law_mixed" = some (some (.ref a1)))
    (l1 : K.lookup a1 = some ⟨oc1, od1, .func (PySem.W.fnOf "_law_mixed" "_law_mixed" (defArgs (tp 52)) (defBody (tp 52)) (defScope (tp 52)) .none kV1 dc1 pm1 an1 cd1 ct1), sl1⟩)
    (q1 : PySem.W.codeIn K cd1 "_law_mixed" = true)
    (k1 : PySem.W.keepIn K (.ref a1) = true)
    (n2 : PySem.W.nsIn K mainGlobals "_law_draw" = some (some (.ref a2)))
    (l2 : K.lookup a2 = some ⟨oc2, od2, .func (PySem.W.fnOf "_law_draw" "_law_draw" (defArgs (tp 53)) (defBody (tp 53)) (defScope (tp 53)) .none kV2 dc2 pm2 an2 cd2 ct2), sl2⟩)
    (q2 : PySem.W.codeIn K cd2 "_law_draw" = true)
    (k2 : PySem.W.keepIn K (.ref a2) = true)
    (n3 : PySem.W.nsIn K mainGlobals "_law_pick" = some (some (.ref a3)))
    (l3 : K.lookup a3 = some ⟨oc3, od3, .func (PySem.W.fnOf "_law_pick" "_law_pick" (defArgs (tp 54)) (defBody (tp 54)) (defScope (tp 54)) .none kV3 dc3 pm3 an3 cd3 ct3), sl3⟩)
    (q3 : PySem.W.codeIn K cd3 "_law_pick" = true)
    (k3 : PySem.W.keepIn K (.ref a3) = true)
    (n4 : PySem.W.nsIn K mainGlobals "_law_odd" = some (some (.ref a4)))
    (l4 : K.lookup a4 = some ⟨oc4, od4, .func (PySem.W.fnOf "_law_odd" "_law_odd" (defArgs (tp 61)) (defBody (tp 61)) (defScope (tp 61)) .none kV4 dc4 pm4 an4 cd4 ct4), sl4⟩)
    (q4 : PySem.W.codeIn K cd4 "_law_odd" = true)
    (k4 : PySem.W.keepIn K (.ref a4) = true)
    (n5 : PySem.W.nsIn K mainGlobals "_law_barred" = some (some (.ref a5)))
    (l5 : K.lookup a5 = some ⟨oc5, od5, .func (PySem.W.fnOf "_law_barred" "_law_barred" (defArgs (tp 55)) (defBody (tp 55)) (defScope (tp 55)) .none kV5 dc5 pm5 an5 cd5 ct5), sl5⟩)
    (q5 : PySem.W.codeIn K cd5 "_law_barred" = true)
    (k5 : PySem.W.keepIn K (.ref a5) = true)
    (n6 : PySem.W.nsIn K mainGlobals "_law_template" = some (some (.ref a6)))
    (l6 : K.lookup a6 = some ⟨oc6, od6, .func (PySem.W.fnOf "_law_template" "_law_template" (defArgs (tp 56)) (defBody (tp 56)) (defScope (tp 56)) .none kV6 dc6 pm6 an6 cd6 ct6), sl6⟩)
    (q6 : PySem.W.codeIn K cd6 "_law_template" = true)
    (k6 : PySem.W.keepIn K (.ref a6) = true)
    (n7 : PySem.W.nsIn K mainGlobals "is_word" = some (some (.ref a7)))
    (l7 : K.lookup a7 = some ⟨oc7, od7, .func (PySem.W.fnOf "is_word" "is_word" (defArgs (tp 25)) (defBody (tp 25)) (defScope (tp 25)) .none kV7 dc7 pm7 an7 cd7 ct7), sl7⟩)
    (q7 : PySem.W.codeIn K cd7 "is_word" = true)
    (k7 : PySem.W.keepIn K (.ref a7) = true)
    (n8 : PySem.W.nsIn K mainGlobals "are_words" = some (some (.ref a8)))
    (l8 : K.lookup a8 = some ⟨oc8, od8, .func (PySem.W.fnOf "are_words" "are_words" (defArgs (tp 26)) (defBody (tp 26)) (defScope (tp 26)) .none kV8 dc8 pm8 an8 cd8 ct8), sl8⟩)
    (q8 : PySem.W.codeIn K cd8 "are_words" = true)
    (k8 : PySem.W.keepIn K (.ref a8) = true)
    (n9 : PySem.W.nsIn K mainGlobals "is_barred" = some (some (.ref a9)))
    (l9 : K.lookup a9 = some ⟨oc9, od9, .func (PySem.W.fnOf "is_barred" "is_barred" (defArgs (tp 28)) (defBody (tp 28)) (defScope (tp 28)) .none kV9 dc9 pm9 an9 cd9 ct9), sl9⟩)
    (q9 : PySem.W.codeIn K cd9 "is_barred" = true)
    (k9 : PySem.W.keepIn K (.ref a9) = true)
    (n10 : PySem.W.nsIn K mainGlobals "is_whole" = some (some (.ref a10)))
    (l10 : K.lookup a10 = some ⟨oc10, od10, .func (PySem.W.fnOf "is_whole" "is_whole" (defArgs (tp 24)) (defBody (tp 24)) (defScope (tp 24)) .none kV10 dc10 pm10 an10 cd10 ct10), sl10⟩)
    (q10 : PySem.W.codeIn K cd10 "is_whole" = true)
    (k10 : PySem.W.keepIn K (.ref a10) = true)
    (n11 : PySem.W.nsIn K mainGlobals "is_part" = some (some (.ref a11)))
    (l11 : K.lookup a11 = some ⟨oc11, od11, .func (PySem.W.fnOf "is_part" "is_part" (defArgs (tp 29)) (defBody (tp 29)) (defScope (tp 29)) .none kV11 dc11 pm11 an11 cd11 ct11), sl11⟩)
    (q11 : PySem.W.codeIn K cd11 "is_part" = true)
    (k11 : PySem.W.keepIn K (.ref a11) = true)
    (n12 : PySem.W.nsIn K mainGlobals "is_template" = some (some (.ref a12)))
    (l12 : K.lookup a12 = some ⟨oc12, od12, .func (PySem.W.fnOf "is_template" "is_template" (defArgs (tp 30)) (defBody (tp 30)) (defScope (tp 30)) .none kV12 dc12 pm12 an12 cd12 ct12), sl12⟩)
    (q12 : PySem.W.codeIn K cd12 "is_template" = true)
    (k12 : PySem.W.keepIn K (.ref a12) = true)
    (n13 : PySem.W.nsIn K mainGlobals "need_template" = some (some (.ref a13)))
    (l13 : K.lookup a13 = some ⟨oc13, od13, .func (PySem.W.fnOf "need_template" "need_template" (defArgs (tp 31)) (defBody (tp 31)) (defScope (tp 31)) .none kV13 dc13 pm13 an13 cd13 ct13), sl13⟩)
    (q13 : PySem.W.codeIn K cd13 "need_template" = true)
    (k13 : PySem.W.keepIn K (.ref a13) = true)
    (n14 : PySem.W.nsIn K mainGlobals "is_text" = some (some (.ref a14)))
    (l14 : K.lookup a14 = some ⟨oc14, od14, .func (PySem.W.fnOf "is_text" "is_text" (defArgs (tp 27)) (defBody (tp 27)) (defScope (tp 27)) .none kV14 dc14 pm14 an14 cd14 ct14), sl14⟩)
    (q14 : PySem.W.codeIn K cd14 "is_text" = true)
    (k14 : PySem.W.keepIn K (.ref a14) = true)
    (n15 : PySem.W.nsIn K mainGlobals "need_text" = some (some (.ref a15)))
    (l15 : K.lookup a15 = some ⟨oc15, od15, .func (PySem.W.fnOf "need_text" "need_text" (defArgs (tp 32)) (defBody (tp 32)) (defScope (tp 32)) .none kV15 dc15 pm15 an15 cd15 ct15), sl15⟩)
    (q15 : PySem.W.codeIn K cd15 "need_text" = true)
    (k15 : PySem.W.keepIn K (.ref a15) = true)
    (n16 : PySem.W.nsIn K mainGlobals "is_done" = some (some (.ref a16)))
    (l16 : K.lookup a16 = some ⟨oc16, od16, .func (PySem.W.fnOf "is_done" "is_done" (defArgs (tp 37)) (defBody (tp 37)) (defScope (tp 37)) .none kV16 dc16 pm16 an16 cd16 ct16), sl16⟩)
    (q16 : PySem.W.codeIn K cd16 "is_done" = true)
    (k16 : PySem.W.keepIn K (.ref a16) = true)
    (n17 : PySem.W.nsIn K mainGlobals "may_skip" = some (some (.ref a17)))
    (l17 : K.lookup a17 = some ⟨oc17, od17, .func (PySem.W.fnOf "may_skip" "may_skip" (defArgs (tp 38)) (defBody (tp 38)) (defScope (tp 38)) .none kV17 dc17 pm17 an17 cd17 ct17), sl17⟩)
    (q17 : PySem.W.codeIn K cd17 "may_skip" = true)
    (k17 : PySem.W.keepIn K (.ref a17) = true)
    (n18 : PySem.W.nsIn K mainGlobals "end_now" = some (some (.ref a18)))
    (l18 : K.lookup a18 = some ⟨oc18, od18, .func (PySem.W.fnOf "end_now" "end_now" (defArgs (tp 39)) (defBody (tp 39)) (defScope (tp 39)) .none kV18 dc18 pm18 an18 cd18 ct18), sl18⟩)
    (q18 : PySem.W.codeIn K cd18 "end_now" = true)
    (k18 : PySem.W.keepIn K (.ref a18) = true)
    (n19 : PySem.W.nsIn K mainGlobals "takes" = some (some (.ref a19)))
    (l19 : K.lookup a19 = some ⟨oc19, od19, .func (PySem.W.fnOf "takes" "takes" (defArgs (tp 33)) (defBody (tp 33)) (defScope (tp 33)) .none kV19 dc19 pm19 an19 cd19 ct19), sl19⟩)
    (q19 : PySem.W.codeIn K cd19 "takes" = true)
    (k19 : PySem.W.keepIn K (.ref a19) = true)
    (n20 : PySem.W.nsIn K mainGlobals "most_of" = some (some (.ref a20)))
    (l20 : K.lookup a20 = some ⟨oc20, od20, .func (PySem.W.fnOf "most_of" "most_of" (defArgs (tp 36)) (defBody (tp 36)) (defScope (tp 36)) .none kV20 dc20 pm20 an20 cd20 ct20), sl20⟩)
    (q20 : PySem.W.codeIn K cd20 "most_of" = true)
    (k20 : PySem.W.keepIn K (.ref a20) = true)
    (n21 : PySem.W.nsIn K mainGlobals "moves_at" = some (some (.ref a21)))
    (l21 : K.lookup a21 = some ⟨oc21, od21, .func (PySem.W.fnOf "moves_at" "moves_at" (defArgs (tp 40)) (defBody (tp 40)) (defScope (tp 40)) .none kV21 dc21 pm21 an21 cd21 ct21), sl21⟩)
    (q21 : PySem.W.codeIn K cd21 "moves_at" = true)
    (k21 : PySem.W.keepIn K (.ref a21) = true)
    (n22 : PySem.W.nsIn K mainGlobals "runs" = some (some (.ref a22)))
    (l22 : K.lookup a22 = some ⟨oc22, od22, .func (PySem.W.fnOf "runs" "runs" (defArgs (tp 42)) (defBody (tp 42)) (defScope (tp 42)) .none kV22 dc22 pm22 an22 cd22 ct22), sl22⟩)
    (q22 : PySem.W.codeIn K cd22 "runs" = true)
    (k22 : PySem.W.keepIn K (.ref a22) = true)
    (n23 : PySem.W.nsIn K mainGlobals "worths_of" = some (some (.ref a23)))
    (l23 : K.lookup a23 = some ⟨oc23, od23, .func (PySem.W.fnOf "worths_of" "worths_of" (defArgs (tp 43)) (defBody (tp 43)) (defScope (tp 43)) .none kV23 dc23 pm23 an23 cd23 ct23), sl23⟩)
    (q23 : PySem.W.codeIn K cd23 "worths_of" = true)
    (k23 : PySem.W.keepIn K (.ref a23) = true)
    (n24 : PySem.W.nsIn K mainGlobals "first_run" = some (some (.ref a24)))
    (l24 : K.lookup a24 = some ⟨oc24, od24, .func (PySem.W.fnOf "first_run" "first_run" (defArgs (tp 45)) (defBody (tp 45)) (defScope (tp 45)) .none kV24 dc24 pm24 an24 cd24 ct24), sl24⟩)
    (q24 : PySem.W.codeIn K cd24 "first_run" = true)
    (k24 : PySem.W.keepIn K (.ref a24) = true)
    (n25 : PySem.W.nsIn K mainGlobals "taken_by" = some (some (.ref a25)))
    (l25 : K.lookup a25 = some ⟨oc25, od25, .func (PySem.W.fnOf "taken_by" "taken_by" (defArgs (tp 46)) (defBody (tp 46)) (defScope (tp 46)) .none kV25 dc25 pm25 an25 cd25 ct25), sl25⟩)
    (q25 : PySem.W.codeIn K cd25 "taken_by" = true)
    (k25 : PySem.W.keepIn K (.ref a25) = true)
    (n26 : PySem.W.nsIn K mainGlobals "marks" = some (some (.ref a26)))
    (l26 : K.lookup a26 = some ⟨oc26, od26, .func (PySem.W.fnOf "marks" "marks" (defArgs (tp 47)) (defBody (tp 47)) (defScope (tp 47)) .none kV26 dc26 pm26 an26 cd26 ct26), sl26⟩)
    (q26 : PySem.W.codeIn K cd26 "marks" = true)
    (k26 : PySem.W.keepIn K (.ref a26) = true)
    (n27 : PySem.W.nsIn K mainGlobals "how_often_taken" = some (some (.ref a27)))
    (l27 : K.lookup a27 = some ⟨oc27, od27, .func (PySem.W.fnOf "how_often_taken" "how_often_taken" (defArgs (tp 48)) (defBody (tp 48)) (defScope (tp 48)) .none kV27 dc27 pm27 an27 cd27 ct27), sl27⟩)
    (q27 : PySem.W.codeIn K cd27 "how_often_taken" = true)
    (k27 : PySem.W.keepIn K (.ref a27) = true)
    (n28 : PySem.W.nsIn K mainGlobals "alike_words" = some (some (.ref a28)))
    (l28 : K.lookup a28 = some ⟨oc28, od28, .func (PySem.W.fnOf "alike_words" "alike_words" (defArgs (tp 49)) (defBody (tp 49)) (defScope (tp 49)) .none kV28 dc28 pm28 an28 cd28 ct28), sl28⟩)
    (q28 : PySem.W.codeIn K cd28 "alike_words" = true)
    (k28 : PySem.W.keepIn K (.ref a28) = true)
    (n29 : PySem.W.nsIn K mainGlobals "_law_ask" = some (some (.ref a29)))
    (l29 : K.lookup a29 = some ⟨oc29, od29, .func (PySem.W.fnOf "_law_ask" "_law_ask" (defArgs (tp 63)) (defBody (tp 63)) (defScope (tp 63)) .none kV29 dc29 pm29 an29 cd29 ct29), sl29⟩)
    (q29 : PySem.W.codeIn K cd29 "_law_ask" = true)
    (k29 : PySem.W.keepIn K (.ref a29) = true)
    (n30 : PySem.W.nsIn K mainGlobals "law" = some (some (.ref a30)))
    (l30 : K.lookup a30 = some ⟨oc30, od30, .func (PySem.W.fnOf "law" "law" (defArgs (tp 64)) (defBody (tp 64)) (defScope (tp 64)) .none kV30 dc30 pm30 an30 cd30 ct30), sl30⟩)
    (q30 : PySem.W.codeIn K cd30 "law" = true)
    (k30 : PySem.W.keepIn K (.ref a30) = true)
    (n31 : PySem.W.nsIn K mainGlobals "_law_which" = some (some (.ref a31)))
    (l31 : K.lookup a31 = some ⟨oc31, od31, .func (PySem.W.fnOf "_law_which" "_law_which" (defArgs (tp 62)) (defBody (tp 62)) (defScope (tp 62)) .none kV31 dc31 pm31 an31 cd31 ct31), sl31⟩)
    (q31 : PySem.W.codeIn K cd31 "_law_which" = true)
    (k31 : PySem.W.keepIn K (.ref a31) = true)
    (x0 : PySem.W.nsIn K mainGlobals "NoTemplate" = some (some (.ref c0)))
    (y0 : PySem.W.excIn K c0 [.type "ValueError", .type "Exception", .type "BaseException", .type "object"] "ValueError.__new__" = true)
    (z0 : PySem.W.keepIn K (.ref c0) = true)
    (u0 : PySem.W.subIn K (.ref c0) (.type "BaseException") = some true)
    (t0 : PySem.W.typeIn K (.ref c0) = some (.type "type"))
    (x1 : PySem.W.nsIn K mainGlobals "NoText" = some (some (.ref c1)))
    (y1 : PySem.W.excIn K c1 [.type "ValueError", .type "Exception", .type "BaseException", .type "object"] "ValueError.__new__" = true)
    (z1 : PySem.W.keepIn K (.ref c1) = true)
    (u1 : PySem.W.subIn K (.ref c1) (.type "BaseException") = some true)
    (t1 : PySem.W.typeIn K (.ref c1) = some (.type "type"))
    (x2 : PySem.W.nsIn K mainGlobals "NoWorths" = some (some (.ref c2)))
    (y2 : PySem.W.excIn K c2 [.type "ValueError", .type "Exception", .type "BaseException", .type "object"] "ValueError.__new__" = true)
    (z2 : PySem.W.keepIn K (.ref c2) = true)
    (u2 : PySem.W.subIn K (.ref c2) (.type "BaseException") = some true)
    (t2 : PySem.W.typeIn K (.ref c2) = some (.type "type"))
    (x3 : PySem.W.nsIn K mainGlobals "NoStand" = some (some (.ref c3)))
    (y3 : PySem.W.excIn K c3 [.type "ValueError", .type "Exception", .type "BaseException", .type "object"] "ValueError.__new__" = true)
    (z3 : PySem.W.keepIn K (.ref c3) = true)
    (u3 : PySem.W.subIn K (.ref c3) (.type "BaseException") = some true)
    (t3 : PySem.W.typeIn K (.ref c3) = some (.type "type"))
    (x4 : PySem.W.nsIn K mainGlobals "NoWord" = some (some (.ref c4)))
    (y4 : PySem.W.excIn K c4 [.type "ValueError", .type "Exception", .type "BaseException", .type "object"] "ValueError.__new__" = true)
    (z4 : PySem.W.keepIn K (.ref c4) = true)
    (u4 : PySem.W.subIn K (.ref c4) (.type "BaseException") = some true)
    (t4 : PySem.W.typeIn K (.ref c4) = some (.type "type"))
    (x5 : PySem.W.nsIn K mainGlobals "NoBook" = some (some (.ref c5)))
    (y5 : PySem.W.excIn K c5 [.type "ValueError", .type "Exception", .type "BaseException", .type "object"] "ValueError.__new__" = true)
    (z5 : PySem.W.keepIn K (.ref c5) = true)
    (u5 : PySem.W.subIn K (.ref c5) (.type "BaseException") = some true)
    (t5 : PySem.W.typeIn K (.ref c5) = some (.type "type"))
    (x6 : PySem.W.nsIn K mainGlobals "NoRows" = some (some (.ref c6)))
    (y6 : PySem.W.excIn K c6 [.type "ValueError", .type "Exception", .type "BaseException", .type "object"] "ValueError.__new__" = true)
    (z6 : PySem.W.keepIn K (.ref c6) = true)
    (u6 : PySem.W.subIn K (.ref c6) (.type "BaseException") = some true)
    (t6 : PySem.W.typeIn K (.ref c6) = some (.type "type"))
    (x7 : PySem.W.nsIn K mainGlobals "NoPair" = some (some (.ref c7)))
    (y7 : PySem.W.excIn K c7 [.type "ValueError", .type "Exception", .type "BaseException", .type "object"] "ValueError.__new__" = true)
    (z7 : PySem.W.keepIn K (.ref c7) = true)
    (u7 : PySem.W.subIn K (.ref c7) (.type "BaseException") = some true)
    (t7 : PySem.W.typeIn K (.ref c7) = some (.type "type"))
    (x8 : PySem.W.nsIn K mainGlobals "Unsure" = some (some (.ref c8)))
    (y8 : PySem.W.excIn K c8 [.type "ValueError", .type "Exception", .type "BaseException", .type "object"] "ValueError.__new__" = true)
    (z8 : PySem.W.keepIn K (.ref c8) = true)
    (u8 : PySem.W.subIn K (.ref c8) (.type "BaseException") = some true)
    (t8 : PySem.W.typeIn K (.ref c8) = some (.type "type"))
    (x9 : PySem.W.nsIn K mainGlobals "NoForm" = some (some (.ref c9)))
    (y9 : PySem.W.excIn K c9 [.type "ValueError", .type "Exception", .type "BaseException", .type "object"] "ValueError.__new__" = true)
    (z9 : PySem.W.keepIn K (.ref c9) = true)
    (u9 : PySem.W.subIn K (.ref c9) (.type "BaseException") = some true)
    (t9 : PySem.W.typeIn K (.ref c9) = some (.type "type"))
    (x10 : PySem.W.nsIn K mainGlobals "NoNumber" = some (some (.ref c10)))
    (y10 : PySem.W.excIn K c10 [.type "ValueError", .type "Exception", .type "BaseException", .type "object"] "ValueError.__new__" = true)
    (z10 : PySem.W.keepIn K (.ref c10) = true)
    (u10 : PySem.W.subIn K (.ref c10) (.type "BaseException") = some true)
    (t10 : PySem.W.typeIn K (.ref c10) = some (.type "type"))
    (x11 : PySem.W.nsIn K mainGlobals "NoName" = some (some (.ref c11)))
    (y11 : PySem.W.excIn K c11 [.type "ValueError", .type "Exception", .type "BaseException", .type "object"] "ValueError.__new__" = true)
    (z11 : PySem.W.keepIn K (.ref c11) = true)
    (u11 : PySem.W.subIn K (.ref c11) (.type "BaseException") = some true)
    (t11 : PySem.W.typeIn K (.ref c11) = some (.type "type"))
    (x12 : PySem.W.nsIn K mainGlobals "TooGreat" = some (some (.ref c12)))
    (y12 : PySem.W.excIn K c12 [.type "ValueError", .type "Exception", .type "BaseException", .type "object"] "ValueError.__new__" = true)
    (z12 : PySem.W.keepIn K (.ref c12) = true)
    (u12 : PySem.W.subIn K (.ref c12) (.type "BaseException") = some true)
    (t12 : PySem.W.typeIn K (.ref c12) = some (.type "type"))
    (x13 : PySem.W.nsIn K mainGlobals "NoDeed" = some (some (.ref c13)))
    (y13 : PySem.W.excIn K c13 [.type "ValueError", .type "Exception", .type "BaseException", .type "object"] "ValueError.__new__" = true)
    (z13 : PySem.W.keepIn K (.ref c13) = true)
    (u13 : PySem.W.subIn K (.ref c13) (.type "BaseException") = some true)
    (t13 : PySem.W.typeIn K (.ref c13) = some (.type "type"))
    (Gp : PySem.W.nsIn K mainGlobals "GapError" = some (some (.ref cG)))
    (X0 : xcIn K 0 c0 cG [(0, c0), (1, c1), (2, c2), (3, c3), (4, c4), (5, c5), (6, c6), (7, c7), (8, c8), (9, c9), (10, c10), (11, c11), (12, c12), (13, c13)] = true)
    (X1 : xcIn K 1 c1 cG [(0, c0), (1, c1), (2, c2), (3, c3), (4, c4), (5, c5), (6, c6), (7, c7), (8, c8), (9, c9), (10, c10), (11, c11), (12, c12), (13, c13)] = true)
    (X2 : xcIn K 2 c2 cG [(0, c0), (1, c1), (2, c2), (3, c3), (4, c4), (5, c5), (6, c6), (7, c7), (8, c8), (9, c9), (10, c10), (11, c11), (12, c12), (13, c13)] = true)
    (X3 : xcIn K 3 c3 cG [(0, c0), (1, c1), (2, c2), (3, c3), (4, c4), (5, c5), (6, c6), (7, c7), (8, c8), (9, c9), (10, c10), (11, c11), (12, c12), (13, c13)] = true)
    (X4 : xcIn K 4 c4 cG [(0, c0), (1, c1), (2, c2), (3, c3), (4, c4), (5, c5), (6, c6), (7, c7), (8, c8), (9, c9), (10, c10), (11, c11), (12, c12), (13, c13)] = true)
    (X5 : xcIn K 5 c5 cG [(0, c0), (1, c1), (2, c2), (3, c3), (4, c4), (5, c5), (6, c6), (7, c7), (8, c8), (9, c9), (10, c10), (11, c11), (12, c12), (13, c13)] = true)
    (X6 : xcIn K 6 c6 cG [(0, c0), (1, c1), (2, c2), (3, c3), (4, c4), (5, c5), (6, c6), (7, c7), (8, c8), (9, c9), (10, c10), (11, c11), (12, c12), (13, c13)] = true)
    (X7 : xcIn K 7 c7 cG [(0, c0), (1, c1), (2, c2), (3, c3), (4, c4), (5, c5), (6, c6), (7, c7), (8, c8), (9, c9), (10, c10), (11, c11), (12, c12), (13, c13)] = true)
    (X8 : xcIn K 8 c8 cG [(0, c0), (1, c1), (2, c2), (3, c3), (4, c4), (5, c5), (6, c6), (7, c7), (8, c8), (9, c9), (10, c10), (11, c11), (12, c12), (13, c13)] = true)
    (X9 : xcIn K 9 c9 cG [(0, c0), (1, c1), (2, c2), (3, c3), (4, c4), (5, c5), (6, c6), (7, c7), (8, c8), (9, c9), (10, c10), (11, c11), (12, c12), (13, c13)] = true)
    (X10 : xcIn K 10 c10 cG [(0, c0), (1, c1), (2, c2), (3, c3), (4, c4), (5, c5), (6, c6), (7, c7), (8, c8), (9, c9), (10, c10), (11, c11), (12, c12), (13, c13)] = true)
    (X11 : xcIn K 11 c11 cG [(0, c0), (1, c1), (2, c2), (3, c3), (4, c4), (5, c5), (6, c6), (7, c7), (8, c8), (9, c9), (10, c10), (11, c11), (12, c12), (13, c13)] = true)
    (X12 : xcIn K 12 c12 cG [(0, c0), (1, c1), (2, c2), (3, c3), (4, c4), (5, c5), (6, c6), (7, c7), (8, c8), (9, c9), (10, c10), (11, c11), (12, c12), (13, c13)] = true)
    (X13 : xcIn K 13 c13 cG [(0, c0), (1, c1), (2, c2), (3, c3), (4, c4), (5, c5), (6, c6), (7, c7), (8, c8), (9, c9), (10, c10), (11, c11), (12, c12), (13, c13)] = true)
    (b0 : PySem.W.nsIn K mainGlobals "len" = some none)
    (b1 : PySem.W.nsIn K mainGlobals "isinstance" = some none)
    (b2 : PySem.W.nsIn K mainGlobals "sorted" = some none)
    (b3 : PySem.W.nsIn K mainGlobals "tuple" = some none)
    (b4 : PySem.W.nsIn K mainGlobals "range" = some none)
    (b5 : PySem.W.nsIn K mainGlobals "set" = some none)
    (b6 : PySem.W.nsIn K mainGlobals "all" = some none)
    (b7 : PySem.W.nsIn K mainGlobals "list" = some none)
    (b8 : PySem.W.nsIn K mainGlobals "any" = some none)
    (b9 : PySem.W.nsIn K mainGlobals "zip" = some none)
    (b10 : PySem.W.nsIn K mainGlobals "enumerate" = some none)
    (b11 : PySem.W.nsIn K mainGlobals "max" = some none)
    (b12 : PySem.W.nsIn K mainGlobals "min" = some none)
    (b13 : PySem.W.nsIn K mainGlobals "dict" = some none)
    (b14 : PySem.W.nsIn K mainGlobals "int" = some none)
    (b15 : PySem.W.nsIn K mainGlobals "sum" = some none)
    (b16 : PySem.W.nsIn K mainGlobals "str" = some none)
    (b17 : PySem.W.nsIn K mainGlobals "bool" = some none)
    (b18 : PySem.W.nsIn K mainGlobals "ValueError" = some none)
    (g0 : PySem.W.nsIn K mainGlobals "LETTERS" = some (some (.str "abcdefghijklmnopqrstuvwxyz" gt0)))
    (g1 : PySem.W.nsIn K mainGlobals "LONGEST" = some (some (.int (4) gt1)))
    (g2 : PySem.W.nsIn K mainGlobals "WORDS" = some (some (.int (12) gt2)))
    (g3 : PySem.W.nsIn K mainGlobals "PARTS" = some (some (.int (6) gt3)))
    (g4 : PySem.W.nsIn K mainGlobals "BARRED" = some (some (.int (3) gt4)))
    (g5 : PySem.W.nsIn K mainGlobals "LOW" = some (some (.int (2) gt5)))
    (g6 : PySem.W.nsIn K mainGlobals "BEGIN" = some (some (.ref ga6)))
    (h6 : K.lookup ga6 = some ⟨.type "tuple", gd6, .seq #[.int (-1) gt6_0, .int (0) gt6_1] gn6, gs6⟩)
    (sg : PySem.W.nsIn K mainGlobals "SIZES" = some (some (.ref dS)))
    (sl : K.lookup dS = some ⟨.type "dict", none, .dict #[⟨PyData.keyHash w.params "word", .str "word" st1, .int 2 su1⟩, ⟨PyData.keyHash w.params "one", .str "one" st2, .int 3 su2⟩, ⟨PyData.keyHash w.params "some", .str "some" st3, .int 4 su3⟩] sn, #[]⟩)
    (low : (dS == sysModules) = false)
    (hlaw : ∀ ns : List Int, ns.length ≤ 63 → ∃ S, sem Δ 12 f_k29_law [.scr ns] none = .ok (.bl true) S) :
    ∃ fd : FuncData, (∀ (s : Shared) (v : Value), BindsTo s fd ⟨[v], []⟩ [("script", v)]) ∧ ∀ base : Heap, K.In base → base.Ns mainGlobals mg → FnOk l.prog w K mg base (L2.CX l.prog w) 12 fa fd ["script"] (spLaw K) := by
  let g : Gi := ⟨fun n => ([(f_law_cell_at, a0), (f_law_mixed_1, a1), (f_law_draw_1, a2), (f_law_pick_1, a3), (f_law_odd, a4), (f_law_barred_1, a5), (f_law_template_1, a6), (f_is_word, a7), (f_are_words, a8), (f_is_barred, a9), (f_is_whole, a10), (f_is_part, a11), (f_is_template, a12), (f_need_template, a13), (f_is_text, a14), (f_need_text, a15), (f_is_done, a16), (f_may_skip, a17), (f_end_now, a18), (f_takes, a19), (f_most_of, a20), (f_moves_at, a21), (f_runs, a22), (f_worths_of, a23), (f_first_run, a24), (f_taken_by, a25), (f_marks, a26), (f_how_often_taken, a27), (f_alike_words, a28), (f_law_ask_13, a29), (f_k29_law, a30)] : List (Nat × Addr)).lookup n, fun n => (([(0, c0), (1, c1), (2, c2), (3, c3), (4, c4), (5, c5), (6, c6), (7, c7), (8, c8), (9, c9), (10, c10), (11, c11), (12, c12), (13, c13)] : List (Nat × Addr)).lookup n).getD 0, none⟩
  have hM : Mg K w mg g tab := by
    refine ⟨?_, ⟨dS, PySem.W.mg_of X G sg, _, sn, st1, st2, st3, su1, su2, su3, sl, rfl, ⟨⟨_, _, rfl, rfl⟩, ⟨_, _, rfl, rfl⟩, ⟨_, _, rfl, rfl⟩, trivial⟩, low⟩, ?_, ?_, ?_, ?_⟩
    · simp only [blts, List.forall_mem_cons, List.not_mem_nil, false_implies, implies_true, and_true]
      exact ⟨PySem.W.mg_none_of X G b0, PySem.W.mg_none_of X G b1, PySem.W.mg_none_of X G b2, PySem.W.mg_none_of X G b3, PySem.W.mg_none_of X G b4, PySem.W.mg_none_of X G b5, PySem.W.mg_none_of X G b6, PySem.W.mg_none_of X G b7, PySem.W.mg_none_of X G b8, PySem.W.mg_none_of X G b9, PySem.W.mg_none_of X G b10, PySem.W.mg_none_of X G b11, PySem.W.mg_none_of X G b12, PySem.W.mg_none_of X G b13, PySem.W.mg_none_of X G b14, PySem.W.mg_none_of X G b15, PySem.W.mg_none_of X G b16, PySem.W.mg_none_of X G b17, PySem.W.mg_none_of X G b18⟩
    · refine look_all (P := fun x v => ∃ u, mg x = some u ∧ GVAt K v u) ?_
      simp only [tab, List.forall_mem_cons, List.not_mem_nil, false_implies, implies_true, and_true]
      exact ⟨⟨_, PySem.W.mg_of X G g0, ⟨_, rfl⟩, by decide, by decide +kernel⟩, ⟨_, PySem.W.mg_of X G g1, _, rfl⟩, ⟨_, PySem.W.mg_of X G g2, _, rfl⟩, ⟨_, PySem.W.mg_of X G g3, _, rfl⟩, ⟨_, PySem.W.mg_of X G g4, _, rfl⟩, ⟨_, PySem.W.mg_of X G g5, _, rfl⟩, ⟨_, PySem.W.mg_of X G g6, _, _, _, _, rfl, h6, rfl, rfl, by show 2 ≤ sizeLine; decide, .cons ⟨_, rfl⟩ (.cons ⟨_, rfl⟩ (.nil))⟩⟩
    · exact fun _ => ⟨cG, [(0, c0), (1, c1), (2, c2), (3, c3), (4, c4), (5, c5), (6, c6), (7, c7), (8, c8), (9, c9), (10, c10), (11, c11), (12, c12), (13, c13)], PySem.W.mg_of X G Gp, look_all (P := fun x c => (c, g.cls c) ∈ ([(0, c0), (1, c1), (2, c2), (3, c3), (4, c4), (5, c5), (6, c6), (7, c7), (8, c8), (9, c9), (10, c10), (11, c11), (12, c12), (13, c13)] : List (Nat × Addr)) ∧ XC K c (g.cls c) cG [(0, c0), (1, c1), (2, c2), (3, c3), (4, c4), (5, c5), (6, c6), (7, c7), (8, c8), (9, c9), (10, c10), (11, c11), (12, c12), (13, c13)]) (by
      simp only [tab, List.forall_mem_cons, List.not_mem_nil, false_implies, implies_true, and_true]
      exact ⟨⟨List.mem_of_getElem? (i := 0) rfl, xc_of X0⟩, ⟨List.mem_of_getElem? (i := 1) rfl, xc_of X1⟩, ⟨List.mem_of_getElem? (i := 2) rfl, xc_of X2⟩, ⟨List.mem_of_getElem? (i := 3) rfl, xc_of X3⟩, ⟨List.mem_of_getElem? (i := 4) rfl, xc_of X4⟩, ⟨List.mem_of_getElem? (i := 5) rfl, xc_of X5⟩, ⟨List.mem_of_getElem? (i := 6) rfl, xc_of X6⟩, ⟨List.mem_of_getElem? (i := 7) rfl, xc_of X7⟩, ⟨List.mem_of_getElem? (i := 8) rfl, xc_of X8⟩, ⟨List.mem_of_getElem? (i := 9) rfl, xc_of X9⟩, ⟨List.mem_of_getElem? (i := 10) rfl, xc_of X10⟩, ⟨List.mem_of_getElem? (i := 11) rfl, xc_of X11⟩, ⟨List.mem_of_getElem? (i := 12) rfl, xc_of X12⟩, ⟨List.mem_of_getElem? (i := 13) rfl, xc_of X13⟩⟩)⟩
    · intro f a e
      have hl : ∀ p ∈ ([(f_law_cell_at, a0), (f_law_mixed_1, a1), (f_law_draw_1, a2), (f_law_pick_1, a3), (f_law_odd, a4), (f_law_barred_1, a5), (f_law_template_1, a6), (f_is_word, a7), (f_are_words, a8), (f_is_barred, a9), (f_is_whole, a10), (f_is_part, a11), (f_is_template, a12), (f_need_template, a13), (f_is_text, a14), (f_need_text, a15), (f_is_done, a16), (f_may_skip, a17), (f_end_now, a18), (f_takes, a19), (f_most_of, a20), (f_moves_at, a21), (f_runs, a22), (f_worths_of, a23), (f_first_run, a24), (f_taken_by, a25), (f_marks, a26), (f_how_often_taken, a27), (f_alike_words, a28), (f_law_ask_13, a29), (f_k29_law, a30)] : List (Nat × Addr)), ∃ x, tab.fns.lookup x = some p.1 := by
        simp only [List.forall_mem_cons, List.not_mem_nil, false_implies, implies_true, and_true]
        exact ⟨⟨"_law_cell_at", rfl⟩, ⟨"_law_mixed", rfl⟩, ⟨"_law_draw", rfl⟩, ⟨"_law_pick", rfl⟩, ⟨"_law_odd", rfl⟩, ⟨"_law_barred", rfl⟩, ⟨"_law_template", rfl⟩, ⟨"is_word", rfl⟩, ⟨"are_words", rfl⟩, ⟨"is_barred", rfl⟩, ⟨"is_whole", rfl⟩, ⟨"is_part", rfl⟩, ⟨"is_template", rfl⟩, ⟨"need_template", rfl⟩, ⟨"is_text", rfl⟩, ⟨"need_text", rfl⟩, ⟨"is_done", rfl⟩, ⟨"may_skip", rfl⟩, ⟨"end_now", rfl⟩, ⟨"takes", rfl⟩, ⟨"most_of", rfl⟩, ⟨"moves_at", rfl⟩, ⟨"runs", rfl⟩, ⟨"worths_of", rfl⟩, ⟨"first_run", rfl⟩, ⟨"taken_by", rfl⟩, ⟨"marks", rfl⟩, ⟨"how_often_taken", rfl⟩, ⟨"alike_words", rfl⟩, ⟨"_law_ask", rfl⟩, ⟨"law", rfl⟩⟩
      exact hl (f, a) (memL e)
    · refine look_all (P := fun x c => mg x = some (.ref (g.cls c)) ∧ PySem.W.excIn K (g.cls c) [.type "ValueError", .type "Exception", .type "BaseException", .type "object"] "ValueError.__new__" = true ∧ PySem.W.keepIn K (.ref (g.cls c)) = true ∧ PySem.W.subIn K (.ref (g.cls c)) (.type "BaseException") = some true ∧ PySem.W.typeIn K (.ref (g.cls c)) = some (.type "type")) ?_
      simp only [tab, List.forall_mem_cons, List.not_mem_nil, false_implies, implies_true, and_true]
      exact ⟨⟨PySem.W.mg_of X G x0, y0, z0, u0, t0⟩, ⟨PySem.W.mg_of X G x1, y1, z1, u1, t1⟩, ⟨PySem.W.mg_of X G x2, y2, z2, u2, t2⟩, ⟨PySem.W.mg_of X G x3, y3, z3, u3, t3⟩, ⟨PySem.W.mg_of X G x4, y4, z4, u4, t4⟩, ⟨PySem.W.mg_of X G x5, y5, z5, u5, t5⟩, ⟨PySem.W.mg_of X G x6, y6, z6, u6, t6⟩, ⟨PySem.W.mg_of X G x7, y7, z7, u7, t7⟩, ⟨PySem.W.mg_of X G x8, y8, z8, u8, t8⟩, ⟨PySem.W.mg_of X G x9, y9, z9, u9, t9⟩, ⟨PySem.W.mg_of X G x10, y10, z10, u10, t10⟩, ⟨PySem.W.mg_of X G x11, y11, z11, u11, t11⟩, ⟨PySem.W.mg_of X G x12, y12, z12, u12, t12⟩, ⟨PySem.W.mg_of X G x13, y13, z13, u13, t13⟩⟩
  have hD : ∀ x f, tab.fns.lookup x = some f → DefAt K mg g tab Δ x f := by
    refine look_all (P := fun x f => DefAt K mg g tab Δ x f) ?_
    simp only [tab, List.forall_mem_cons, List.not_mem_nil, false_implies, implies_true, and_true]
    exact ⟨⟨F_law_cell_at, tp 51, "_law_cell_at", a0, _, rfl, PySem.W.mg_of X G n0, k0, fun_mk (st := tp 51) l0 q0 k0, rfl, ck0⟩,
      ⟨F_law_mixed_1, tp 52, "_law_mixed", a1, _, rfl, PySem.W.mg_of X G n1, k1, fun_mk (st := tp 52) l1 q1 k1, rfl, ck1⟩,
      ⟨F_law_draw_1, tp 53, "_law_draw", a2, _, rfl, PySem.W.mg_of X G n2, k2, fun_mk (st := tp 53) l2 q2 k2, rfl, ck2⟩,
      ⟨F_law_pick_1, tp 54, "_law_pick", a3, _, rfl, PySem.W.mg_of X G n3, k3, fun_mk (st := tp 54) l3 q3 k3, rfl, ck3⟩,
      ⟨F_law_odd, tp 61, "_law_odd", a4, _, rfl, PySem.W.mg_of X G n4, k4, fun_mk (st := tp 61) l4 q4 k4, rfl, ck4⟩,
      ⟨F_law_barred_1, tp 55, "_law_barred", a5, _, rfl, PySem.W.mg_of X G n5, k5, fun_mk (st := tp 55) l5 q5 k5, rfl, ck5⟩,
      ⟨F_law_template_1, tp 56, "_law_template", a6, _, rfl, PySem.W.mg_of X G n6, k6, fun_mk (st := tp 56) l6 q6 k6, rfl, ck6⟩,
      ⟨F_is_word, tp 25, "is_word", a7, _, rfl, PySem.W.mg_of X G n7, k7, fun_mk (st := tp 25) l7 q7 k7, rfl, ck7⟩,
      ⟨F_are_words, tp 26, "are_words", a8, _, rfl, PySem.W.mg_of X G n8, k8, fun_mk (st := tp 26) l8 q8 k8, rfl, ck8⟩,
      ⟨F_is_barred, tp 28, "is_barred", a9, _, rfl, PySem.W.mg_of X G n9, k9, fun_mk (st := tp 28) l9 q9 k9, rfl, ck9⟩,
      ⟨F_is_whole, tp 24, "is_whole", a10, _, rfl, PySem.W.mg_of X G n10, k10, fun_mk (st := tp 24) l10 q10 k10, rfl, ck10⟩,
      ⟨F_is_part, tp 29, "is_part", a11, _, rfl, PySem.W.mg_of X G n11, k11, fun_mk (st := tp 29) l11 q11 k11, rfl, ck11⟩,
      ⟨F_is_template, tp 30, "is_template", a12, _, rfl, PySem.W.mg_of X G n12, k12, fun_mk (st := tp 30) l12 q12 k12, rfl, ck12⟩,
      ⟨F_need_template, tp 31, "need_template", a13, _, rfl, PySem.W.mg_of X G n13, k13, fun_mk (st := tp 31) l13 q13 k13, rfl, ck13⟩,
      ⟨F_is_text, tp 27, "is_text", a14, _, rfl, PySem.W.mg_of X G n14, k14, fun_mk (st := tp 27) l14 q14 k14, rfl, ck14⟩,
      ⟨F_need_text, tp 32, "need_text", a15, _, rfl, PySem.W.mg_of X G n15, k15, fun_mk (st := tp 32) l15 q15 k15, rfl, ck15⟩,
      ⟨F_is_done, tp 37, "is_done", a16, _, rfl, PySem.W.mg_of X G n16, k16, fun_mk (st := tp 37) l16 q16 k16, rfl, ck16⟩,
      ⟨F_may_skip, tp 38, "may_skip", a17, _, rfl, PySem.W.mg_of X G n17, k17, fun_mk (st := tp 38) l17 q17 k17, rfl, ck17⟩,
      ⟨F_end_now, tp 39, "end_now", a18, _, rfl, PySem.W.mg_of X G n18, k18, fun_mk (st := tp 39) l18 q18 k18, rfl, ck18⟩,
      ⟨F_takes, tp 33, "takes", a19, _, rfl, PySem.W.mg_of X G n19, k19, fun_mk (st := tp 33) l19 q19 k19, rfl, ck19⟩,
      ⟨F_most_of, tp 36, "most_of", a20, _, rfl, PySem.W.mg_of X G n20, k20, fun_mk (st := tp 36) l20 q20 k20, rfl, ck20⟩,
      ⟨F_moves_at, tp 40, "moves_at", a21, _, rfl, PySem.W.mg_of X G n21, k21, fun_mk (st := tp 40) l21 q21 k21, rfl, ck21⟩,
      ⟨F_runs, tp 42, "runs", a22, _, rfl, PySem.W.mg_of X G n22, k22, fun_mk (st := tp 42) l22 q22 k22, rfl, ck22⟩,
      ⟨F_worths_of, tp 43, "worths_of", a23, _, rfl, PySem.W.mg_of X G n23, k23, fun_mk (st := tp 43) l23 q23 k23, rfl, ck23⟩,
      ⟨F_first_run, tp 45, "first_run", a24, _, rfl, PySem.W.mg_of X G n24, k24, fun_mk (st := tp 45) l24 q24 k24, rfl, ck24⟩,
      ⟨F_taken_by, tp 46, "taken_by", a25, _, rfl, PySem.W.mg_of X G n25, k25, fun_mk (st := tp 46) l25 q25 k25, rfl, ck25⟩,
      ⟨F_marks, tp 47, "marks", a26, _, rfl, PySem.W.mg_of X G n26, k26, fun_mk (st := tp 47) l26 q26 k26, rfl, ck26⟩,
      ⟨F_how_often_taken, tp 48, "how_often_taken", a27, _, rfl, PySem.W.mg_of X G n27, k27, fun_mk (st := tp 48) l27 q27 k27, rfl, ck27⟩,
      ⟨F_alike_words, tp 49, "alike_words", a28, _, rfl, PySem.W.mg_of X G n28, k28, fun_mk (st := tp 49) l28 q28 k28, rfl, ck28⟩,
      ⟨F_law_ask_13, tp 63, "_law_ask", a29, _, rfl, PySem.W.mg_of X G n29, k29, fun_mk (st := tp 63) l29 q29 k29, rfl, ck29⟩,
      ⟨F_k29_law, tp 64, "law", a30, _, rfl, PySem.W.mg_of X G n30, k30, fun_mk (st := tp 64) l30 q30 k30, rfl, ck30⟩⟩
  have hW : ∀ x f, tab.hot.lookup x = some f → WDefAt K mg tab Δ x f := by
    refine look_all (P := fun x f => WDefAt K mg tab Δ x f) ?_
    simp only [tab, List.forall_mem_cons, List.not_mem_nil, false_implies, implies_true, and_true]
    exact ⟨F_law_which_1, tp 62, "_law_which", a31, _, PySem.W.mg_of X G n31, k31, fun_mk (st := tp 62) l31 q31 k31, rfl, rfl, cw0⟩
  obtain ⟨fd, h1, h2⟩ := law_end (P := l.prog) (w := w) (k := 11) hM hD hW (x := "law") (y := "script") (f := f_k29_law) rfl ⟨_, rfl, rfl⟩ hlaw hfa
  exact ⟨fd, h1, fun base _ _ => h2 base⟩
theorem walk {l : PySem.W.OpenLaw} {q : Program} {loose : List Str} {XP : (Str → Option Value) → Heap → Prop} {YP : World → Heap → Prop} {d : DefRec} {K : Params → PySem.W.Frag} (hn : l.most = some 63) (hdf : d.params.defaults = [])
    (hY : ∀ (w : World) (h : Heap), YP w h → (K w.params).In h)
    (F : ∀ (w : World) (mg : Str → Option Value) (fa : Addr) (h : Heap), (K w.params).In h → h.Ns mainGlobals mg → mg d.name = some (.ref fa) →
      ∃ fd : FuncData, (∀ (s : Shared) (u : Value), BindsTo s fd ⟨[u], []⟩ [("script", u)]) ∧ ∀ base : Heap, (K w.params).In base → base.Ns mainGlobals mg → FnOk l.prog w (K w.params) mg base (L2.CX l.prog w) 12 fa fd ["script"] (spLaw (K w.params))) :
    PySem.W.WalkO q loose XP YP l.row.toRowW d [] (fun f vs => PySem.call f vs) :=
  L2.walk_of (n := 63) (k := 12) (x := "script") (CX := fun w => L2.CX l.prog w) (sp := fun w => spLaw (K w.params)) hn (by decide) hdf ⟨rfl, by decide, by decide⟩ hY F (fun _ _ a ns hl _ hS => ⟨a, ns, rfl, hS, hl, fun _ => rfl⟩) fun _ _ _ _ _ ⟨_, _, _, _, _, _, _, _, _, _, _, _, z⟩ => z
end G
open PySem PySem.W PyProof.Rows
set_option maxRecDepth 100000 in
set_option maxHeartbeats 0 in
theorem PySem.Challenge.cw_gapforms_k29_marking_refused_holds : PySem.Challenge.rw_gapforms_k29_marking_refused.Holds := by
  w_on; o_law; k_head; (case hw => w_witness2)
  k_fill
  refine G.walk (l := PySem.Challenge.rw_gapforms_k29_marking_refused) rfl rfl (fun w h Y => PySem.W.kIn_of Y) ?F
  case F =>
    intro w mg fa h KX GX hmg
    refine' _root_.G.all_mk KX GX hmg ?zq_n0 ?zq_l0 ?zq_q0 ?zq_k0 ?zq_n1 ?zq_l1 ?zq_q1 ?zq_k1 ?zq_n2 ?zq_l2 ?zq_q2 ?zq_k2 ?zq_n3 ?zq_l3 ?zq_q3 ?zq_k3 ?zq_n4 ?zq_l4 ?zq_q4 ?zq_k4 ?zq_n5 ?zq_l5 ?zq_q5 ?zq_k5 ?zq_n6 ?zq_l6 ?zq_q6 ?zq_k6 ?zq_n7 ?zq_l7 ?zq_q7 ?zq_k7 ?zq_n8 ?zq_l8 ?zq_q8 ?zq_k8 ?zq_n9 ?zq_l9 ?zq_q9 ?zq_k9 ?zq_n10 ?zq_l10 ?zq_q10 ?zq_k10 ?zq_n11 ?zq_l11 ?zq_q11 ?zq_k11 ?zq_n12 ?zq_l12 ?zq_q12 ?zq_k12 ?zq_n13 ?zq_l13 ?zq_q13 ?zq_k13 ?zq_n14 ?zq_l14 ?zq_q14 ?zq_k14 ?zq_n15 ?zq_l15 ?zq_q15 ?zq_k15 ?zq_n16 ?zq_l16 ?zq_q16 ?zq_k16 ?zq_n17 ?zq_l17 ?zq_q17 ?zq_k17 ?zq_n18 ?zq_l18 ?zq_q18 ?zq_k18 ?zq_n19 ?zq_l19 ?zq_q19 ?zq_k19 ?zq_n20 ?zq_l20 ?zq_q20 ?zq_k20 ?zq_n21 ?zq_l21 ?zq_q21 ?zq_k21 ?zq_n22 ?zq_l22 ?zq_q22 ?zq_k22 ?zq_n23 ?zq_l23 ?zq_q23 ?zq_k23 ?zq_n24 ?zq_l24 ?zq_q24 ?zq_k24 ?zq_n25 ?zq_l25 ?zq_q25 ?zq_k25 ?zq_n26 ?zq_l26 ?zq_q26 ?zq_k26 ?zq_n27 ?zq_l27 ?zq_q27 ?zq_k27 ?zq_n28 ?zq_l28 ?zq_q28 ?zq_k28 ?zq_n29 ?zq_l29 ?zq_q29 ?zq_k29 ?zq_n30 ?zq_l30 ?zq_q30 ?zq_k30 ?zq_n31 ?zq_l31 ?zq_q31 ?zq_k31 ?zq_x0 ?zq_y0 ?zq_z0 ?zq_u0 ?zq_t0 ?zq_x1 ?zq_y1 ?zq_z1 ?zq_u1 ?zq_t1 ?zq_x2 ?zq_y2 ?zq_z2 ?zq_u2 ?zq_t2 ?zq_x3 ?zq_y3 ?zq_z3 ?zq_u3 ?zq_t3 ?zq_x4 ?zq_y4 ?zq_z4 ?zq_u4 ?zq_t4 ?zq_x5 ?zq_y5 ?zq_z5 ?zq_u5 ?zq_t5 ?zq_x6 ?zq_y6 ?zq_z6 ?zq_u6 ?zq_t6 ?zq_x7 ?zq_y7 ?zq_z7 ?zq_u7 ?zq_t7 ?zq_x8 ?zq_y8 ?zq_z8 ?zq_u8 ?zq_t8 ?zq_x9 ?zq_y9 ?zq_z9 ?zq_u9 ?zq_t9 ?zq_x10 ?zq_y10 ?zq_z10 ?zq_u10 ?zq_t10 ?zq_x11 ?zq_y11 ?zq_z11 ?zq_u11 ?zq_t11 ?zq_x12 ?zq_y12 ?zq_z12 ?zq_u12 ?zq_t12 ?zq_x13 ?zq_y13 ?zq_z13 ?zq_u13 ?zq_t13 ?zq_Gp ?zq_X0 ?zq_X1 ?zq_X2 ?zq_X3 ?zq_X4 ?zq_X5 ?zq_X6 ?zq_X7 ?zq_X8 ?zq_X9 ?zq_X10 ?zq_X11 ?zq_X12 ?zq_X13 ?zq_b0 ?zq_b1 ?zq_b2 ?zq_b3 ?zq_b4 ?zq_b5 ?zq_b6 ?zq_b7 ?zq_b8 ?zq_b9 ?zq_b10 ?zq_b11 ?zq_b12 ?zq_b13 ?zq_b14 ?zq_b15 ?zq_b16 ?zq_b17 ?zq_b18 ?zq_g0 ?zq_g1 ?zq_g2 ?zq_g3 ?zq_g4 ?zq_g5 ?zq_g6 ?zq_h6 ?zq_sg ?zq_sl ?low _root_.G.THELAW
    (case zq_n0 => k_is)
    (case zq_l0 => k_is)
    (case zq_q0 => k_is)
    (case zq_k0 => k_is)
    (case zq_n1 => k_is)
    (case zq_l1 => k_is)
    (case zq_q1 => k_is)
    (case zq_k1 => k_is)
    (case zq_n2 => k_is)
    (case zq_l2 => k_is)
    (case zq_q2 => k_is)
    (case zq_k2 => k_is)
    (case zq_n3 => k_is)
    (case zq_l3 => k_is)
    (case zq_q3 => k_is)
    (case zq_k3 => k_is)
    (case zq_n4 => k_is)
    (case zq_l4 => k_is)
    (case zq_q4 => k_is)
    (case zq_k4 => k_is)
    (case zq_n5 => k_is)
    (case zq_l5 => k_is)
    (case zq_q5 => k_is)
    (case zq_k5 => k_is)
    (case zq_n6 => k_is)
    (case zq_l6 => k_is)
    (case zq_q6 => k_is)
    (case zq_k6 => k_is)
    (case zq_n7 => k_is)
    (case zq_l7 => k_is)
    (case zq_q7 => k_is)
    (case zq_k7 => k_is)
    (case zq_n8 => k_is)
    (case zq_l8 => k_is)
    (case zq_q8 => k_is)
    (case zq_k8 => k_is)
    (case zq_n9 => k_is)
    (case zq_l9 => k_is)
    (case zq_q9 => k_is)
    (case zq_k9 => k_is)
    (case zq_n10 => k_is)
    (case zq_l10 => k_is)
    (case zq_q10 => k_is)
    (case zq_k10 => k_is)
    (case zq_n11 => k_is)
    (case zq_l11 => k_is)
    (case zq_q11 => k_is)
    (case zq_k11 => k_is)
    (case zq_n12 => k_is)
    (case zq_l12 => k_is)
    (case zq_q12 => k_is)
    (case zq_k12 => k_is)
    (case zq_n13 => k_is)
    (case zq_l13 => k_is)
    (case zq_q13 => k_is)
    (case zq_k13 => k_is)
    (case zq_n14 => k_is)
    (case zq_l14 => k_is)
    (case zq_q14 => k_is)
    (case zq_k14 => k_is)
    (case zq_n15 => k_is)
    (case zq_l15 => k_is)
    (case zq_q15 => k_is)
    (case zq_k15 => k_is)
    (case zq_n16 => k_is)
    (case zq_l16 => k_is)
    (case zq_q16 => k_is)
    (case zq_k16 => k_is)
    (case zq_n17 => k_is)
    (case zq_l17 => k_is)
    (case zq_q17 => k_is)
    (case zq_k17 => k_is)
    (case zq_n18 => k_is)
    (case zq_l18 => k_is)
    (case zq_q18 => k_is)
    (case zq_k18 => k_is)
    (case zq_n19 => k_is)
    (case zq_l19 => k_is)
    (case zq_q19 => k_is)
    (case zq_k19 => k_is)
    (case zq_n20 => k_is)
    (case zq_l20 => k_is)
    (case zq_q20 => k_is)
    (case zq_k20 => k_is)
    (case zq_n21 => k_is)
    (case zq_l21 => k_is)
    (case zq_q21 => k_is)
    (case zq_k21 => k_is)
    (case zq_n22 => k_is)
    (case zq_l22 => k_is)
    (case zq_q22 => k_is)
    (case zq_k22 => k_is)
    (case zq_n23 => k_is)
    (case zq_l23 => k_is)
    (case zq_q23 => k_is)
    (case zq_k23 => k_is)
    (case zq_n24 => k_is)
    (case zq_l24 => k_is)
    (case zq_q24 => k_is)
    (case zq_k24 => k_is)
    (case zq_n25 => k_is)
    (case zq_l25 => k_is)
    (case zq_q25 => k_is)
    (case zq_k25 => k_is)
    (case zq_n26 => k_is)
    (case zq_l26 => k_is)
    (case zq_q26 => k_is)
    (case zq_k26 => k_is)
    (case zq_n27 => k_is)
    (case zq_l27 => k_is)
    (case zq_q27 => k_is)
    (case zq_k27 => k_is)
    (case zq_n28 => k_is)
    (case zq_l28 => k_is)
    (case zq_q28 => k_is)
    (case zq_k28 => k_is)
    (case zq_n29 => k_is)
    (case zq_l29 => k_is)
    (case zq_q29 => k_is)
    (case zq_k29 => k_is)
    (case zq_n30 => k_is)
    (case zq_l30 => k_is)
    (case zq_q30 => k_is)
    (case zq_k30 => k_is)
    (case zq_n31 => k_is)
    (case zq_l31 => k_is)
    (case zq_q31 => k_is)
    (case zq_k31 => k_is)
    (case zq_x0 => k_is)
    (case zq_y0 => k_exc)
    (case zq_z0 => k_is)
    (case zq_u0 => k_is)
    (case zq_t0 => k_is)
    (case zq_x1 => k_is)
    (case zq_y1 => k_exc)
    (case zq_z1 => k_is)
    (case zq_u1 => k_is)
    (case zq_t1 => k_is)
    (case zq_x2 => k_is)
    (case zq_y2 => k_exc)
    (case zq_z2 => k_is)
    (case zq_u2 => k_is)
    (case zq_t2 => k_is)
    (case zq_x3 => k_is)
    (case zq_y3 => k_exc)
    (case zq_z3 => k_is)
    (case zq_u3 => k_is)
    (case zq_t3 => k_is)
    (case zq_x4 => k_is)
    (case zq_y4 => k_exc)
    (case zq_z4 => k_is)
    (case zq_u4 => k_is)
    (case zq_t4 => k_is)
    (case zq_x5 => k_is)
    (case zq_y5 => k_exc)
    (case zq_z5 => k_is)
    (case zq_u5 => k_is)
    (case zq_t5 => k_is)
    (case zq_x6 => k_is)
    (case zq_y6 => k_exc)
    (case zq_z6 => k_is)
    (case zq_u6 => k_is)
    (case zq_t6 => k_is)
    (case zq_x7 => k_is)
    (case zq_y7 => k_exc)
    (case zq_z7 => k_is)
    (case zq_u7 => k_is)
    (case zq_t7 => k_is)
    (case zq_x8 => k_is)
    (case zq_y8 => k_exc)
    (case zq_z8 => k_is)
    (case zq_u8 => k_is)
    (case zq_t8 => k_is)
    (case zq_x9 => k_is)
    (case zq_y9 => k_exc)
    (case zq_z9 => k_is)
    (case zq_u9 => k_is)
    (case zq_t9 => k_is)
    (case zq_x10 => k_is)
    (case zq_y10 => k_exc)
    (case zq_z10 => k_is)
    (case zq_u10 => k_is)
    (case zq_t10 => k_is)
    (case zq_x11 => k_is)
    (case zq_y11 => k_exc)
    (case zq_z11 => k_is)
    (case zq_u11 => k_is)
    (case zq_t11 => k_is)
    (case zq_x12 => k_is)
    (case zq_y12 => k_exc)
    (case zq_z12 => k_is)
    (case zq_u12 => k_is)
    (case zq_t12 => k_is)
    (case zq_x13 => k_is)
    (case zq_y13 => k_exc)
    (case zq_z13 => k_is)
    (case zq_u13 => k_is)
    (case zq_t13 => k_is)
    (case zq_Gp => k_is)
    (case zq_X0 => kernel_rfl)
    (case zq_X1 => kernel_rfl)
    (case zq_X2 => kernel_rfl)
    (case zq_X3 => kernel_rfl)
    (case zq_X4 => kernel_rfl)
    (case zq_X5 => kernel_rfl)
    (case zq_X6 => kernel_rfl)
    (case zq_X7 => kernel_rfl)
    (case zq_X8 => kernel_rfl)
    (case zq_X9 => kernel_rfl)
    (case zq_X10 => kernel_rfl)
    (case zq_X11 => kernel_rfl)
    (case zq_X12 => kernel_rfl)
    (case zq_X13 => kernel_rfl)
    (case zq_b0 => k_is)
    (case zq_b1 => k_is)
    (case zq_b2 => k_is)
    (case zq_b3 => k_is)
    (case zq_b4 => k_is)
    (case zq_b5 => k_is)
    (case zq_b6 => k_is)
    (case zq_b7 => k_is)
    (case zq_b8 => k_is)
    (case zq_b9 => k_is)
    (case zq_b10 => k_is)
    (case zq_b11 => k_is)
    (case zq_b12 => k_is)
    (case zq_b13 => k_is)
    (case zq_b14 => k_is)
    (case zq_b15 => k_is)
    (case zq_b16 => k_is)
    (case zq_b17 => k_is)
    (case zq_b18 => k_is)
    (case zq_g0 => k_is)
    (case zq_g1 => k_is)
    (case zq_g2 => k_is)
    (case zq_g3 => k_is)
    (case zq_g4 => k_is)
    (case zq_g5 => k_is)
    (case zq_g6 => k_is)
    (case zq_h6 => k_is)
    (case zq_sg => k_is)
    (case zq_sl => k_is)
    (case low => decide)
#print axioms PySem.Challenge.cw_gapforms_k29_marking_refused_holds
