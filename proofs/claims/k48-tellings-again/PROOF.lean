import PyProof.Rows.All
import Wide.All
import OpenK.AllK
import Wide.FinOn
import HandS.ForMost
import HandS.ForExc
import HandS.TupAny
import HandS.TupMul
import HandS.IsInst
import HandS.Style
import HandS.RaiseOp
import HandS.Zip
import HandS.SortRule
import HandS.Wide
import HandS.Deep
import HandS.Walk
import HandS.Conv
import KE.GoesEnum
import HandS.SortInts
import HandS.SortOrd
import KE.KSortTup
import HandS.RaiseMore
import PySem.Challenge.RW_highground_k48_whole_tellings_again_and
set_option Elab.async false
set_option linter.all false
set_option maxRecDepth 100000
set_option autoImplicit false
namespace Dl
open PySem PySem.Spec PyProof.Rows L2

/-! ### data -/
inductive D where
  | non | bl (b : Bool) | int (i : Int) | str (x : Str)
  | tup (ds : List D) | lst (ds : List D) | box (n : Nat) | fn (x : Str) | ty (n : String) | scr (ns : List Int)
  deriving Inhabited

inductive Bx where
  | lst (ds : List D)
abbrev Store := List Bx

inductive Out (α : Type) where
  | ok (a : α) (S : Store) | exc (c : Str) (fs : List (Str × D)) (S : Store) | stuck

abbrev M (α : Type) := Store → Out α
@[inline] def ret {α : Type} (a : α) : M α := fun S => .ok a S
def Out.next {α β : Type} (o : Out α) (k : α → M β) : Out β := match o with
  | .ok a S' => k a S' | .exc c fs S' => .exc c fs S' | .stuck => .stuck
def bnd {α β : Type} (m : M α) (k : α → M β) : M β := fun S => (m S).next k
def stk {α : Type} : M α := fun _ => .stuck
def opt {α : Type} : Option α → M α
  | some a => ret a
  | none => stk
theorem bnd_ret {α β : Type} (a : α) (k : α → M β) : bnd (ret a) k = k a := rfl
theorem bnd_stk {α β : Type} (k : α → M β) : bnd (stk : M α) k = stk := rfl
theorem opt_some {α : Type} (a : α) : opt (some a) = ret a := rfl
theorem opt_none {α : Type} : opt (none : Option α) = stk := rfl
theorem bnd_assoc {α β γ : Type} (m : M α) (k : α → M β) (h : β → M γ) : bnd (bnd m k) h = bnd m fun a => bnd (k a) h := by
  funext S; unfold bnd Out.next; cases m S <;> rfl

/-! ### the ghost world -/
structure Gw where
  β : List Addr
  F : Hp

/-- a tuple that stands for good -/
def TupF (K : PySem.W.Frag) (F : Hp) (a : Addr) (xs : List V) : Prop :=
  F a = some (.tup xs) ∨ ∃ (o : Obj) (its : Array Value) (n : Nat), K.lookup a = some o ∧ o.cls = .type "tuple" ∧ o.data = .seq its n ∧ its.size ≤ sizeLine ∧ Vals xs its.toList
/-- the law's script: a list of ints that stands for good -/
def ScrF (K : PySem.W.Frag) (F : Hp) (a : Addr) (ns : List Int) : Prop :=
  (∃ o, F a = some (.frz o (.lst (ns.map V.int)))) ∨ ∃ (o : Obj) (its : Array Value) (n : Nat), K.lookup a = some o ∧ o.cls = .type "list" ∧ o.dict = none ∧ o.data = .seq its n ∧ its.size ≤ sizeLine ∧ Vals (ns.map V.int) its.toList
theorem ScrF.sq {K : PySem.W.Frag} {F H : Hp} (h : ∀ a o, F a = some o → H a = some o) {a : Addr} {ns : List Int} : ScrF K F a ns → SqL K H a (ns.map V.int)
  | .inl ⟨o, e⟩ => .inl (.inr ⟨o, h _ _ e⟩)
  | .inr q => .inr q
theorem ScrF.fz {K : PySem.W.Frag} {F H : Hp} (h : ∀ a o, F a = some o → H a = some o) {a : Addr} {ns : List Int} : ScrF K F a ns → ScrF K H a ns
  | .inl ⟨o, e⟩ => .inl ⟨o, h _ _ e⟩
  | .inr q => .inr q
theorem TupF.sq {K : PySem.W.Frag} {F H : Hp} (h : ∀ a o, F a = some o → H a = some o) {a : Addr} {xs : List V} : TupF K F a xs → SqT K H a xs
  | .inl e => .inl (.inl (h _ _ e))
  | .inr q => .inr q
theorem TupF.fz {K : PySem.W.Frag} {F H : Hp} (h : ∀ a o, F a = some o → H a = some o) {a : Addr} {xs : List V} : TupF K F a xs → TupF K H a xs
  | .inl e => .inl (h _ _ e)
  | .inr q => .inr q
section
variable (K : PySem.W.Frag) (mg : Str → Option Value)
mutual
inductive Rp (g : Gw) : V → D → Prop
  | non : Rp g .non .non
  | bl (b : Bool) : Rp g (.bl b) (.bl b)
  | int (i : Int) : Rp g (.int i) (.int i)
  | str (x : Str) : Rp g (.str x) (.str x)
  | tup {a : Addr} {vs : List V} {ds : List D} : TupF K g.F a vs → RpAll g vs ds → Rp g (.ref a) (.tup ds)
  | lst {a : Addr} {vs : List V} {ds : List D} : g.F a = some (.lst vs) → RpAll g vs ds → Rp g (.ref a) (.lst ds)
  | box {n : Nat} {a : Addr} : g.β[n]? = some a → Rp g (.ref a) (.box n)
  | fn {x : Str} {f : Addr} : mg x = some (.ref f) → Rp g (.ref f) (.fn x)
  | ty (n : String) : Rp g (.ty n) (.ty n)
  | scr {a : Addr} {ns : List Int} : ScrF K g.F a ns → Rp g (.ref a) (.scr ns)
inductive RpAll (g : Gw) : List V → List D → Prop
  | nil : RpAll g [] []
  | cons {v : V} {vs : List V} {d : D} {ds : List D} : Rp g v d → RpAll g vs ds → RpAll g (v :: vs) (d :: ds)
end

structure Ext (g : Gw) (H : Hp) (g' : Gw) (H' : Hp) : Prop where
  box : g.β <+: g'.β
  fz : ∀ a o, g.F a = some o → g'.F a = some o
  keep : ∀ a o, H a = some o → a ∉ g.β → H' a = some o
  there : ∀ a, H a ≠ none → H' a ≠ none
  fnew : ∀ a, H a ≠ none → g'.F a ≠ none → g.F a ≠ none
  bnew : ∀ a, a ∈ g'.β → a ∈ g.β ∨ H a = none

def BxOk (g : Gw) (H : Hp) (a : Addr) : Bx → Prop
  | .lst ds => ∃ vs, H a = some (.lst vs) ∧ RpAll K mg g vs ds

structure Wd (g : Gw) (S : Store) (H : Hp) : Prop where
  sub : ∀ a o, g.F a = some o → H a = some o
  nd : g.β.Nodup
  len : g.β.length = S.length
  bfz : ∀ a, a ∈ g.β → g.F a = none
  box : ∀ (i : Nat) (a : Addr) (b : Bx), g.β[i]? = some a → S[i]? = some b → BxOk K mg g H a b

/-- readable now: data for good, or a list as it stands -/
def RB (g : Gw) (H : Hp) (v : V) (d : D) : Prop :=
  Rp K mg g v d ∨ ∃ a vs ds, v = .ref a ∧ d = .lst ds ∧ H a = some (.lst vs) ∧ RpAll K mg g vs ds ∧ a ∉ g.β
def isL : D → Bool
  | .lst _ => true
  | _ => false
/-- data for good and no list, or a new list that nobody else knows -/
def RF (H : Hp) (g' : Gw) (H' : Hp) (v : V) (d : D) : Prop :=
  (Rp K mg g' v d ∧ isL d = false) ∨ ∃ a vs ds, v = .ref a ∧ d = .lst ds ∧ H' a = some (.lst vs) ∧ RpAll K mg g' vs ds ∧ g'.F a = none ∧ a ∉ g'.β ∧ H a = none
inductive Kd | P | F | B
  deriving DecidableEq
def KR (k : Kd) (H : Hp) (g' : Gw) (H' : Hp) (v : V) (d : D) : Prop := match k with
  | .P => Rp K mg g' v d
  | .F => RF K mg H g' H' v d
  | .B => RB K mg g' H' v d
end

section
variable {K : PySem.W.Frag} {mg : Str → Option Value} {g g' g'' : Gw} {H H' H'' H0 : Hp} {S S' : Store}

theorem Ext.refl : Ext g H g H := ⟨List.prefix_refl _, fun _ _ h => h, fun _ _ h _ => h, fun _ h => h, fun _ _ h => h, fun _ h => .inl h⟩
theorem Ext.trans (a : Ext g H g' H') (b : Ext g' H' g'' H'') : Ext g H g'' H'' where
  box := a.box.trans b.box
  fz := fun x o h => b.fz x o (a.fz x o h)
  keep := fun x o h n => b.keep x o (a.keep x o h n) fun hm => (a.bnew x hm).elim n fun e => by rw [h] at e; cases e
  there := fun x h => b.there x (a.there x h)
  fnew := fun x h q => a.fnew x h (b.fnew x (a.there x h) q)
  bnew := fun x h => (b.bnew x h).elim (a.bnew x) fun e => .inr (by
    cases q : H x with
    | none => rfl
    | some o => exact absurd e (a.there x (by rw [q]; exact fun z => nomatch z)))

mutual
theorem Rp.mono (hb : g.β <+: g'.β) (hf : ∀ a o, g.F a = some o → g'.F a = some o) : ∀ {v : V} {d : D}, Rp K mg g v d → Rp K mg g' v d
  | _, _, .non => .non
  | _, _, .bl b => .bl b
  | _, _, .int b => .int b
  | _, _, .str b => .str b
  | _, _, .tup h r => .tup (TupF.fz hf h) (RpAll.mono hb hf r)
  | _, _, .lst h r => .lst (hf _ _ h) (RpAll.mono hb hf r)
  | _, _, .box h => .box (by
      obtain ⟨t, e⟩ := hb
      rw [← e, List.getElem?_append_left]
      · exact h
      · exact (List.getElem?_eq_some_iff.mp h).1)
  | _, _, .fn h => .fn h
  | _, _, .ty n => .ty n
  | _, _, .scr h => .scr (ScrF.fz hf h)
theorem RpAll.mono (hb : g.β <+: g'.β) (hf : ∀ a o, g.F a = some o → g'.F a = some o) : ∀ {vs : List V} {ds : List D}, RpAll K mg g vs ds → RpAll K mg g' vs ds
  | _, _, .nil => .nil
  | _, _, .cons h r => .cons (Rp.mono hb hf h) (RpAll.mono hb hf r)
end
theorem Rp.ext (e : Ext g H g' H') {v : V} {d : D} (r : Rp K mg g v d) : Rp K mg g' v d := r.mono e.box e.fz
theorem RpAll.ext (e : Ext g H g' H') {v : List V} {d : List D} (r : RpAll K mg g v d) : RpAll K mg g' v d := r.mono e.box e.fz
theorem RB.ext (e : Ext g H g' H') {v : V} {d : D} (r : RB K mg g H v d) : RB K mg g' H' v d := by
  rcases r with r | ⟨a, vs, ds, rfl, rfl, h, r, n⟩
  · exact .inl (r.ext e)
  · refine .inr ⟨a, vs, ds, rfl, rfl, e.keep _ _ h n, r.ext e, fun hm => (e.bnew a hm).elim n fun q => by rw [h] at q; cases q⟩
theorem RF.rb {v : V} {d : D} (r : RF K mg H g' H' v d) : RB K mg g' H' v d := by
  rcases r with ⟨r, _⟩ | ⟨a, vs, ds, rfl, rfl, h, r, _, n, _⟩
  · exact .inl r
  · exact .inr ⟨a, vs, ds, rfl, rfl, h, r, n⟩
theorem KR.rb {k : Kd} {v : V} {d : D} (r : KR K mg k H g' H' v d) : RB K mg g' H' v d := by
  cases k
  · exact .inl r
  · exact RF.rb r
  · exact r
theorem KR.ofP {k : Kd} {v : V} {d : D} (hk : k ≠ .F) (r : Rp K mg g' v d) : KR K mg k H g' H' v d := by
  cases k
  · exact r
  · exact absurd rfl hk
  · exact .inl r
theorem KR.ofS {k : Kd} {v : V} {d : D} (r : Rp K mg g' v d) (hs : isL d = false := by rfl) : KR K mg k H g' H' v d := by
  cases k
  · exact r
  · exact .inl ⟨r, hs⟩
  · exact .inl r

theorem RpAll.length : ∀ {vs : List V} {ds : List D}, RpAll K mg g vs ds → vs.length = ds.length
  | _, _, .nil => rfl
  | _, _, .cons _ t => by simp [RpAll.length t]
theorem RpAll.append : ∀ {xs ys : List V} {ds es : List D}, RpAll K mg g xs ds → RpAll K mg g ys es → RpAll K mg g (xs ++ ys) (ds ++ es)
  | _, _, _, _, .nil, s => s
  | _, _, _, _, .cons r t, s => .cons r (RpAll.append t s)
theorem RpAll.get : ∀ {vs : List V} {ds : List D} {i : Nat} {d : D}, RpAll K mg g vs ds → ds[i]? = some d → ∃ v, vs[i]? = some v ∧ Rp K mg g v d
  | _, _, _, _, .nil, e => by simp at e
  | _, _, 0, _, .cons r _, e => by simp at e; subst e; exact ⟨_, rfl, r⟩
  | _, _, i + 1, d, .cons _ t, e => by
    obtain ⟨u, h1, h2⟩ := RpAll.get (i := i) (d := d) t (by simpa using e)
    exact ⟨u, by simpa using h1, h2⟩
theorem RpAll.get' : ∀ {vs : List V} {ds : List D} {i : Nat} {v : V}, RpAll K mg g vs ds → vs[i]? = some v → ∃ d, ds[i]? = some d ∧ Rp K mg g v d
  | _, _, _, _, .nil, e => by simp at e
  | _, _, 0, _, .cons r _, e => by simp at e; subst e; exact ⟨_, rfl, r⟩
  | _, _, i + 1, d, .cons _ t, e => by
    obtain ⟨u, h1, h2⟩ := RpAll.get' (i := i) t (by simpa using e)
    exact ⟨u, by simpa using h1, h2⟩
theorem RpAll.set {v : V} {d : D} (r : Rp K mg g v d) : ∀ {vs : List V} {ds : List D} (i : Nat), RpAll K mg g vs ds → RpAll K mg g (vs.set i v) (ds.set i d)
  | _, _, _, .nil => .nil
  | _, _, 0, .cons _ t => .cons r t
  | _, _, i + 1, .cons q t => .cons q (RpAll.set r i t)
theorem RpAll.take : ∀ {vs : List V} {ds : List D} (n : Nat), RpAll K mg g vs ds → RpAll K mg g (vs.take n) (ds.take n)
  | _, _, 0, _ => .nil
  | _, _, _ + 1, .nil => .nil
  | _, _, n + 1, .cons r t => .cons r (RpAll.take n t)
theorem RpAll.drop : ∀ {vs : List V} {ds : List D} (n : Nat), RpAll K mg g vs ds → RpAll K mg g (vs.drop n) (ds.drop n)
  | _, _, 0, r => r
  | _, _, _ + 1, .nil => .nil
  | _, _, n + 1, .cons _ t => RpAll.drop n t
theorem RpAll.reverse {vs : List V} {ds : List D} (h : RpAll K mg g vs ds) : RpAll K mg g vs.reverse ds.reverse := by
  induction vs generalizing ds with
  | nil => cases h; exact .nil
  | cons v vs ih =>
    cases h with
    | cons r t => rw [List.reverse_cons, List.reverse_cons]; exact (ih t).append (.cons r .nil)
theorem RpAll.rep {vs : List V} {ds : List D} (h : RpAll K mg g vs ds) : ∀ k : Nat, RpAll K mg g (List.replicate k vs).flatten (List.replicate k ds).flatten
  | 0 => .nil
  | k + 1 => by rw [List.replicate_succ, List.replicate_succ, List.flatten_cons, List.flatten_cons]; exact h.append (h.rep k)

/-- a list that may be read -/
theorem RB.list (w : Wd K mg g S H) {v : V} {ds : List D} (r : RB K mg g H v (.lst ds)) : ∃ a vs, v = .ref a ∧ H a = some (.lst vs) ∧ RpAll K mg g vs ds := by
  rcases r with r | ⟨a, vs, ds', rfl, e, h, r, _⟩
  · cases r with
    | lst h r => exact ⟨_, _, rfl, w.sub _ _ h, r⟩
  · cases e; exact ⟨a, vs, rfl, h, r⟩
theorem RB.tup (w : Wd K mg g S H) {v : V} {ds : List D} (r : RB K mg g H v (.tup ds)) : ∃ a vs, v = .ref a ∧ SqT K H a vs ∧ RpAll K mg g vs ds := by
  rcases r with r | ⟨a, vs, ds', _, e, _⟩
  · cases r with
    | tup h r => exact ⟨_, _, rfl, h.sq w.sub, r⟩
  · cases e
theorem RB.int {v : V} {i : Int} (r : RB K mg g H v (.int i)) : v = .int i := by
  rcases r with r | ⟨a, vs, ds', _, e, _⟩
  · cases r; rfl
  · cases e
theorem RB.bl {v : V} {i : Bool} (r : RB K mg g H v (.bl i)) : v = .bl i := by
  rcases r with r | ⟨a, vs, ds', _, e, _⟩
  · cases r; rfl
  · cases e
theorem RB.str {v : V} {i : Str} (r : RB K mg g H v (.str i)) : v = .str i := by
  rcases r with r | ⟨a, vs, ds', _, e, _⟩
  · cases r; rfl
  · cases e
theorem RB.non {v : V} (r : RB K mg g H v .non) : v = .non := by
  rcases r with r | ⟨a, vs, ds', _, e, _⟩
  · cases r; rfl
  · cases e
theorem RB.box (w : Wd K mg g S H) {v : V} {n : Nat} {ds : List D} (r : RB K mg g H v (.box n)) (e : S[n]? = some (.lst ds)) : ∃ a vs, v = .ref a ∧ g.β[n]? = some a ∧ H a = some (.lst vs) ∧ RpAll K mg g vs ds := by
  rcases r with r | ⟨a, vs, ds', _, e, _⟩
  · cases r with
    | box h =>
      obtain ⟨vs, h1, h2⟩ := w.box _ _ _ h e
      exact ⟨_, vs, rfl, h, h1, h2⟩
  · cases e

/-- a new object is laid: nothing else changes -/
theorem Ext.laid {p : Addr} {o : HO} (hp : H p = none) : Ext g H g (upd H p o) where
  box := List.prefix_refl _
  fz := fun _ _ h => h
  keep := fun a o h _ => by rw [upd_ne (ne_of_none h hp)]; exact h
  there := fun a h => by unfold upd; split; (exact fun z => nomatch z); exact h
  fnew := fun _ _ h => h
  bnew := fun _ h => .inl h
theorem BxOk.mono (hb : g.β <+: g'.β) (hf : ∀ a o, g.F a = some o → g'.F a = some o) {a : Addr} {b : Bx} (he : H' a = H a) (h : BxOk K mg g H a b) : BxOk K mg g' H' a b := by
  cases b with
  | lst ds => obtain ⟨vs, h1, h2⟩ := h; exact ⟨vs, by rw [he]; exact h1, h2.mono hb hf⟩
theorem Wd.bthere (w : Wd K mg g S H) {a : Addr} (h : a ∈ g.β) : H a ≠ none := by
  obtain ⟨i, hi⟩ := List.mem_iff_getElem?.mp h
  have hl : i < S.length := by rw [← w.len]; exact (List.getElem?_eq_some_iff.mp hi).1
  have := w.box i a _ hi (List.getElem?_eq_getElem hl)
  revert this
  cases S[i] with
  | lst ds => rintro ⟨vs, h1, _⟩; rw [h1]; exact fun z => nomatch z
theorem Wd.laid (w : Wd K mg g S H) {p : Addr} {o : HO} (hp : H p = none) : Wd K mg g S (upd H p o) where
  sub := fun a o h => by rw [upd_ne (ne_of_none (w.sub _ _ h) hp)]; exact w.sub _ _ h
  nd := w.nd
  len := w.len
  bfz := w.bfz
  box := fun i a b h1 h2 => by
    refine (w.box i a b h1 h2).mono (List.prefix_refl _) (fun _ _ h => h) (upd_ne ?_)
    rintro rfl
    exact w.bthere (List.mem_of_getElem? h1) hp
theorem Wd.pnew (w : Wd K mg g S H) {p : Addr} (hp : H p = none) : p ∉ g.β ∧ g.F p = none :=
  ⟨fun h => w.bthere h hp, by
    cases q : g.F p with
    | none => rfl
    | some o => rw [w.sub _ _ q] at hp; cases hp⟩
/-- a new object is laid, and frozen -/
theorem fz_upd {p : Addr} {o : HO} (hf : g.F p = none) : ∀ a u, g.F a = some u → (upd g.F p o) a = some u := fun a u h => by
  rw [upd_ne (ne_of_none h hf)]; exact h
theorem RpAll.fzn {p : Addr} {o : HO} (hf : g.F p = none) {vs : List V} {ds : List D} (h : RpAll K mg g vs ds) : RpAll K mg ⟨g.β, upd g.F p o⟩ vs ds :=
  RpAll.mono (g := g) (g' := ⟨g.β, upd g.F p o⟩) (List.prefix_refl _) (fz_upd hf) h
theorem Wd.frozen (w : Wd K mg g S H) {p : Addr} {o : HO} (hp : H p = some o) (hb : p ∉ g.β) (hf : g.F p = none) : Wd K mg ⟨g.β, upd g.F p o⟩ S H where
  sub := fun a u h => by
    have h' : (upd g.F p o) a = some u := h
    by_cases e : a = p
    · subst e; rw [upd_same] at h'; cases h'; exact hp
    · rw [upd_ne e] at h'; exact w.sub _ _ h'
  nd := w.nd
  len := w.len
  bfz := fun a h => by
    show (upd g.F p o) a = none
    rw [upd_ne (by rintro rfl; exact hb h)]
    exact w.bfz a h
  box := fun i a b h1 h2 => BxOk.mono (g := g) (g' := ⟨g.β, upd g.F p o⟩) (List.prefix_refl _) (fz_upd hf) rfl (w.box i a b h1 h2)
theorem Ext.frozen (e : Ext g H g' H') {p : Addr} {o : HO} (hf : g'.F p = none) (hn : H p = none) : Ext g H ⟨g'.β, upd g'.F p o⟩ H' where
  box := e.box
  fz := fun a u h => fz_upd hf a u (e.fz a u h)
  keep := e.keep
  there := e.there
  fnew := fun a h q => by
    have hne : a ≠ p := by rintro rfl; exact h hn
    have q' : (upd g'.F p o) a ≠ none := q
    rw [upd_ne hne] at q'
    exact e.fnew a h q'
  bnew := e.bnew
end
end Dl

set_option Elab.async false
set_option linter.all false
set_option maxRecDepth 100000
set_option autoImplicit false
namespace Dl
open PySem PySem.Spec L2
open PyProof.Rows hiding St

/-! ### the slots -/
inductive Slot where
  | emp | dat (d : D) | own (d : D)
abbrev Env := List Slot
inductive Fl where
  | nx (ρ : Env) | rt (d : D) | bk (ρ : Env) | ct (ρ : Env)

def Mn (g g' : Gw) : Prop := g.β <+: g'.β ∧ ∀ a o, g.F a = some o → g'.F a = some o
theorem Mn.refl {g : Gw} : Mn g g := ⟨List.prefix_refl _, fun _ _ h => h⟩
theorem Mn.trans {g g' g'' : Gw} (a : Mn g g') (b : Mn g' g'') : Mn g g'' := ⟨a.1.trans b.1, fun x o h => b.2 x o (a.2 x o h)⟩
theorem Ext.mn {g g' : Gw} {H H' : Hp} (e : Ext g H g' H') : Mn g g' := ⟨e.box, e.fz⟩
section
variable (K : PySem.W.Frag) (mg : Str → Option Value)
def SlotOk (g : Gw) (H H0 : Hp) (x : Option (Option V)) : Slot → Prop
  | .emp => True
  | .dat d => ∃ v, x = some (some v) ∧ Rp K mg g v d
  | .own d => ∃ a vs ds, d = .lst ds ∧ x = some (some (.ref a)) ∧ H a = some (.lst vs) ∧ RpAll K mg g vs ds ∧ g.F a = none ∧ a ∉ g.β ∧ H0 a = none
structure RpE (g : Gw) (H H0 : Hp) (σ : St) (ρ : Env) : Prop where
  len : ρ.length = σ.length
  at_ : ∀ (i : Nat) (s : Slot), ρ[i]? = some s → SlotOk K mg g H H0 σ[i]? s
  sep : ∀ (i j : Nat) (d e : D), i ≠ j → ρ[i]? = some (.own d) → ρ[j]? = some (.own e) → σ[i]? ≠ σ[j]?

/-- an exception of the class called c, its fields -/
def ExcIs (g : Gw) (H : Hp) (cls : Value) (dd : Option Addr) (c : Str) (fs : List (Str × D)) : Prop :=
  mg c = some cls ∧ ((dd = none ∧ fs = []) ∨ ∃ d vs, dd = some d ∧ H d = some (.xd (fs.map (·.1) |>.zip vs)) ∧ RpAll K mg g vs (fs.map (·.2)))

def OutE {α : Type} (E : XK) (g : Gw) (H : Hp) (o : Out α) (P : α → Store → Prop) : Prop := match o with
  | .ok a S' => P a S'
  | .exc c fs S' => ∀ g' H' cls dd, Ext g H g' H' → Wd K mg g' S' H' → ExcIs K mg g' H' cls dd c fs → E cls dd H'
  | .stuck => False

/-- an expression's reading by data -/
def tDE (k : Kd) (E : XK) (f : Env → M D) : TE := fun σ H Q => ∃ H0 g S ρ, Wd K mg g S H ∧ RpE K mg g H H0 σ ρ ∧
  OutE K mg E g H (f ρ S) fun d S' => ∀ g' H' v, Ext g H g' H' → Wd K mg g' S' H' → KR K mg k H g' H' v d → Q v H'
def tDT (E : XK) (f : Env → M Bool) : TT := fun σ H Q => ∃ H0 g S ρ, Wd K mg g S H ∧ RpE K mg g H H0 σ ρ ∧
  OutE K mg E g H (f ρ S) fun b S' => ∀ g' H', Ext g H g' H' → Wd K mg g' S' H' → Q b H'
inductive KAll (k : V → D → Prop) : List V → List D → Prop
  | nil : KAll k [] []
  | cons {v : V} {vs : List V} {d : D} {ds : List D} : k v d → KAll k vs ds → KAll k (v :: vs) (d :: ds)
def RBs (g : Gw) (H : Hp) : List V → List D → Prop := KAll (RB K mg g H)
/-- arguments: P for good, else as they stand -/
def tDA (k : Kd) (E : XK) (f : Env → M (List D)) : TA := fun σ H Q => ∃ H0 g S ρ, Wd K mg g S H ∧ RpE K mg g H H0 σ ρ ∧
  OutE K mg E g H (f ρ S) fun ds S' => ∀ g' H' vs, Ext g H g' H' → Wd K mg g' S' H' → (match k with | .P => RpAll K mg g' vs ds | _ => RBs K mg g' H' vs ds) → Q vs H'
/-- a statement's -/
def tDS (E : XK) (f : Env → M Fl) : TS := fun Dn σ H => ∃ g0 H0 g S ρ, Ext g0 H0 g H ∧ Wd K mg g S H ∧ RpE K mg g H H0 σ ρ ∧
  OutE K mg E g0 H0 (f ρ S) fun fl S' => match fl with
    | .nx ρ' => ∀ g' H' σ', Ext g0 H0 g' H' → Mn g g' → Wd K mg g' S' H' → RpE K mg g' H' H0 σ' ρ' → Dn.nx σ' H'
    | .rt d => ∀ g' H' v, Ext g0 H0 g' H' → Mn g g' → Wd K mg g' S' H' → Rp K mg g' v d → Dn.rt v H'
    | .bk ρ' => ∀ g' H' σ', Ext g0 H0 g' H' → Mn g g' → Wd K mg g' S' H' → RpE K mg g' H' H0 σ' ρ' → Dn.bk σ' H'
    | .ct ρ' => ∀ g' H' σ', Ext g0 H0 g' H' → Mn g g' → Wd K mg g' S' H' → RpE K mg g' H' H0 σ' ρ' → Dn.ct σ' H'
end

def DE (k : Kd) (X : Cx) (E : XK) (e : Expr) (f : Env → M D) : Prop := PE X e (tDE X.K X.mg k E f)
def DT (X : Cx) (E : XK) (e : Expr) (f : Env → M Bool) : Prop := PT X e (tDT X.K X.mg E f)
def DA (k : Kd) (X : Cx) (E : XK) (es : List Expr) (f : Env → M (List D)) : Prop := PA X es (tDA X.K X.mg k E f)
def DS (X : Cx) (E : XK) (st : Stmt) (f : Env → M Fl) : Prop := PS X st (tDS X.K X.mg E f)
def DSs (X : Cx) (E : XK) (sts : List Stmt) (f : Env → M Fl) : Prop := PSs X sts (tDS X.K X.mg E f)

section
variable {X : Cx} {E : XK} {e : Expr} {t t' : TE}
theorem PE.imp (h : PE X e t) (i : ∀ σ H Q, t' σ H Q → t σ H Q) : PE X e t' := ⟨fun pins s σ H Q I q => h.run pins s σ H Q I (i σ H Q q)⟩
theorem PT.imp {t t' : TT} (h : PT X e t) (i : ∀ σ H Q, t' σ H Q → t σ H Q) : PT X e t' := ⟨fun pins s σ H Q I q => h.run pins s σ H Q I (i σ H Q q)⟩
theorem PA.imp {es : List Expr} {t t' : TA} (h : PA X es t) (i : ∀ σ H Q, t' σ H Q → t σ H Q) : PA X es t' := ⟨fun pos pins s σ H Q I q => h.run pos pins s σ H Q I (i σ H Q q)⟩
theorem PS.imp {st : Stmt} {t t' : TS} (h : PS X st t) (i : ∀ Q σ H, t' Q σ H → t Q σ H) : PS X st t' := ⟨fun pins s σ H Q I q => h.run pins s σ H Q I (i Q σ H q)⟩
theorem PSs.imp {st : List Stmt} {t t' : TS} (h : PSs X st t) (i : ∀ Q σ H, t' Q σ H → t Q σ H) : PSs X st t' := ⟨fun pins s σ H Q I q => h.run pins s σ H Q I (i Q σ H q)⟩
end

section
variable {K : PySem.W.Frag} {mg : Str → Option Value} {g g' g'' : Gw} {H H' H'' H0 : Hp} {S S' : Store} {σ σ' : St} {ρ ρ' : Env}
theorem SlotOk.ext (w : Wd K mg g S H) (e : Ext g H g' H') {x : Option (Option V)} {s : Slot} (h : SlotOk K mg g H H0 x s) : SlotOk K mg g' H' H0 x s := by
  cases s with
  | emp => trivial
  | dat d => obtain ⟨v, h1, h2⟩ := h; exact ⟨v, h1, h2.ext e⟩
  | own d =>
    obtain ⟨a, vs, ds, hd, h1, h2, h3, h4, h5, h6⟩ := h
    refine ⟨a, vs, ds, hd, h1, e.keep _ _ h2 h5, h3.ext e, ?_, fun hm => (e.bnew a hm).elim h5 (fun q => by rw [h2] at q; cases q), h6⟩
    cases q : g'.F a with
    | none => rfl
    | some o => exact absurd h4 (e.fnew a (by rw [h2]; exact fun z => nomatch z) (by rw [q]; exact fun z => nomatch z))
theorem RpE.ext (w : Wd K mg g S H) (e : Ext g H g' H') (r : RpE K mg g H H0 σ ρ) : RpE K mg g' H' H0 σ ρ :=
  ⟨r.len, fun i s h => (r.at_ i s h).ext w e, r.sep⟩

theorem OutE.bnd {α β : Type} {E : XK} {m : Out α} {k : α → M β} {P : β → Store → Prop} (h : OutE K mg E g H (m.next k) P) :
    OutE K mg E g H m fun a S' => OutE K mg E g H (k a S') P := by
  cases m with
  | ok a S' => exact h
  | exc c fs S' => exact h
  | stuck => exact h
theorem OutE.mono {α : Type} {E : XK} {m : Out α} {P P' : α → Store → Prop} (h : OutE K mg E g H m P) (e : Ext g H g' H') (i : ∀ a S', P a S' → P' a S') : OutE K mg E g' H' m P' := by
  cases m with
  | ok a S' => exact i _ _ h
  | exc c fs S' => exact fun g'' H'' cls dd e' w x => h g'' H'' cls dd (e.trans e') w x
  | stuck => exact h
theorem OutE.imp {α : Type} {E : XK} {m : Out α} {P P' : α → Store → Prop} (h : OutE K mg E g H m P) (i : ∀ a S', P a S' → P' a S') : OutE K mg E g H m P' := h.mono Ext.refl i

end

/-! ### expressions -/
section
variable {X : Cx} {E : XK} {e a b : Expr} {pos : Pos} {k : Kd} {f h : Env → M D}

def eC (d : D) : Env → M D := fun _ => ret d
def eV (i : Nat) : Env → M D := fun ρ => match ρ[i]? with | some (.dat d) => ret d | _ => stk
def eB (i : Nat) : Env → M D := fun ρ => match ρ[i]? with | some (.dat d) => ret d | some (.own d) => ret d | _ => stk

theorem de_const {v : V} {d : D} (hp : PE X e (tC v)) (hr : ∀ g, Rp X.K X.mg g v d) (hs : isL d = false := by rfl) : DE k X E e (eC d) := PE.imp hp fun σ H Q ⟨H0, g, S, ρ, w, r, q⟩ =>
  q g H v Ext.refl w (KR.ofS (hr g) hs)
theorem de_int {i j pos} : DE k X E (.Constant (.int i) j pos) (eC (.int i)) := de_const pe_int fun g => .int i
theorem de_bl {i j pos} : DE k X E (.Constant (.bool i) j pos) (eC (.bl i)) := de_const pe_bl fun g => .bl i
theorem de_non {j pos} : DE k X E (.Constant .none j pos) (eC .non) := de_const pe_non fun g => .non
theorem de_str {i j pos} : DE k X E (.Constant (.str i) j pos) (eC (.str i)) := de_const pe_str fun g => .str i

theorem de_var (i : Nat) {x : Str} {pos : Pos} (hN : X.N[i]? = some x := by rfl) (hv : Vis X.env.scope x := by first | exact Or.inl rfl | exact Or.inr (Or.inl rfl) | exact Or.inr (Or.inr rfl)) (hd : (x == ("__debug__" : Str)) = false := by decide)
    (hcd : (x == ("__classdict__" : Str)) = false := by decide) (hk : k ≠ .F := by decide) : DE k X E (.Name x pos) (eV i) := PE.imp (pe_var hN hv hd hcd) fun σ H Q ⟨H0, g, S, ρ, w, r, q⟩ => by
  unfold eV at q
  cases hi : ρ[i]? with
  | none => rw [hi] at q; exact q.elim
  | some s =>
    rw [hi] at q
    cases s with
    | emp => exact q.elim
    | own d => exact q.elim
    | dat d =>
      obtain ⟨v, h1, h2⟩ := r.at_ i _ hi
      exact ⟨v, h1, q g H v Ext.refl w (KR.ofP hk h2)⟩
theorem de_varB (i : Nat) {x : Str} {pos : Pos} (hN : X.N[i]? = some x := by rfl) (hv : Vis X.env.scope x := by first | exact Or.inl rfl | exact Or.inr (Or.inl rfl) | exact Or.inr (Or.inr rfl)) (hd : (x == ("__debug__" : Str)) = false := by decide)
    (hcd : (x == ("__classdict__" : Str)) = false := by decide) : DE .B X E (.Name x pos) (eB i) := PE.imp (pe_var hN hv hd hcd) fun σ H Q ⟨H0, g, S, ρ, w, r, q⟩ => by
  unfold eB at q
  cases hi : ρ[i]? with
  | none => rw [hi] at q; exact q.elim
  | some s =>
    rw [hi] at q
    cases s with
    | emp => exact q.elim
    | own d =>
      obtain ⟨a, vs, ds, hd, h1, h2, h3, h4, h5, h6⟩ := r.at_ i _ hi
      exact ⟨_, h1, q g H _ Ext.refl w (.inr ⟨a, vs, ds, rfl, hd, h2, h3, h5⟩)⟩
    | dat d =>
      obtain ⟨v, h1, h2⟩ := r.at_ i _ hi
      exact ⟨v, h1, q g H v Ext.refl w (KR.ofP (by decide) h2)⟩
/-- a constant of the module -/
theorem de_glob {x : Str} {v : V} {u : Value} {pos : Pos} {d : D} (hg : Gl X x) (hm : X.mg x = some u) (r : RelV v u) (hr : ∀ g, Rp X.K X.mg g v d) (hs : isL d = false := by rfl) (hd : (x == ("__debug__" : Str)) = false := by decide) : DE k X E (.Name x pos) (eC d) := de_const (pe_glob hg hm r hd) hr hs

/-- the kinds -/
theorem DE.toB (h : DE k X E e f) : DE .B X E e f := PE.imp h fun σ H Q ⟨H0, g, S, ρ, w, r, q⟩ =>
  ⟨H0, g, S, ρ, w, r, q.imp fun d S' q g' H' v e w' kr => q g' H' v e w' kr.rb⟩
/-- a new list is frozen -/
theorem DE.fz (h : DE .F X E e f) : DE .P X E e f := PE.imp h fun σ H Q ⟨H0, g, S, ρ, w, r, q⟩ => by
  refine ⟨H0, g, S, ρ, w, r, q.imp fun d S' q g' H' v e w' kr => ?_⟩
  rcases kr with ⟨kr, _⟩ | ⟨a, vs, ds, rfl, rfl, h1, h2, h3, h4, h5⟩
  · exact q g' H' v e w' kr
  · exact q _ H' _ (e.frozen (o := .lst vs) h3 h5) (w'.frozen h1 h4 h3) (.lst upd_same (h2.fzn h3))

/-! #### operators -/
def Bin (K : PySem.W.Frag) (mg : Str → Option Value) (k : Kd) (r : R2) (sem : D → D → Option D) : Prop :=
  ∀ g S H v w d e z Q, Wd K mg g S H → RB K mg g H v d → RB K mg g H w e → sem d e = some z →
    (∀ g' H' u, Ext g H g' H' → Wd K mg g' S H' → KR K mg k H g' H' u z → Q u H') → r v w H Q
def e2 (sem : D → D → Option D) (f h : Env → M D) : Env → M D := fun ρ => bnd (f ρ) fun x => bnd (h ρ) fun y => opt (sem x y)
def OpD (X : Cx) (k : Kd) (f : Value → Value → Sem Value) (sem : D → D → Option D) : Prop := ∃ r, OpR X f r ∧ Bin X.K X.mg k r sem
def orS (s1 s2 : D → D → Option D) : D → D → Option D := fun x y => match s1 x y with | some z => some z | none => s2 x y
theorem OpD.or {f : Value → Value → Sem Value} {s1 s2 : D → D → Option D} (h1 : OpD X k f s1) (h2 : OpD X k f s2) : OpD X k f (orS s1 s2) := by
  obtain ⟨r1, o1, b1⟩ := h1
  obtain ⟨r2, o2, b2⟩ := h2
  refine ⟨_, OpR.or o1 o2, fun g S H v w d e z Q wd rv rw_ hz hq => ?_⟩
  unfold orS at hz
  cases q : s1 d e with
  | some z' => rw [q] at hz; cases hz; exact .inl (b1 g S H v w d e z Q wd rv rw_ q hq)
  | none => rw [q] at hz; exact .inr (b2 g S H v w d e z Q wd rv rw_ hz hq)

theorem bin_red {te tb : TE} {r : R2} {sem : D → D → Option D} (hb : Bin X.K X.mg k r sem)
    {σ : St} {H : Hp} {Q : VK} (q : tDE X.K X.mg k E (e2 sem f h) σ H Q) : tOp r (tDE X.K X.mg .B E f) (tDE X.K X.mg .B E h) σ H Q := by
  obtain ⟨H0, g, S, ρ, w, rr, q⟩ := q
  refine ⟨H0, g, S, ρ, w, rr, (OutE.bnd q).imp fun d S1 q1 g1 H1 v e1 w1 kr1 => ?_⟩
  refine ⟨H0, g1, S1, ρ, w1, rr.ext w e1, (OutE.bnd q1).mono e1 fun d2 S2 q2 g2 H2 u e2 w2 kr2 => ?_⟩
  cases hz : sem d d2 with
  | none => rw [hz] at q2; exact q2.elim
  | some z =>
    rw [hz] at q2
    refine hb g2 S2 H2 v u d d2 z Q w2 (RB.ext e2 kr1) kr2 hz fun g' H' u' e3 w3 kr3 => q2 g' H' u' ((e1.trans e2).trans e3) w3 ?_
    cases k with
    | P => exact kr3
    | B => exact kr3
    | F =>
      rcases kr3 with kr3 | ⟨a, vs, ds, rfl, rfl, h1, h2, h3, h4, h5⟩
      · exact .inl kr3
      · refine .inr ⟨a, vs, ds, rfl, rfl, h1, h2, h3, h4, ?_⟩
        cases qq : H a with
        | none => rfl
        | some o => exact absurd h5 ((e1.trans e2).there a (by rw [qq]; exact fun z => nomatch z))
theorem de_op {op : Operator} {sem : D → D → Option D} (ho : OpD X k (binaryOp op) sem) (ha : DE .B X E a f) (hb : DE .B X E b h) : DE k X E (.BinOp a op b pos) (e2 sem f h) := by
  obtain ⟨r, o, bn⟩ := ho
  exact PE.imp (pe_op o ha hb) fun σ H Q q => bin_red (te := tDE X.K X.mg .B E f) (tb := tDE X.K X.mg .B E h) bn q
theorem de_cmp {op : CmpOp} {sem : D → D → Option D} (ho : OpD X k (compareOp op) sem) (ha : DE .B X E a f) (hb : DE .B X E b h) (hm : behindInMarks op b = false) : DE k X E (.Compare a [op] [b] pos) (e2 sem f h) := by
  obtain ⟨r, o, bn⟩ := ho
  exact PE.imp (pe_cmpR o ha hb hm) fun σ H Q q => bin_red (te := tDE X.K X.mg .B E f) (tb := tDE X.K X.mg .B E h) bn q
theorem de_ix {sem : D → D → Option D} (ho : ∃ r, IxR X r ∧ Bin X.K X.mg k r sem) (ha : DE .B X E a f) (hb : DE .B X E b h) (hs : PlainIx b) : DE k X E (.Subscript a b pos) (e2 sem f h) := by
  obtain ⟨r, o, bn⟩ := ho
  exact PE.imp (pe_ix o ha hb hs) fun σ H Q q => bin_red (te := tDE X.K X.mg .B E f) (tb := tDE X.K X.mg .B E h) bn q
end
end Dl

set_option Elab.async false
set_option linter.all false
set_option maxRecDepth 100000
set_option autoImplicit false
namespace Dl
open PySem PySem.Spec L2
open PyProof.Rows hiding St

/-! ### data as the library's data -/
mutual
def plain : D → Bool
  | .non | .bl _ | .int _ | .str _ => true
  | .tup ds => plainAll ds
  | .lst ds => plainAll ds
  | .box _ | .fn _ | .ty _ | .scr _ => false
def plainAll : List D → Bool
  | [] => true
  | d :: ds => plain d && plainAll ds
end
mutual
def toPy : D → PyData
  | .non => .none
  | .bl b => .bool b
  | .int i => .int i
  | .str x => .str x
  | .tup ds => .tuple (toPyAll ds)
  | .lst ds => .list (toPyAll ds)
  | .box _ => .none
  | .fn _ => .none
  | .ty _ => .none
  | .scr _ => .none
def toPyAll : List D → List PyData
  | [] => []
  | d :: ds => toPy d :: toPyAll ds
end
def okD (d : D) : Bool := plain d && SeqAt.shaped (toPy d)

section
variable {K : PySem.W.Frag} {mg : Str → Option Value} {g g' g'' : Gw} {H H' H'' H0 : Hp} {S S' : Store} {σ σ' : St} {ρ ρ' : Env}
mutual
theorem Rp.dp (w : Wd K mg g S H) : ∀ {v : V} {d : D}, Rp K mg g v d → plain d = true → Dp K H v (toPy d)
  | _, _, .non, _ => .non
  | _, _, .bl b, _ => .bl b
  | _, _, .int b, _ => .int b
  | _, _, .str b, _ => .str b
  | _, _, .tup h r, p => .tup (h.sq w.sub) (RpAll.dp w r (by simpa [plain] using p))
  | _, _, .lst h r, p => .lst (.inl (.inl (w.sub _ _ h))) (RpAll.dp w r (by simpa [plain] using p))
  | _, _, .box h, p => by simp [plain] at p
  | _, _, .fn h, p => by simp [plain] at p
  | _, _, .ty n, p => by simp [plain] at p
  | _, _, .scr h, p => by simp [plain] at p
theorem RpAll.dp (w : Wd K mg g S H) : ∀ {vs : List V} {ds : List D}, RpAll K mg g vs ds → plainAll ds = true → DpAll K H vs (toPyAll ds)
  | _, _, .nil, _ => .nil
  | _, _, .cons h r, p => by
    have p' := (Bool.and_eq_true_iff.mp (by simpa [plainAll] using p))
    exact .cons (Rp.dp w h p'.1) (RpAll.dp w r p'.2)
end
theorem RB.dp (w : Wd K mg g S H) {v : V} {d : D} (r : RB K mg g H v d) (p : plain d = true) : Dp K H v (toPy d) := by
  rcases r with r | ⟨a, vs, ds, rfl, rfl, h, r, n⟩
  · exact r.dp w p
  · exact .lst (.inl (.inl h)) (r.dp w (by simpa [plain] using p))

/-! #### new objects -/
theorem q_lst {k : Kd} (hk : k = .F) {vs : List V} {ds : List D} {p : Addr} {Q : VK} (w : Wd K mg g S H) (hp : H p = none) (r : RpAll K mg g vs ds)
    (hq : ∀ g' H' u, Ext g H g' H' → Wd K mg g' S H' → KR K mg k H g' H' u (.lst ds) → Q u H') : Q (.ref p) (upd H p (.lst vs)) := by
  subst hk
  exact hq g _ _ (Ext.laid hp) (w.laid hp) (.inr ⟨p, vs, ds, rfl, rfl, upd_same, r, (w.pnew hp).2, (w.pnew hp).1, hp⟩)
theorem q_tup {k : Kd} {vs : List V} {ds : List D} {p : Addr} {Q : VK} (w : Wd K mg g S H) (hp : H p = none) (r : RpAll K mg g vs ds)
    (hq : ∀ g' H' u, Ext g H g' H' → Wd K mg g' S H' → KR K mg k H g' H' u (.tup ds) → Q u H') : Q (.ref p) (upd H p (.tup vs)) := by
  have w' := w.laid (o := .tup vs) hp
  have hn := w.pnew hp
  refine hq ⟨g.β, upd g.F p (.tup vs)⟩ _ _ ((Ext.laid hp).frozen hn.2 hp) (w'.frozen upd_same hn.1 hn.2) (KR.ofS (.tup (.inl upd_same) ?_))
  exact r.fzn hn.2
theorem q_same {k : Kd} {v : V} {d : D} {Q : VK} (w : Wd K mg g S H) (r : ∀ g, Rp K mg g v d)
    (hq : ∀ g' H' u, Ext g H g' H' → Wd K mg g' S H' → KR K mg k H g' H' u d → Q u H') (hs : isL d = false := by rfl) : Q v H := hq g H v Ext.refl w (KR.ofS (r g) hs)
end

section
variable {X : Cx} {k : Kd}
/-! #### int operators -/
def i2 (f : Int → Int → D) : D → D → Option D
  | .int a, .int b => some (f a b)
  | _, _ => none
theorem i2_inv {f : Int → Int → D} {d e z : D} (h : i2 f d e = some z) : ∃ a b, d = .int a ∧ e = .int b ∧ z = f a b := by
  cases d <;> cases e <;> first | (cases h; exact ⟨_, _, rfl, rfl, rfl⟩) | cases h
def i2g (c : Int → Int → Bool) (f : Int → Int → D) : D → D → Option D
  | .int a, .int b => if c a b then some (f a b) else none
  | _, _ => none
theorem i2g_inv {c : Int → Int → Bool} {f : Int → Int → D} {d e z : D} (h : i2g c f d e = some z) : ∃ a b, d = .int a ∧ e = .int b ∧ c a b = true ∧ z = f a b := by
  cases d <;> cases e <;> first | (simp only [i2g] at h; split at h; (cases h; exact ⟨_, _, rfl, rfl, by assumption, rfl⟩); cases h) | cases h
theorem op_i2 {op : Value → Value → Sem Value} {gv : Int → Int → V} {f : Int → Int → D} (ho : OpR X op (rI0 gv)) (hr : ∀ a b g, Rp X.K X.mg g (gv a b) (f a b)) (hs : ∀ a b, isL (f a b) = false := by intros; rfl) : OpD X k op (i2 f) :=
  ⟨_, ho, fun g S H v w d e z Q wd rv rw_ hz hq => by
    obtain ⟨a, b, rfl, rfl, rfl⟩ := i2_inv hz
    cases RB.int rv; cases RB.int rw_
    exact ⟨a, b, rfl, rfl, q_same wd (hr a b) hq (hs a b)⟩⟩
theorem op_i2g {op : Value → Value → Sem Value} {C : Int → Int → Prop} {c : Int → Int → Bool} {gv : Int → Int → V} {f : Int → Int → D} (ho : OpR X op (rI C gv)) (hc : ∀ a b, c a b = true → C a b) (hr : ∀ a b g, Rp X.K X.mg g (gv a b) (f a b)) (hs : ∀ a b, isL (f a b) = false := by intros; rfl) : OpD X k op (i2g c f) :=
  ⟨_, ho, fun g S H v w d e z Q wd rv rw_ hz hq => by
    obtain ⟨a, b, rfl, rfl, hcc, rfl⟩ := i2g_inv hz
    cases RB.int rv; cases RB.int rw_
    exact ⟨a, b, rfl, rfl, hc _ _ hcc, q_same wd (hr a b) hq (hs a b)⟩⟩

def addI := i2 fun a b => .int (a + b)
def subI := i2 fun a b => .int (a - b)
def mulI := i2g (fun a b => (decide (-(2 ^ 64) < a) && decide (a < 2 ^ 64)) || (decide (-(2 ^ 64) < b) && decide (b < 2 ^ 64))) fun a b => .int (a * b)
def divI := i2g (fun _ b => decide (0 < b) && decide (b < 2 ^ 64)) fun a b => .int (a / b)
def modI := i2g (fun _ b => decide (0 < b)) fun a b => .int (a % b)
def powI := i2g (fun a b => decide (0 ≤ b) && decide (b ≤ 1000000) && decide (a.natAbs < 2 ^ 64)) fun a b => .int (a ^ b.toNat)
theorem od_addI : OpD X k (binaryOp .Add) addI := op_i2 op_add fun a b g => .int _
theorem od_subI : OpD X k (binaryOp .Sub) subI := op_i2 op_sub fun a b g => .int _
theorem od_mulI : OpD X k (binaryOp .Mult) mulI := op_i2g op_mul (fun a b h => by
  simp only [Bool.or_eq_true, Bool.and_eq_true, decide_eq_true_eq] at h; exact h) fun a b g => .int _
theorem od_divI : OpD X k (binaryOp .FloorDiv) divI := op_i2g op_fdivW (fun a b h => by
  simp only [Bool.and_eq_true, decide_eq_true_eq] at h
  have := PySem.Flt.log2_lt_of (n := b.natAbs) (k := 64) (by decide) (by omega)
  exact ⟨h.1, by omega⟩) fun a b g => .int _
theorem od_modI : OpD X k (binaryOp .Mod) modI := op_i2g op_mod (fun a b h => by
  simpa using h) fun a b g => .int _
theorem od_powI : OpD X k (binaryOp .Pow) powI := op_i2g op_pow (fun a b h => by
  simp only [Bool.and_eq_true, decide_eq_true_eq] at h; exact ⟨h.1.1, h.1.2, h.2⟩) fun a b g => .int _
def ltI := i2 fun a b => .bl (decide (a < b))
def leI := i2 fun a b => .bl (decide (a ≤ b))
def gtI := i2 fun a b => .bl (decide (b < a))
def geI := i2 fun a b => .bl (decide (b ≤ a))
theorem od_ltI : OpD X k (compareOp .Lt) ltI := op_i2 op_lt fun a b g => .bl _
theorem od_leI : OpD X k (compareOp .LtE) leI := op_i2 op_le fun a b g => .bl _
theorem od_gtI : OpD X k (compareOp .Gt) gtI := op_i2 op_gt fun a b g => .bl _
theorem od_geI : OpD X k (compareOp .GtE) geI := op_i2 op_ge fun a b g => .bl _

/-! #### texts, lists, tuples joined -/
def addS : D → D → Option D
  | .str a, .str b => if a.length + b.length ≤ sizeLine then some (.str (a ++ b)) else none
  | _, _ => none
theorem od_addS : OpD X k (binaryOp .Add) addS := ⟨_, op_add_str, fun g S H v w d e z Q wd rv rw_ hz hq => by
  cases d <;> cases e <;> simp only [addS] at hz <;> try cases hz
  split at hz
  · cases hz
    cases RB.str rv; cases RB.str rw_
    exact ⟨_, _, rfl, rfl, by assumption, q_same wd (fun g => .str _) hq⟩
  · cases hz⟩
def addL : D → D → Option D
  | .lst a, .lst b => if a.length + b.length ≤ sizeLine then some (.lst (a ++ b)) else none
  | _, _ => none
theorem od_addL : OpD X .F (binaryOp .Add) addL := ⟨_, op_cat, fun g S H v w d e z Q wd rv rw_ hz hq => by
  cases d <;> cases e <;> simp only [addL] at hz <;> try cases hz
  split at hz
  · cases hz
    obtain ⟨a, vs, rfl, h1, r1⟩ := rv.list wd
    obtain ⟨b, ws, rfl, h2, r2⟩ := rw_.list wd
    exact ⟨a, b, vs, ws, rfl, rfl, h1, h2, by rw [r1.length, r2.length]; assumption, fun p hp => q_lst rfl wd hp (r1.append r2) hq⟩
  · cases hz⟩
def addT : D → D → Option D
  | .tup a, .tup b => if a.length + b.length ≤ sizeLine then some (.tup (a ++ b)) else none
  | _, _ => none
theorem nil_of {K : PySem.W.Frag} {mg : Str → Option Value} {g : Gw} {vs : List V} {ds : List D} (r : RpAll K mg g vs ds) : vs = [] ↔ ds = [] := by
  have := r.length
  constructor <;> (rintro rfl; simp at this; first | exact this | exact this.symm | (cases vs; rfl; simp at this) | (cases ds; rfl; simp at this))
/-- a tuple that stands -/
theorem RB.tupP {K : PySem.W.Frag} {mg : Str → Option Value} {g : Gw} {H : Hp} {v : V} {ds : List D} (r : RB K mg g H v (.tup ds)) : Rp K mg g v (.tup ds) := by
  rcases r with r | ⟨a, vs, ds', _, e, _⟩
  · exact r
  · cases e
theorem od_addT : OpD X k (binaryOp .Add) addT := ⟨_, op_catA, fun g S H v w d e z Q wd rv rw_ hz hq => by
  cases d <;> cases e <;> simp only [addT] at hz <;> try cases hz
  split at hz
  · cases hz
    have p1 := rv.tupP
    have p2 := rw_.tupP
    obtain ⟨a, vs, rfl, h1, r1⟩ := rv.tup wd
    obtain ⟨b, ws, rfl, h2, r2⟩ := rw_.tup wd
    refine ⟨a, b, vs, ws, rfl, rfl, h1, h2, by rw [r1.length, r2.length]; assumption, fun e => ?_, fun _ e => ?_, fun _ _ p hp => q_tup wd hp (r1.append r2) hq⟩
    · rw [(nil_of r1).mp e] at hq
      exact hq g H _ Ext.refl wd (KR.ofS p2)
    · rw [(nil_of r2).mp e, List.append_nil] at hq
      exact hq g H _ Ext.refl wd (KR.ofS p1)
  · cases hz⟩

/-! #### == and in -/
def eqD : D → D → Option D := fun d e => if okD d && okD e then some (.bl (PyData.eqv (toPy d) (toPy e))) else none
def neD : D → D → Option D := fun d e => if okD d && okD e then some (.bl (!PyData.eqv (toPy d) (toPy e))) else none
theorem od_eqD (hu : X.A.units + 64 < cLine) : OpD X k (compareOp .Eq) eqD := ⟨_, op_eqD hu, fun g S H v w d e z Q wd rv rw_ hz hq => by
  simp only [eqD] at hz
  split at hz
  · cases hz
    rename_i h
    simp only [okD, Bool.and_eq_true] at h
    exact ⟨_, _, rv.dp wd h.1.1, rw_.dp wd h.2.1, h.1.2, h.2.2, q_same wd (fun g => .bl _) hq⟩
  · cases hz⟩
theorem od_neD (hu : X.A.units + 64 < cLine) : OpD X k (compareOp .NotEq) neD := ⟨_, op_neD hu, fun g S H v w d e z Q wd rv rw_ hz hq => by
  simp only [neD] at hz
  split at hz
  · cases hz
    rename_i h
    simp only [okD, Bool.and_eq_true] at h
    exact ⟨_, _, rv.dp wd h.1.1, rw_.dp wd h.2.1, h.1.2, h.2.2, q_same wd (fun g => .bl _) hq⟩
  · cases hz⟩
def inL : D → D → Option D
  | d, .lst ds => if okD d && okD (.lst ds) then some (.bl ((toPyAll ds).any fun z => PyData.eqv z (toPy d))) else none
  | _, _ => none
def notInL : D → D → Option D
  | d, .lst ds => if okD d && okD (.lst ds) then some (.bl (!(toPyAll ds).any fun z => PyData.eqv z (toPy d))) else none
  | _, _ => none
theorem od_inL (hu : X.A.units + 65 < cLine) : OpD X k (compareOp .In) inL := ⟨_, op_inD hu, fun g S H v w d e z Q wd rv rw_ hz hq => by
  cases e <;> simp only [inL] at hz <;> try cases hz
  split at hz
  · cases hz
    rename_i h
    simp only [okD, Bool.and_eq_true] at h
    have q := rw_.dp wd h.2.1
    have s2 := h.2.2
    simp only [toPy] at q s2
    exact ⟨_, _, rv.dp wd h.1.1, q, h.1.2, s2, q_same wd (fun g => .bl _) hq⟩
  · cases hz⟩
theorem od_notInL (hu : X.A.units + 65 < cLine) : OpD X k (compareOp .NotIn) notInL := ⟨_, op_notInD hu, fun g S H v w d e z Q wd rv rw_ hz hq => by
  cases e <;> simp only [notInL] at hz <;> try cases hz
  split at hz
  · cases hz
    rename_i h
    simp only [okD, Bool.and_eq_true] at h
    have q := rw_.dp wd h.2.1
    have s2 := h.2.2
    simp only [toPy] at q s2
    exact ⟨_, _, rv.dp wd h.1.1, q, h.1.2, s2, q_same wd (fun g => .bl _) hq⟩
  · cases hz⟩

/-! #### is -/
def nonD : D → Bool
  | .non => true
  | _ => false
def isN : D → D → Option D
  | d, .non => some (.bl (nonD d))
  | _, _ => none
def isNotN : D → D → Option D
  | d, .non => some (.bl (!nonD d))
  | _, _ => none
theorem RB.isN {K : PySem.W.Frag} {mg : Str → Option Value} {g : Gw} {H : Hp} {v : V} {d : D} (r : RB K mg g H v d) : decide (v = .non) = nonD d := by
  rcases r with r | ⟨a, vs, ds', rfl, rfl, _⟩
  · cases r <;> simp [nonD]
  · simp [nonD]
theorem od_isN : OpD X k (compareOp .Is) isN := ⟨_, op_isN, fun g S H v w d e z Q wd rv rw_ hz hq => by
  cases e <;> simp only [isN] at hz <;> try cases hz
  refine ⟨RB.non rw_, ?_⟩
  rw [rv.isN]
  exact q_same wd (fun g => .bl _) hq⟩
theorem od_isNotN : OpD X k (compareOp .IsNot) isNotN := ⟨_, op_notN, fun g S H v w d e z Q wd rv rw_ hz hq => by
  cases e <;> simp only [isNotN] at hz <;> try cases hz
  refine ⟨RB.non rw_, ?_⟩
  rw [rv.isN]
  exact q_same wd (fun g => .bl _) hq⟩

/-! #### items -/
def ixD : D → D → Option D
  | .lst ds, .int i => atI ds i
  | .tup ds, .int i => atI ds i
  | .str x, .int i => if x.length ≤ sizeLine then (atI x.cps.toList i).map fun c => .str ⟨#[c]⟩ else none
  | _, _ => none
theorem atI_rp {K : PySem.W.Frag} {mg : Str → Option Value} {g : Gw} {vs : List V} {ds : List D} {i : Int} {d : D} (r : RpAll K mg g vs ds) (h : atI ds i = some d) : ∃ v, atI vs i = some v ∧ Rp K mg g v d := by
  unfold atI at h ⊢
  rw [r.length]
  cases q : ixN ds.length i with
  | none => rw [q] at h; cases h
  | some j =>
    rw [q] at h
    exact r.get h
theorem ixd_seq (hk : k ≠ .F := by decide) : ∃ r, IxR X r ∧ Bin X.K X.mg k r ixD := ⟨_, ix_seq, fun g S H v w d e z Q wd rv rw_ hz hq => by
  cases d <;> cases e <;> simp only [ixD] at hz <;> try cases hz
  · cases RB.int rw_
    cases RB.str rv
    split at hz
    · rename_i ds i hle
      cases q : atI ds.cps.toList i with
      | none => rw [q] at hz; cases hz
      | some c =>
        rw [q] at hz
        cases hz
        exact .inr (.inr ⟨_, _, c, rfl, rfl, hle, q, q_same wd (fun g => .str _) hq⟩)
    · cases hz
  · cases RB.int rw_
    obtain ⟨a, vs, rfl, h1, r1⟩ := rv.tup wd
    obtain ⟨u, h2, r2⟩ := atI_rp r1 hz
    exact .inr (.inl ⟨a, vs, _, u, rfl, rfl, h1, h2, hq g H u Ext.refl wd (KR.ofP hk r2)⟩)
  · cases RB.int rw_
    obtain ⟨a, vs, rfl, h1, r1⟩ := rv.list wd
    obtain ⟨u, h2, r2⟩ := atI_rp r1 hz
    exact .inl ⟨a, vs, _, u, rfl, rfl, .inl (.inl h1), h2, hq g H u Ext.refl wd (KR.ofP hk r2)⟩⟩
/-- a box's items -/
def eIxBox (n : Env → M D) (i : Env → M D) : Env → M D := fun ρ => bnd (n ρ) fun x => bnd (i ρ) fun y => fun S => match x, y with
  | .box n, .int j => (match (S[n]? : Option Bx) with
    | some (.lst ds) => (match atI ds j with | some d => .ok d S | none => .stuck)
    | none => .stuck)
  | _, _ => .stuck
theorem de_ixBox {E : XK} {a b : Expr} {pos : Pos} {f h : Env → M D} (ha : DE .B X E a f) (hb : DE .B X E b h) (hs : PlainIx b) (hk : k ≠ .F := by decide) : DE k X E (.Subscript a b pos) (eIxBox f h) := by
  refine PE.imp (pe_ix ix_list ha hb hs) fun σ H Q ⟨H0, g, S, ρ, w, rr, q⟩ => ?_
  refine ⟨H0, g, S, ρ, w, rr, (OutE.bnd q).imp fun d S1 q1 g1 H1 v e1 w1 kr1 => ?_⟩
  refine ⟨H0, g1, S1, ρ, w1, rr.ext w e1, (OutE.bnd q1).mono e1 fun d2 S2 q2 g2 H2 u e2 w2 kr2 => ?_⟩
  cases d <;> try exact q2.elim
  rename_i n
  cases d2 <;> try exact q2.elim
  rename_i j
  cases hS : (S2[n]? : Option Bx) with
  | none => simp only [hS] at q2; exact q2.elim
  | some b =>
    cases b with
    | lst ds =>
      simp only [hS] at q2
      cases hd : atI ds j with
      | none => simp only [hd] at q2; exact q2.elim
      | some d =>
        simp only [hd] at q2
        have r := RB.ext e2 kr1
        obtain ⟨a, vs, rfl, h1, h2, r2⟩ := RB.box w2 r hS
        obtain ⟨z, h3, r3⟩ := atI_rp r2 hd
        cases RB.int kr2
        exact ⟨a, vs, j, z, rfl, rfl, .inl (.inl h2), h3, q2 g2 H2 z (e1.trans e2) w2 (KR.ofP hk r3)⟩
end
end Dl

set_option Elab.async false
set_option linter.all false
set_option maxRecDepth 100000
set_option autoImplicit false
namespace Dl
open PySem PySem.Spec L2
open PyProof.Rows hiding St

section
variable {K : PySem.W.Frag} {mg : Str → Option Value} {g g' g'' : Gw} {H H' H'' H0 : Hp} {S S' : Store} {σ σ' : St} {ρ ρ' : Env}
theorem KR.back {k : Kd} {H1 : Hp} {v : V} {d : D} (e : Ext g H g'' H1) (r : KR K mg k H1 g' H' v d) : KR K mg k H g' H' v d := by
  cases k with
  | P => exact r
  | B => exact r
  | F =>
    rcases r with r | ⟨a, vs, ds, rfl, rfl, h1, h2, h3, h4, h5⟩
    · exact .inl r
    · refine .inr ⟨a, vs, ds, rfl, rfl, h1, h2, h3, h4, ?_⟩
      cases qq : H a with
      | none => rfl
      | some o => exact absurd h5 (e.there a (by rw [qq]; exact fun z => nomatch z))
theorem RBs.ext (e : Ext g H g' H') {vs : List V} {ds : List D} (r : RBs K mg g H vs ds) : RBs K mg g' H' vs ds := by
  induction r with
  | nil => exact .nil
  | cons h _ ih => exact .cons (h.ext e) ih
theorem OutE.map {α : Type} {E : XK} {m : Out α} {P P' : α → Store → Prop} (h : OutE K mg E g H m P) (e : Ext g H g' H') (i : ∀ a S', P a S' → P' a S') : OutE K mg E g' H' m P' := h.mono e i
end

section
variable {X : Cx} {E : XK} {e a b : Expr} {es : List Expr} {pos : Pos} {k : Kd} {f h : Env → M D} {fb hb : Env → M Bool}

/-! ### tests -/
def asB : D → Option Bool
  | .bl b => some b
  | _ => none
def tV (f : Env → M D) : Env → M Bool := fun ρ => bnd (f ρ) fun d => opt (asB d)
theorem dt_val (h : DE .B X E e f) (he : ∀ whole, isTrue e X.env whole = (do let v ← whole; standAt e.pos; holding [v] (truthy v)) := by intro _; rfl) : DT X E e (tV f) :=
  PT.imp (pt_val h he) fun σ H Q ⟨H0, g, S, ρ, w, r, q⟩ => ⟨H0, g, S, ρ, w, r, (OutE.bnd q).imp fun d S1 q1 g1 H1 v e1 w1 kr => by
    cases d <;> try exact q1.elim
    rename_i c
    cases RB.bl kr
    exact ⟨c, rfl, q1 g1 H1 e1 w1⟩⟩
/-- a comparison as a test -/
theorem dt_cmp {op : CmpOp} {sem : D → D → Option D} (ho : OpD X .B (compareOp op) sem) (ha : DE .B X E a f) (hb : DE .B X E b h) (hm : behindInMarks op b = false) : DT X E (.Compare a [op] [b] pos) (tV (e2 sem f h)) := by
  obtain ⟨r, o, bn⟩ := ho
  refine PT.imp (pt_cmpR o ha hb hm) fun σ H Q ⟨H0, g, S, ρ, w, rr, q⟩ => ?_
  have q' : tDE X.K X.mg .B E (e2 sem f h) σ H fun x H' => ∃ k, x = .bl k ∧ Q k H' := ⟨H0, g, S, ρ, w, rr, (OutE.bnd q).imp fun d S1 q1 g1 H1 v e1 w1 kr => by
    cases d <;> try exact q1.elim
    rename_i c
    cases RB.bl kr
    exact ⟨c, rfl, q1 g1 H1 e1 w1⟩⟩
  exact bin_red (te := tDE X.K X.mg .B E f) (tb := tDE X.K X.mg .B E h) bn q'
def tN (f : Env → M Bool) : Env → M Bool := fun ρ => bnd (f ρ) fun b => ret (!b)
theorem dt_not (h : DT X E a fb) : DT X E (.UnaryOp .Not a pos) (tN fb) :=
  PT.imp (pt_not h) fun σ H Q ⟨H0, g, S, ρ, w, r, q⟩ => ⟨H0, g, S, ρ, w, r, (OutE.bnd q).imp fun d S1 q1 g1 H1 e1 w1 => q1 g1 H1 e1 w1⟩
def tA (f h : Env → M Bool) : Env → M Bool := fun ρ => bnd (f ρ) fun b => if b = true then h ρ else ret false
def tO (f h : Env → M Bool) : Env → M Bool := fun ρ => bnd (f ρ) fun b => if b = true then ret true else h ρ
def DW (X : Cx) (E : XK) (e : Expr) (f : Env → M Bool) : Prop := PW X e (tDT X.K X.mg E f)
theorem PW.imp {t t' : TT} (h : PW X e t) (i : ∀ σ H Q, t' σ H Q → t σ H Q) : PW X e t' := ⟨fun wh pins s σ H Q I q => h.run wh pins s σ H Q I (i σ H Q q)⟩
theorem DW.dt (h : DW X E e fb) : DT X E e fb := h.pt
theorem dw_and1 (h : DT X E a fb) : DW X E (.BoolOp .And [a] pos) fb := pw_and1 h
theorem dw_or1 (h : DT X E a fb) : DW X E (.BoolOp .Or [a] pos) fb := pw_or1 h
theorem dw_and {rest : List Expr} (h1 : DT X E a fb) (h2 : DW X E (.BoolOp .And (b :: rest) pos) hb) : DW X E (.BoolOp .And (a :: b :: rest) pos) (tA fb hb) :=
  PW.imp (pw_and h1 h2) fun σ H Q ⟨H0, g, S, ρ, w, r, q⟩ => ⟨H0, g, S, ρ, w, r, (OutE.bnd q).imp fun d S1 q1 g1 H1 e1 w1 => by
    cases d with
    | true => exact ⟨H0, g1, S1, ρ, w1, r.ext w e1, q1.mono e1 fun d S2 q2 g2 H2 e2 w2 => q2 g2 H2 (e1.trans e2) w2⟩
    | false => exact q1 g1 H1 e1 w1⟩
theorem dw_or {rest : List Expr} (h1 : DT X E a fb) (h2 : DW X E (.BoolOp .Or (b :: rest) pos) hb) : DW X E (.BoolOp .Or (a :: b :: rest) pos) (tO fb hb) :=
  PW.imp (pw_or h1 h2) fun σ H Q ⟨H0, g, S, ρ, w, r, q⟩ => ⟨H0, g, S, ρ, w, r, (OutE.bnd q).imp fun d S1 q1 g1 H1 e1 w1 => by
    cases d with
    | false => exact ⟨H0, g1, S1, ρ, w1, r.ext w e1, q1.mono e1 fun d S2 q2 g2 H2 e2 w2 => q2 g2 H2 (e1.trans e2) w2⟩
    | true => exact q1 g1 H1 e1 w1⟩

/-! ### and, or, not, if as values -/
def eA (f h : Env → M D) : Env → M D := fun ρ => bnd (f ρ) fun x => bnd (opt (asB x)) fun b => if b = true then h ρ else ret (.bl false)
def eO (f h : Env → M D) : Env → M D := fun ρ => bnd (f ρ) fun x => bnd (opt (asB x)) fun b => if b = true then ret (.bl true) else h ρ
def eN (f : Env → M D) : Env → M D := fun ρ => bnd (f ρ) fun x => bnd (opt (asB x)) fun b => ret (.bl (!b))
theorem de_one {op} (h : DE k X E a f) : DE k X E (.BoolOp op [a] pos) f := pe_one h
theorem de_and {rest : List Expr} (h1 : DE .B X E a f) (h2 : DE k X E (.BoolOp .And (b :: rest) pos) h) : DE k X E (.BoolOp .And (a :: b :: rest) pos) (eA f h) :=
  PE.imp (pe_and h1 h2) fun σ H Q ⟨H0, g, S, ρ, w, r, q⟩ => ⟨H0, g, S, ρ, w, r, (OutE.bnd q).imp fun d S1 q1 g1 H1 v e1 w1 kr => by
    cases d <;> try exact q1.elim
    rename_i c
    cases RB.bl kr
    refine ⟨c, rfl, ?_⟩
    cases c with
    | true => exact ⟨H0, g1, S1, ρ, w1, r.ext w e1, OutE.mono q1 e1 fun d S2 q2 g2 H2 v e2 w2 kr2 => q2 g2 H2 v (e1.trans e2) w2 (KR.back e1 kr2)⟩
    | false => exact q1 g1 H1 _ e1 w1 (KR.ofS (.bl false))⟩
theorem de_or {rest : List Expr} (h1 : DE .B X E a f) (h2 : DE k X E (.BoolOp .Or (b :: rest) pos) h) : DE k X E (.BoolOp .Or (a :: b :: rest) pos) (eO f h) :=
  PE.imp (pe_or h1 h2) fun σ H Q ⟨H0, g, S, ρ, w, r, q⟩ => ⟨H0, g, S, ρ, w, r, (OutE.bnd q).imp fun d S1 q1 g1 H1 v e1 w1 kr => by
    cases d <;> try exact q1.elim
    rename_i c
    cases RB.bl kr
    refine ⟨c, rfl, ?_⟩
    cases c with
    | false => exact ⟨H0, g1, S1, ρ, w1, r.ext w e1, OutE.mono q1 e1 fun d S2 q2 g2 H2 v e2 w2 kr2 => q2 g2 H2 v (e1.trans e2) w2 (KR.back e1 kr2)⟩
    | true => exact q1 g1 H1 _ e1 w1 (KR.ofS (.bl true))⟩
theorem de_not (h1 : DE .B X E a f) : DE k X E (.UnaryOp .Not a pos) (eN f) :=
  PE.imp (pe_not h1) fun σ H Q ⟨H0, g, S, ρ, w, r, q⟩ => ⟨H0, g, S, ρ, w, r, (OutE.bnd q).imp fun d S1 q1 g1 H1 v e1 w1 kr => by
    cases d <;> try exact q1.elim
    rename_i c
    cases RB.bl kr
    exact ⟨c, rfl, q1 g1 H1 _ e1 w1 (KR.ofS (.bl _))⟩⟩
def eIf (t : Env → M Bool) (f h : Env → M D) : Env → M D := fun ρ => bnd (t ρ) fun b => if b = true then f ρ else h ρ
theorem de_if {c : Expr} (hc : DT X E c fb) (h1 : DE k X E a f) (h2 : DE k X E b h) : DE k X E (.IfExp c a b pos) (eIf fb f h) :=
  PE.imp (pe_ifExp hc h1 h2) fun σ H Q ⟨H0, g, S, ρ, w, r, q⟩ => ⟨H0, g, S, ρ, w, r, (OutE.bnd q).imp fun d S1 q1 g1 H1 e1 w1 => by
    cases d with
    | true => exact ⟨H0, g1, S1, ρ, w1, r.ext w e1, OutE.mono q1 e1 fun d S2 q2 g2 H2 v e2 w2 kr2 => q2 g2 H2 v (e1.trans e2) w2 (KR.back e1 kr2)⟩
    | false => exact ⟨H0, g1, S1, ρ, w1, r.ext w e1, OutE.mono q1 e1 fun d S2 q2 g2 H2 v e2 w2 kr2 => q2 g2 H2 v (e1.trans e2) w2 (KR.back e1 kr2)⟩⟩
def eNeg (f : Env → M D) : Env → M D := fun ρ => bnd (f ρ) fun x => match x with | .int i => ret (.int (-i)) | _ => stk
theorem de_neg (h1 : DE .B X E a f) : DE k X E (.UnaryOp .USub a pos) (eNeg f) :=
  PE.imp (pe_un un_neg h1) fun σ H Q ⟨H0, g, S, ρ, w, r, q⟩ => ⟨H0, g, S, ρ, w, r, (OutE.bnd q).imp fun d S1 q1 g1 H1 v e1 w1 kr => by
    cases d <;> try exact q1.elim
    rename_i c
    cases RB.int kr
    exact ⟨c, rfl, q1 g1 H1 _ e1 w1 (KR.ofS (.int _))⟩⟩
/-- a < b < c -/
def eChain (s1 s2 : D → D → Option D) (f h l : Env → M D) : Env → M D := fun ρ => bnd (f ρ) fun x => bnd (h ρ) fun y => bnd (opt (s1 x y)) fun z => bnd (opt (asB z)) fun b =>
  if b = true then bnd (l ρ) fun u => opt (s2 y u) else ret (.bl false)
theorem de_chain {op op' : CmpOp} {s1 s2 : D → D → Option D} {c : Expr} {l : Env → M D} (ho : OpD X .P (compareOp op) s1) (ho' : OpD X k (compareOp op') s2) (h1 : DE .B X E a f) (h2 : DE .B X E b h) (h3 : DE .B X E c l)
    (hm : lastMarks [op, op'] [b, c] = false := by with_unfolding_all rfl) : DE k X E (.Compare a [op, op'] [b, c] pos) (eChain s1 s2 f h l) := by
  obtain ⟨r, o, bn⟩ := ho
  obtain ⟨r', o', bn'⟩ := ho'
  refine PE.imp (pe_chain o o' h1 h2 h3 hm) fun σ H Q ⟨H0, g, S, ρ, w, rr, q⟩ => ?_
  refine ⟨H0, g, S, ρ, w, rr, (OutE.bnd q).imp fun d S1 q1 g1 H1 v e1 w1 kr1 => ?_⟩
  refine ⟨H0, g1, S1, ρ, w1, rr.ext w e1, (OutE.bnd q1).mono e1 fun d2 S2 q2 g2 H2 u e2 w2 kr2 => ?_⟩
  cases hz : s1 d d2 with
  | none => rw [hz] at q2; exact q2.elim
  | some z =>
    rw [hz] at q2
    refine bn g2 S2 H2 v u d d2 z _ w2 (RB.ext e2 kr1) kr2 hz fun g3 H3 z' e3 w3 kr3 => ?_
    cases z <;> try exact q2.elim
    rename_i c
    cases (show Rp X.K X.mg g3 z' (.bl c) from kr3)
    refine ⟨c, rfl, ?_⟩
    cases c with
    | false => exact q2 g3 H3 _ ((e1.trans e2).trans e3) w3 (KR.ofS (.bl false))
    | true =>
      have q3 : OutE X.K X.mg E g H ((l ρ S2).next fun u => opt (s2 d2 u)) _ := q2
      refine ⟨H0, g3, S2, ρ, w3, rr.ext w ((e1.trans e2).trans e3), (OutE.bnd q3).mono ((e1.trans e2).trans e3) fun d4 S4 q4 g4 H4 u4 e4 w4 kr4 => ?_⟩
      cases hz2 : s2 d2 d4 with
      | none => rw [hz2] at q4; exact q4.elim
      | some z2 =>
        rw [hz2] at q4
        exact bn' g4 S4 H4 u u4 d2 d4 z2 _ w4 (RB.ext (e3.trans e4) kr2) kr4 hz2 fun g5 H5 u5 e5 w5 kr5 => q4 g5 H5 u5 ((((e1.trans e2).trans e3).trans e4).trans e5) w5 (KR.back (((e1.trans e2).trans e3).trans e4) kr5)

/-! ### argument lists, displays -/
theorem da_nil : DA k X E [] (fun _ => ret []) := PA.imp pa_nil fun σ H Q ⟨H0, g, S, ρ, w, r, q⟩ => q g H [] Ext.refl w (by cases k <;> first | exact RpAll.nil | exact KAll.nil)
def aCons (f : Env → M D) (h : Env → M (List D)) : Env → M (List D) := fun ρ => bnd (f ρ) fun d => bnd (h ρ) fun ds => ret (d :: ds)
variable {fa : Env → M (List D)}
theorem da_consP (h1 : DE .P X E e f) (h2 : DA .P X E es fa) (hs : starEach (e :: es) X.env = (false, eval e X.env) :: starEach es X.env := by rfl) : DA .P X E (e :: es) (aCons f fa) :=
  PA.imp (pa_cons h1 h2 hs) fun σ H Q ⟨H0, g, S, ρ, w, r, q⟩ => ⟨H0, g, S, ρ, w, r, (OutE.bnd q).imp fun d S1 q1 g1 H1 v e1 w1 kr =>
    ⟨H0, g1, S1, ρ, w1, r.ext w e1, (OutE.bnd q1).mono e1 fun ds S2 q2 g2 H2 vs e2 w2 kr2 => q2 g2 H2 (v :: vs) (e1.trans e2) w2 (.cons (Rp.ext e2 kr) kr2)⟩⟩
theorem da_consB (h1 : DE .B X E e f) (h2 : DA .B X E es fa) (hs : starEach (e :: es) X.env = (false, eval e X.env) :: starEach es X.env := by rfl) : DA .B X E (e :: es) (aCons f fa) :=
  PA.imp (pa_cons h1 h2 hs) fun σ H Q ⟨H0, g, S, ρ, w, r, q⟩ => ⟨H0, g, S, ρ, w, r, (OutE.bnd q).imp fun d S1 q1 g1 H1 v e1 w1 kr =>
    ⟨H0, g1, S1, ρ, w1, r.ext w e1, (OutE.bnd q1).mono e1 fun ds S2 q2 g2 H2 vs e2 w2 kr2 => q2 g2 H2 (v :: vs) (e1.trans e2) w2 (.cons (RB.ext e2 kr) kr2)⟩⟩
def mkT (ds : List D) : M D := if ds.length ≤ sizeLine then ret (.tup ds) else stk
def mkL (ds : List D) : M D := if ds.length ≤ sizeLine then ret (.lst ds) else stk
theorem mkT_ok {ds : List D} (h : ds.length ≤ sizeLine) : mkT ds = ret (.tup ds) := if_pos h
theorem mkL_ok {ds : List D} (h : ds.length ≤ sizeLine) : mkL ds = ret (.lst ds) := if_pos h
def eT (f : Env → M (List D)) : Env → M D := fun ρ => bnd (f ρ) mkT
def eL (f : Env → M (List D)) : Env → M D := fun ρ => bnd (f ρ) mkL
theorem de_tup {x1} (h : DA .P X E es fa) : DE k X E (.Tuple es x1 pos) (eT fa) :=
  PE.imp (pe_tup h) fun σ H Q ⟨H0, g, S, ρ, w, r, q⟩ => ⟨H0, g, S, ρ, w, r, (OutE.bnd q).imp fun ds S1 q1 g1 H1 vs e1 w1 kr => by
    have kr : RpAll X.K X.mg g1 vs ds := kr
    unfold mkT at q1
    split at q1
    · exact ⟨by rw [kr.length]; assumption, fun p hp => q_tup w1 hp kr fun g2 H2 u e2 w2 k2 => q1 g2 H2 u (e1.trans e2) w2 (KR.back e1 k2)⟩
    · exact q1.elim⟩
theorem de_lst (h : DA .P X E es fa) : DE .F X E (.List es pos) (eL fa) :=
  PE.imp (pe_lst h) fun σ H Q ⟨H0, g, S, ρ, w, r, q⟩ => ⟨H0, g, S, ρ, w, r, (OutE.bnd q).imp fun ds S1 q1 g1 H1 vs e1 w1 kr => by
    have kr : RpAll X.K X.mg g1 vs ds := kr
    unfold mkL at q1
    split at q1
    · exact ⟨by rw [kr.length]; assumption, fun p hp => q_lst rfl w1 hp kr fun g2 H2 u e2 w2 k2 => q1 g2 H2 u (e1.trans e2) w2 (KR.back e1 k2)⟩
    · exact q1.elim⟩

/-! ### calls of built-ins -/
def CallOk (K : PySem.W.Frag) (mg : Str → Option Value) (k : Kd) (r : List V → Hp → VK → Prop) (sem : List D → Option D) : Prop :=
  ∀ g S H vs ds z Q, Wd K mg g S H → RBs K mg g H vs ds → sem ds = some z → (∀ g' H' u, Ext g H g' H' → Wd K mg g' S H' → KR K mg k H g' H' u z → Q u H') → r vs H Q
def CallD (X : Cx) (k : Kd) (f : Value) (sem : List D → Option D) : Prop := ∃ r, CallR X f r ∧ CallOk X.K X.mg k r sem
def eCall (sem : List D → Option D) (f : Env → M (List D)) : Env → M D := fun ρ => bnd (f ρ) fun ds => opt (sem ds)
theorem call_red {r : List V → Hp → VK → Prop} {sem : List D → Option D} (hb : CallOk X.K X.mg k r sem) {σ : St} {H : Hp} {Q : VK} (q : tDE X.K X.mg k E (eCall sem fa) σ H Q) : tCB r (tDA X.K X.mg .B E fa) σ H Q := by
  obtain ⟨H0, g, S, ρ, w, rr, q⟩ := q
  refine ⟨H0, g, S, ρ, w, rr, (OutE.bnd q).imp fun ds S1 q1 g1 H1 vs e1 w1 kr1 => ?_⟩
  cases hz : sem ds with
  | none => rw [hz] at q1; exact q1.elim
  | some z =>
    rw [hz] at q1
    exact hb g1 S1 H1 vs ds z Q w1 kr1 hz fun g' H' u' e3 w3 kr3 => q1 g' H' u' (e1.trans e3) w3 (KR.back e1 kr3)
variable {x : Str} {p : Pos} {sem : List D → Option D} {id : String}
theorem de_callB (hc : CallD X k (.builtin id) sem) (hg : Gl X x) (hm : X.mg x = none) (hv : bootBuiltins x = some (.builtin id)) (ha : DA .B X E (e :: es) fa) (hn : x ≠ "__name__" := by decide) (hdb : (x == ("__debug__" : Str)) = false := by decide)
    (he : starEach (e :: es) X.env = (false, eval e X.env) :: starEach es X.env := by rfl) (hpl : (backTo pos (starEach es X.env)).any (·.1) = false := by rfl) : DE k X E (.Call (.Name x p) (e :: es) [] pos) (eCall sem fa) := by
  obtain ⟨r, c, ok⟩ := hc
  exact PE.imp (pe_callB c hg hm hv ha hn hdb he hpl) fun σ H Q q => call_red ok q
theorem de_callTy (hc : CallD X k (.type id) sem) (hg : Gl X x) (hm : X.mg x = none) (hv : bootBuiltins x = some (.type id)) (ha : DA .B X E (e :: es) fa) (hn : x ≠ "__name__" := by decide) (hdb : (x == ("__debug__" : Str)) = false := by decide)
    (he : starEach (e :: es) X.env = (false, eval e X.env) :: starEach es X.env := by rfl) (hpl : (backTo pos (starEach es X.env)).any (·.1) = false := by rfl) : DE k X E (.Call (.Name x p) (e :: es) [] pos) (eCall sem fa) := by
  obtain ⟨r, c, ok⟩ := hc
  exact PE.imp (pe_callTy c hg hm hv ha hn hdb he hpl) fun σ H Q q => call_red ok q

/-! ### slices -/
def DO (X : Cx) (E : XK) (e : Option Expr) (f : Env → M (Option Int)) : Prop := PO X e (fun σ H Q => ∃ H0 g S ρ, Wd X.K X.mg g S H ∧ RpE X.K X.mg g H H0 σ ρ ∧
  OutE X.K X.mg E g H (f ρ S) fun o S' => ∀ g' H', Ext g H g' H' → Wd X.K X.mg g' S' H' → Q o H')
theorem PO.imp {e : Option Expr} {t t' : TO} (h : PO X e t) (i : ∀ σ H Q, t' σ H Q → t σ H Q) : PO X e t' := ⟨fun pins s σ H Q I q => h.run pins s σ H Q I (i σ H Q q)⟩
def oNone : Env → M (Option Int) := fun _ => ret none
def asI : D → Option Int
  | .int i => some i
  | _ => none
def oSome (f : Env → M D) : Env → M (Option Int) := fun ρ => bnd (f ρ) fun d => bnd (opt (asI d)) fun i => ret (some i)
theorem do_none : DO X E none oNone := PO.imp po_none fun σ H Q ⟨H0, g, S, ρ, w, r, q⟩ => q g H Ext.refl w
theorem do_some (h : DE .B X E e f) : DO X E (some e) (oSome f) := PO.imp (po_some h) fun σ H Q ⟨H0, g, S, ρ, w, r, q⟩ => ⟨H0, g, S, ρ, w, r, (OutE.bnd q).imp fun d S1 q1 g1 H1 v e1 w1 kr => by
    cases d <;> try exact q1.elim
    rename_i c
    cases RB.int kr
    exact ⟨c, rfl, q1 g1 H1 e1 w1⟩⟩
def cutL {α : Type} (xs : List α) (lo hi : Option Int) : List α := (xs.drop (HT.sIx xs.length 0 lo)).take (HT.sIx xs.length xs.length hi - HT.sIx xs.length 0 lo)
def slD : D → Option Int → Option Int → Option D
  | .lst ds, lo, hi => some (.lst (cutL ds lo hi))
  | .tup ds, lo, hi => some (.tup (cutL ds lo hi))
  | .str x, lo, hi => if x.length ≤ sizeLine then some (.str (cutS x lo hi)) else none
  | _, _, _ => none
theorem RpAll.cut {K : PySem.W.Frag} {mg : Str → Option Value} {g : Gw} {vs : List V} {ds : List D} (r : RpAll K mg g vs ds) (lo hi : Option Int) : RpAll K mg g (cutV vs lo hi) (cutL ds lo hi) := by
  unfold cutV cutL
  rw [r.length]
  exact (r.drop _).take _
def eSl (f : Env → M D) (lo hi : Env → M (Option Int)) : Env → M D := fun ρ => bnd (f ρ) fun d => bnd (lo ρ) fun a => bnd (hi ρ) fun b => opt (slD d a b)
theorem sl_any : SlR X (fun x lo hi H Q => rSlL X.K x lo hi H Q ∨ rSlA X.K x lo hi H Q ∨ ∃ z, x = .str z ∧ z.length ≤ sizeLine ∧ Q (.str (cutS z lo hi)) H) := sl_list.or (sl_tupA.or sl_str)
theorem de_slice {lo hi : Option Expr} {p2 : Pos} {fl fh : Env → M (Option Int)} (h1 : DE .B X E e f) (h2 : DO X E lo fl) (h3 : DO X E hi fh) : DE .F X E (.Subscript e (.Slice lo hi none p2) pos) (eSl f fl fh) := by
  refine PE.imp (pe_slice sl_any h1 h2 h3) fun σ H Q ⟨H0, g, S, ρ, w, r, q⟩ => ⟨H0, g, S, ρ, w, r, (OutE.bnd q).imp fun d S1 q1 g1 H1 v e1 w1 kr => ?_⟩
  refine ⟨H0, g1, S1, ρ, w1, r.ext w e1, (OutE.bnd q1).mono e1 fun a S2 q2 g2 H2 e2 w2 => ?_⟩
  refine ⟨H0, g2, S2, ρ, w2, r.ext w (e1.trans e2), (OutE.bnd q2).mono (e1.trans e2) fun b S3 q3 g3 H3 e3 w3 => ?_⟩
  have e13 := (e1.trans e2).trans e3
  have kr3 : RB X.K X.mg g3 H3 v d := RB.ext (e2.trans e3) kr
  cases d <;> try exact q3.elim
  · rename_i z
    cases RB.str kr
    simp only [slD] at q3
    split at q3
    · rename_i hz
      exact .inr (.inr ⟨z, rfl, hz, q3 g3 H3 _ e13 w3 (KR.ofS (.str _))⟩)
    · exact q3.elim
  · rename_i ds
    have p1 := kr3.tupP
    obtain ⟨t, vs, rfl, h1, r1⟩ := kr3.tup w3
    refine .inr (.inl ⟨t, vs, rfl, h1, fun hw => ?_, fun hw p hp => q_tup w3 hp (r1.cut a b) fun g2 H2 u e2 w2 k2 => q3 g2 H2 u (e13.trans e2) w2 (KR.back e13 k2)⟩)
    refine q3 g3 H3 _ e13 w3 (KR.ofS ?_)
    have : cutL ds a b = ds := by
      unfold cutL
      rw [← r1.length, hw.1, hw.2]
      simp [r1.length]
    rw [this]
    exact p1
  · rename_i ds
    obtain ⟨t, vs, rfl, h1, r1⟩ := kr3.list w3
    exact .inl ⟨t, vs, rfl, .inl (.inl h1), fun p hp => q_lst rfl w3 hp (r1.cut a b) fun g2 H2 u e2 w2 k2 => q3 g2 H2 u (e13.trans e2) w2 (KR.back e13 k2)⟩
end
end Dl

set_option Elab.async false
set_option linter.all false
set_option maxRecDepth 100000
set_option autoImplicit false
namespace Dl
open PySem PySem.Spec L2
open PyProof.Rows hiding St

section
variable {K : PySem.W.Frag} {mg : Str → Option Value} {g g' g'' : Gw} {H H' H'' H0 : Hp} {S S' : Store} {σ σ' : St} {ρ ρ' : Env}
theorem Rp.mn (m : Mn g g') {v : V} {d : D} (r : Rp K mg g v d) : Rp K mg g' v d := r.mono m.1 m.2
theorem RpAll.mn (m : Mn g g') {v : List V} {d : List D} (r : RpAll K mg g v d) : RpAll K mg g' v d := r.mono m.1 m.2
theorem set_get {α : Type} {l : List α} {i j : Nat} {a s : α} (h : (l.set i a)[j]? = some s) : (j = i ∧ s = a) ∨ (j ≠ i ∧ l[j]? = some s) := by
  by_cases e : i = j
  · subst e
    have hl : i < l.length := by
      have := (List.getElem?_eq_some_iff.mp h).1
      simpa using this
    rw [List.getElem?_set_self hl] at h
    exact .inl ⟨rfl, (Option.some.inj h).symm⟩
  · rw [List.getElem?_set_ne e] at h
    exact .inr ⟨fun z => e z.symm, h⟩
theorem RpE.setD (r : RpE K mg g H H0 σ ρ) (i : Nat) {v : V} {d : D} (h : Rp K mg g v d) : RpE K mg g H H0 (σ.set i (some v)) (ρ.set i (.dat d)) where
  len := by rw [List.length_set, List.length_set]; exact r.len
  at_ := fun j s e => by
    rcases set_get e with ⟨rfl, rfl⟩ | ⟨hne, e⟩
    · have hl : j < σ.length := by
        rw [← r.len]
        have := (List.getElem?_eq_some_iff.mp e).1
        simpa using this
      exact ⟨v, by rw [List.getElem?_set_self hl], h⟩
    · rw [List.getElem?_set_ne (fun z => hne z.symm)]
      exact r.at_ j s e
  sep := fun j l d1 d2 hne e1 e2 => by
    rcases set_get e1 with ⟨_, q⟩ | ⟨n1, e1⟩
    · cases q
    rcases set_get e2 with ⟨_, q⟩ | ⟨n2, e2⟩
    · cases q
    rw [List.getElem?_set_ne (fun z => n1 z.symm), List.getElem?_set_ne (fun z => n2 z.symm)]
    exact r.sep j l d1 d2 hne e1 e2
theorem RpE.emp (r : RpE K mg g H H0 σ ρ) (i : Nat) : RpE K mg g H H0 σ (ρ.set i .emp) where
  len := by rw [List.length_set]; exact r.len
  at_ := fun j s e => by
    rcases set_get e with ⟨rfl, rfl⟩ | ⟨hne, e⟩
    · trivial
    · exact r.at_ j s e
  sep := fun j l d1 d2 hne e1 e2 => by
    rcases set_get e1 with ⟨_, q⟩ | ⟨n1, e1⟩
    · cases q
    rcases set_get e2 with ⟨_, q⟩ | ⟨n2, e2⟩
    · cases q
    exact r.sep j l d1 d2 hne e1 e2
def clr : List Nat → Env → Env
  | [], ρ => ρ
  | i :: is, ρ => (clr is ρ).set i .emp
theorem RpE.clr (r : RpE K mg g H H0 σ ρ) : ∀ is : List Nat, RpE K mg g H H0 σ (clr is ρ)
  | [] => r
  | i :: is => (RpE.clr r is).emp i
theorem clr_not : ∀ {is : List Nat} {ρ : Env} {j : Nat} {s : Slot}, (Dl.clr is ρ)[j]? = some s → s = .emp ∨ (j ∉ is ∧ ρ[j]? = some s)
  | [], ρ, j, s, h => .inr ⟨by simp, h⟩
  | i :: is, ρ, j, s, h => by
    rcases set_get h with ⟨_, q⟩ | ⟨n, h⟩
    · exact .inl q
    · rcases clr_not h with q | ⟨q1, q2⟩
      · exact .inl q
      · exact .inr ⟨by simp [n, q1], q2⟩
/-- where the slots outside vs are as they were -/
theorem RpE.at_wipe (r : RpE K mg g H H0 σ ρ) (vs : List Nat) : RpE K mg g H H0 (wipe σ vs) (Dl.clr vs ρ) where
  len := by rw [wipe_length]; exact (r.clr vs).len
  at_ := fun j s e => by
    rcases clr_not e with q | ⟨q1, q2⟩
    · subst q; trivial
    · rw [wipe_out q1]
      exact r.at_ j s q2
  sep := fun j l d1 d2 hne e1 e2 => by
    rcases clr_not e1 with q | ⟨q1, q2⟩
    · cases q
    rcases clr_not e2 with q | ⟨q3, q4⟩
    · cases q
    rw [wipe_out q1, wipe_out q3]
    exact r.sep j l d1 d2 hne q2 q4
theorem wipe_eq {σ σ' : St} {vs sl : List Nat} (hl : σ'.length = σ.length) (hs : ∀ i, i ∉ sl → σ'[i]? = σ[i]?) (hv : ∀ i ∈ sl, i ∈ vs) : wipe σ' vs = wipe σ vs := by
  have wi : ∀ (τ : St) (ws : List Nat) (i : Nat), i ∈ ws → i < τ.length → (wipe τ ws)[i]? = some none := by
    intro τ ws
    induction ws with
    | nil => intro i h; simp at h
    | cons w ws ih =>
      intro i h hlt
      unfold wipe
      by_cases e : w = i
      · subst e; rw [List.getElem?_set_self (by rw [wipe_length]; exact hlt)]
      · rw [List.getElem?_set_ne e]
        exact ih i ((List.mem_cons.mp h).elim (fun z => absurd z.symm e) id) hlt
  apply List.ext_getElem?
  intro i
  by_cases hi : i ∈ vs
  · by_cases hlt : i < σ.length
    · rw [wi σ' vs i hi (by omega), wi σ vs i hi hlt]
    · rw [List.getElem?_eq_none (by rw [wipe_length]; omega), List.getElem?_eq_none (by rw [wipe_length]; omega)]
  · rw [wipe_out hi, wipe_out hi]
    exact hs i fun z => hi (hv i z)
theorem RpE.sameS (r : RpE K mg g H H0 σ ρ) : RpE K mg g H H0 σ ρ := r
end

/-! ### targets -/
section
variable (K : PySem.W.Frag) (mg : Str → Option Value)
def OutO {α : Type} (o : Option α) (P : α → Prop) : Prop := match o with
  | some a => P a
  | none => False
def tDG (sl : List Nat) (f : D → Env → Option Env) : TG := fun v σ H Q => ∃ H0 g S ρ d, Wd K mg g S H ∧ RpE K mg g H H0 σ ρ ∧ Rp K mg g v d ∧
  OutO (f d ρ) fun ρ' => ∀ σ', RpE K mg g H H0 σ' ρ' → σ'.length = σ.length → (∀ i, i ∉ sl → σ'[i]? = σ[i]?) → Q σ' H
def tDGs (sl : List Nat) (f : List D → Env → Option Env) : TGs := fun vs σ H Q => ∃ H0 g S ρ ds, Wd K mg g S H ∧ RpE K mg g H H0 σ ρ ∧ RpAll K mg g vs ds ∧
  OutO (f ds ρ) fun ρ' => ∀ σ', RpE K mg g H H0 σ' ρ' → σ'.length = σ.length → (∀ i, i ∉ sl → σ'[i]? = σ[i]?) → Q σ' H
end
def DG (X : Cx) (sl : List Nat) (e : Expr) (f : D → Env → Option Env) : Prop := PG X e (tDG X.K X.mg sl f)
def DGs (X : Cx) (sl : List Nat) (es : List Expr) (f : List D → Env → Option Env) : Prop := PGs X es (tDGs X.K X.mg sl f)
theorem PG.imp {X : Cx} {e : Expr} {t t' : TG} (h : PG X e t) (i : ∀ v σ H Q, t' v σ H Q → t v σ H Q) : PG X e t' := ⟨fun pins s σ H x u Q I r q => h.run pins s σ H x u Q I r (i x σ H Q q)⟩
theorem PGs.imp {X : Cx} {e : List Expr} {t t' : TGs} (h : PGs X e t) (i : ∀ v σ H Q, t' v σ H Q → t v σ H Q) : PGs X e t' := ⟨fun pins s σ H x u Q I r q => h.run pins s σ H x u Q I r (i x σ H Q q)⟩
section
variable {X : Cx} {pos : Pos}
def gN (i : Nat) : D → Env → Option Env := fun d ρ => some (ρ.set i (.dat d))
theorem dg_name (i : Nat) {x : Str} (hN : X.N.Nodup) (hi : X.N[i]? = some x := by rfl) (hx : Loc X.env.scope x := by first | exact .inl rfl | exact .inr rfl) (hf : X.fn x = true ∨ X.env.scope.names.lookup x = some .local := by first | exact .inl rfl | exact .inr rfl | assumption) : DG X [i] (.Name x pos) (gN i) :=
  PG.imp (pg_name hN hi hx hf) fun v σ H Q ⟨H0, g, S, ρ, d, w, r, rv, q⟩ => q (σ.set i (some v)) (r.setD i rv) (List.length_set ..) fun j hj => List.getElem?_set_ne (fun z => hj (by simp [z]))
def gsN : List D → Env → Option Env := fun ds ρ => match ds with | [] => some ρ | _ => none
def gsC (f : D → Env → Option Env) (h : List D → Env → Option Env) : List D → Env → Option Env := fun ds ρ => match ds with | d :: r => (f d ρ).bind (h r) | [] => none
theorem dgs_nil : DGs X [] [] gsN := PGs.imp pgs_nil fun v σ H Q ⟨H0, g, S, ρ, ds, w, r, rv, q⟩ => by
  cases rv with
  | nil => exact ⟨rfl, q σ r rfl fun _ _ => rfl⟩
  | cons _ _ => exact q.elim
theorem dgs_cons {e : Expr} {es : List Expr} {sl sl' : List Nat} {f : D → Env → Option Env} {h : List D → Env → Option Env} (h1 : DG X sl e f) (h2 : DGs X sl' es h)
    (hs : (assignEach (e :: es) X.env).map (·.2) = assign e X.env :: (assignEach es X.env).map (·.2) := by rfl) : DGs X (sl ++ sl') (e :: es) (gsC f h) := by
  refine PGs.imp (pgs_cons h1 h2 hs) fun v σ H Q ⟨H0, g, S, ρ, ds, w, r, rv, q⟩ => ?_
  cases rv with
  | nil => exact q.elim
  | @cons v vs d ds r1 r2 =>
    refine ⟨v, vs, rfl, H0, g, S, ρ, d, w, r, r1, ?_⟩
    cases hz : f d ρ with
    | none => simp only [gsC, hz] at q; exact q.elim
    | some ρ1 =>
      simp only [gsC, hz, Option.bind_some] at q
      refine fun σ1 rr1 hl1 hs1 => ⟨H0, g, S, ρ1, ds, w, rr1, r2, ?_⟩
      cases hz2 : h ds ρ1 with
      | none => rw [hz2] at q; exact q.elim
      | some ρ2 =>
        rw [hz2] at q
        exact fun σ2 rr2 hl2 hs2 => q σ2 rr2 (hl2.trans hl1) fun i hi => (hs2 i fun z => hi (by simp [z])).trans (hs1 i fun z => hi (by simp [z]))
def gT (n : Nat) (h : List D → Env → Option Env) : D → Env → Option Env := fun d ρ => match d with | .tup ds => if ds.length = n then h ds ρ else none | _ => none
theorem dg_tup {es : List Expr} {k n : Nat} {sl : List Nat} {h : List D → Env → Option Env} (hc : X.calm = true) (h1 : DGs X sl es h) (hn : (assignEach es X.env).length = n := by rfl) (hst : (assignEach es X.env).findIdx? (·.1) = none := by rfl) : DG X sl (.Tuple es k pos) (gT n h) := by
  refine PG.imp (pg_tup hc h1 hn hst) fun v σ H Q ⟨H0, g, S, ρ, d, w, r, rv, q⟩ => ?_
  cases d <;> try exact q.elim
  rename_i ds
  cases rv with
  | @tup a vs _ h1 h2 =>
    simp only [gT] at q
    split at q
    · exact ⟨a, vs, rfl, h1.sq w.sub, by rw [h2.length]; assumption, H0, g, S, ρ, ds, w, r, h2, q⟩
    · exact q.elim
end

/-! ### what is walked -/
def ItOk (K : PySem.W.Frag) (mg : Str → Option Value) (g : Gw) (J : It) (ds : List D) : Prop := ∀ g' S' H', Mn g g' → Wd K mg g' S' H' →
  (∀ (i : Nat) (d : D), ds[i]? = some d → J.go i H' ∧ ∀ x H'', J.yld i H' x H'' → ∃ g'', Ext g' H' g'' H'' ∧ Wd K mg g'' S' H'' ∧ Rp K mg g'' x d) ∧ J.stop ds.length H'
theorem ItOk.mn {K : PySem.W.Frag} {mg : Str → Option Value} {g g' : Gw} {J : It} {ds : List D} (m : Mn g g') (h : ItOk K mg g J ds) : ItOk K mg g' J ds := fun g2 S H m2 w => h g2 S H (m.trans m2) w
def DI (X : Cx) (E : XK) (tg iter : Expr) (f : Env → M (List D)) : Prop := PI X tg iter (fun σ H R => ∃ H0 g S ρ, Wd X.K X.mg g S H ∧ RpE X.K X.mg g H H0 σ ρ ∧
  OutE X.K X.mg E g H (f ρ S) fun ds S' => ∀ g' H' J, Ext g H g' H' → Wd X.K X.mg g' S' H' → ItOk X.K X.mg g' J ds → R J H')
theorem PI.imp {X : Cx} {tg e : Expr} {t t' : TI} (h : PI X tg e t) (i : ∀ σ H Q, t' σ H Q → t σ H Q) : PI X tg e t' := ⟨fun pins s σ H R I q => h.run pins s σ H R I (i σ H R q)⟩
section
variable {X : Cx} {E : XK} {tg e a b : Expr} {f h : Env → M D} {fa : Env → M (List D)} {pos p : Pos}
def items : D → Option (List D)
  | .lst ds => some ds
  | .tup ds => some ds
  | _ => none
theorem itOk_list {K : PySem.W.Frag} {mg : Str → Option Value} {g : Gw} {a : Addr} {vs : List V} {ds : List D} (h : g.F a = some (.lst vs)) (r : RpAll K mg g vs ds) : ItOk K mg g (Itl K a) ds := fun g' S' H' m w => by
  have q : SqL K H' a vs := .inl (.inl (w.sub _ _ (m.2 _ _ h)))
  refine ⟨fun i d e => ?_, ⟨vs, q, by rw [r.length]; exact Nat.le_refl _⟩⟩
  obtain ⟨v, hv, rv⟩ := r.get e
  refine ⟨⟨vs, v, q, hv⟩, fun x H'' y => ?_⟩
  obtain ⟨rfl, y⟩ := y
  have := y vs q
  rw [hv] at this
  cases this
  exact ⟨g', Ext.refl, w, rv.mn m⟩
theorem itOk_tup {K : PySem.W.Frag} {mg : Str → Option Value} {g : Gw} {a : Addr} {vs : List V} {ds : List D} (h : TupF K g.F a vs) (r : RpAll K mg g vs ds) : ItOk K mg g (Itt K a) ds := fun g' S' H' m w => by
  have q : SqT K H' a vs := TupF.sq w.sub (TupF.fz m.2 h)
  refine ⟨fun i d e => ?_, ⟨vs, q, by rw [r.length]; exact Nat.le_refl _⟩⟩
  obtain ⟨v, hv, rv⟩ := r.get e
  refine ⟨⟨vs, v, q, hv⟩, fun x H'' y => ?_⟩
  obtain ⟨rfl, y⟩ := y
  have := y vs q
  rw [hv] at this
  cases this
  exact ⟨g', Ext.refl, w, rv.mn m⟩
def iL (f : Env → M D) : Env → M (List D) := fun ρ => bnd (f ρ) fun d => match d with | .lst ds => ret ds | _ => stk
def iT (f : Env → M D) : Env → M (List D) := fun ρ => bnd (f ρ) fun d => match d with | .tup ds => ret ds | _ => stk
theorem di_list (h : DE .P X E e f) : DI X E tg e (iL f) := PI.imp (pi_list h) fun σ H R ⟨H0, g, S, ρ, w, r, q⟩ => ⟨H0, g, S, ρ, w, r, (OutE.bnd q).imp fun d S1 q1 g1 H1 v e1 w1 kr => by
  cases d <;> try exact q1.elim
  rename_i ds
  cases (show Rp X.K X.mg g1 v (.lst ds) from kr) with
  | @lst a vs _ h1 h2 => exact ⟨a, rfl, ⟨vs, .inl (.inl (w1.sub _ _ h1))⟩, q1 g1 H1 _ e1 w1 (itOk_list h1 h2)⟩⟩
theorem di_tup (h : DE .P X E e f) : DI X E tg e (iT f) := PI.imp (pi_tup h) fun σ H R ⟨H0, g, S, ρ, w, r, q⟩ => ⟨H0, g, S, ρ, w, r, (OutE.bnd q).imp fun d S1 q1 g1 H1 v e1 w1 kr => by
  cases d <;> try exact q1.elim
  rename_i ds
  cases (show Rp X.K X.mg g1 v (.tup ds) from kr) with
  | @tup a vs _ h1 h2 => exact ⟨a, rfl, ⟨vs, h1.sq w1.sub⟩, q1 g1 H1 _ e1 w1 (itOk_tup h1 h2)⟩⟩
theorem itOk_same {K : PySem.W.Frag} {mg : Str → Option Value} {g : Gw} {J : It} {n : Nat} {ds : List D} (hn : ds.length = n) (hgo : ∀ i H, i < n → J.go i H) (hstop : ∀ H, J.stop n H)
    (hy : ∀ (i : Nat) (d : D) H x H'', ds[i]? = some d → J.yld i H x H'' → H'' = H ∧ ∀ g, Rp K mg g x d) : ItOk K mg g J ds := fun g' S' H' m w => by
  subst hn
  refine ⟨fun i d e => ⟨hgo _ _ (List.getElem?_eq_some_iff.mp e).1, fun x H'' y => ?_⟩, hstop _⟩
  obtain ⟨rfl, q⟩ := hy i d _ x H'' e y
  exact ⟨g', Ext.refl, w, q g'⟩
/-- range -/
def rng (lo hi : Int) : List D := (List.range (hi - lo).toNat).map fun i => .int (lo + (i : Nat))
theorem rng_get {lo hi : Int} {i : Nat} {d : D} (h : (rng lo hi)[i]? = some d) : d = .int (lo + (i : Nat)) := by
  unfold rng at h
  rw [List.getElem?_map] at h
  cases q : (List.range (hi - lo).toNat)[i]? with
  | none => rw [q] at h; cases h
  | some j =>
    rw [q] at h
    have e : j = i := by
      have := List.getElem?_eq_some_iff.mp q
      obtain ⟨h1, h2⟩ := this
      simpa using h2.symm
    cases h
    rw [e]
def okR (i : Int) : Bool := decide (-(2 ^ 62) ≤ i) && decide (i < 2 ^ 62)
def iR1 (fa : Env → M (List D)) : Env → M (List D) := fun ρ => bnd (fa ρ) fun ds => match ds with | [.int j] => if okR j = true then ret (rng 0 j) else stk | _ => stk
def iR2 (fa : Env → M (List D)) : Env → M (List D) := fun ρ => bnd (fa ρ) fun ds => match ds with | [.int i, .int j] => if okR i = true ∧ okR j = true then ret (rng i j) else stk | _ => stk
theorem okR_iff {i : Int} (h : okR i = true) : -(2 ^ 62) ≤ i ∧ i < 2 ^ 62 := by simpa [okR] using h
theorem itOk_rng {K : PySem.W.Frag} {mg : Str → Option Value} {g : Gw} {lo hi : Int} {n : Nat} (hn : n = (hi - lo).toNat) : ItOk K mg g (Itr lo n) (rng lo hi) :=
  itOk_same (n := n) (by rw [hn]; unfold rng; rw [List.length_map, List.length_range]) (fun i _ h => h) (fun _ => Nat.le_refl _) fun i d H x H'' h y => by
    obtain ⟨rfl, rfl⟩ := y
    rw [rng_get h]
    exact ⟨rfl, fun g => .int _⟩
theorem di_range1 (hg : Gl X "range") (hm : X.mg "range" = none) (ha : DA .B X E [a] fa) (hs : starEach [a] X.env = [(false, eval a X.env)] := by rfl) : DI X E tg (.Call (.Name "range" p) [a] [] pos) (iR1 fa) :=
  PI.imp (pi_range1 hg hm ha hs) fun σ H R ⟨H0, g, S, ρ, w, r, q⟩ => ⟨H0, g, S, ρ, w, r, (OutE.bnd q).imp fun ds S1 q1 g1 H1 vs e1 w1 kr => by
    have kr : RBs X.K X.mg g1 H1 vs ds := kr
    split at q1
    · rename_i j _
      split at q1
      · rename_i hj
        cases kr with
        | cons k1 k2 =>
          cases k2
          cases RB.int k1
          have := okR_iff hj
          exact ⟨j, rfl, this.1, this.2, q1 g1 H1 _ e1 w1 (itOk_rng (by rw [Int.sub_zero]))⟩
      · exact q1.elim
    · exact q1.elim⟩
theorem di_range2 (hg : Gl X "range") (hm : X.mg "range" = none) (ha : DA .B X E [a, b] fa) (hs : starEach [a, b] X.env = [(false, eval a X.env), (false, eval b X.env)] := by rfl) (hs2 : starEach [b] X.env = [(false, eval b X.env)] := by rfl) : DI X E tg (.Call (.Name "range" p) [a, b] [] pos) (iR2 fa) :=
  PI.imp (pi_range2 hg hm ha hs hs2) fun σ H R ⟨H0, g, S, ρ, w, r, q⟩ => ⟨H0, g, S, ρ, w, r, (OutE.bnd q).imp fun ds S1 q1 g1 H1 vs e1 w1 kr => by
    have kr : RBs X.K X.mg g1 H1 vs ds := kr
    split at q1
    · rename_i i j _
      split at q1
      · rename_i hj
        cases kr with
        | cons k1 k2 =>
          cases k2 with
          | cons k2 k3 =>
            cases k3
            cases RB.int k1
            cases RB.int k2
            have h1 := okR_iff hj.1
            have h2 := okR_iff hj.2
            exact ⟨i, j, rfl, ⟨h1.1, h1.2, h2.1, h2.2⟩, q1 g1 H1 _ e1 w1 (itOk_rng rfl)⟩
      · exact q1.elim
    · exact q1.elim⟩
/-- a text's signs -/
def signs (x : Str) : List D := x.cps.toList.map fun c => .str ⟨#[c]⟩
def iS (f : Env → M D) : Env → M (List D) := fun ρ => bnd (f ρ) fun d => match d with | .str x => ret (signs x) | _ => stk
theorem di_str (h : DE .B X E e f) : DI X E tg e (iS f) := PI.imp (pi_str h) fun σ H R ⟨H0, g, S, ρ, w, r, q⟩ => ⟨H0, g, S, ρ, w, r, (OutE.bnd q).imp fun d S1 q1 g1 H1 v e1 w1 kr => by
  cases d <;> try exact q1.elim
  rename_i x
  cases RB.str kr
  refine ⟨x, rfl, q1 g1 H1 _ e1 w1 (itOk_same (n := x.cps.size) (by simp [signs]) (fun i _ h => h) (fun _ => Nat.le_refl _) fun i d H x' H'' h y => ?_)⟩
  obtain ⟨rfl, c, hc, rfl⟩ := y
  unfold signs at h
  rw [List.getElem?_map, Array.getElem?_toList, hc] at h
  cases h
  exact ⟨rfl, fun g => .str _⟩⟩
theorem ext_pair {K : PySem.W.Frag} {mg : Str → Option Value} {g : Gw} {S : Store} {H : Hp} {T : Addr} {x y : V} {d e : D} (w : Wd K mg g S H) (hT : H T = none) (r1 : Rp K mg g x d) (r2 : Rp K mg g y e) :
    ∃ g', Ext g H g' (upd H T (.tup [x, y])) ∧ Wd K mg g' S (upd H T (.tup [x, y])) ∧ Rp K mg g' (.ref T) (.tup [d, e]) := by
  have w' := w.laid (o := .tup [x, y]) hT
  have hn := w.pnew hT
  exact ⟨⟨g.β, upd g.F T (.tup [x, y])⟩, (Ext.laid hT).frozen hn.2 hT, w'.frozen upd_same hn.1 hn.2, .tup (.inl upd_same) ((RpAll.cons r1 (.cons r2 .nil)).fzn hn.2)⟩
/-- enumerate of a list -/
def enums (ds : List D) : List D := (List.range ds.length).zipWith (fun (i : Nat) d => .tup [.int (i : Nat), d]) ds
theorem enums_get {ds : List D} {i : Nat} {d : D} (h : (enums ds)[i]? = some d) : ∃ e, ds[i]? = some e ∧ d = .tup [.int (i : Nat), e] := by
  unfold enums at h
  rw [List.getElem?_zipWith] at h
  cases q : ds[i]? with
  | none => rw [q] at h; cases q2 : (List.range ds.length)[i]? <;> (rw [q2] at h; cases h)
  | some e =>
    rw [q, List.getElem?_range (List.getElem?_eq_some_iff.mp q).1] at h
    cases h
    exact ⟨e, rfl, rfl⟩
theorem enums_length {ds : List D} : (enums ds).length = ds.length := by simp [enums]
def iEn (fa : Env → M (List D)) : Env → M (List D) := fun ρ => bnd (fa ρ) fun xs => match xs with | [.lst ds] => ret (enums ds) | _ => stk
theorem di_enumL {elts : List Expr} {kk : Nat} {tpos : Pos} (hg : Gl X "enumerate") (hm : X.mg "enumerate" = none) (ha : DA .P X E [e] fa) (hs : starEach [e] X.env = [(false, eval e X.env)] := by rfl) :
    DI X E (.Tuple elts kk tpos) (.Call (.Name "enumerate" p) [e] [] pos) (iEn fa) :=
  PI.imp (pi_enum hg hm ha hs) fun σ H R ⟨H0, g, S, ρ, w, r, q⟩ => ⟨H0, g, S, ρ, w, r, (OutE.bnd q).imp fun xs S1 q1 g1 H1 vs e1 w1 kr => by
    have kr : RpAll X.K X.mg g1 vs xs := kr
    split at q1
    · rename_i ds
      cases kr with
      | cons k1 k2 =>
        cases k2
        cases k1 with
        | @lst a us _ h1 h2 =>
          have hq : ∀ g' S' H', Mn g1 g' → Wd X.K X.mg g' S' H' → SqL X.K H' a us := fun g' S' H' m w => .inl (.inl (w.sub _ _ (m.2 _ _ h1)))
          refine ⟨a, us, rfl, hq _ _ _ Mn.refl w1, q1 g1 H1 _ e1 w1 fun g' S' H' m w' => ⟨fun i d hd => ?_, ?_⟩⟩
          · obtain ⟨z, hz, rfl⟩ := enums_get hd
            obtain ⟨v, hv, rv⟩ := h2.get hz
            refine ⟨⟨us, v, hq _ _ _ m w', hv⟩, fun x H'' y => ?_⟩
            obtain ⟨T, x', rfl, hT, rfl, hx⟩ := y
            have := hx us (hq _ _ _ m w')
            rw [hv] at this; cases this
            exact ext_pair w' hT (.int _) (rv.mn m)
          · exact ⟨us, hq _ _ _ m w', by rw [h2.length, enums_length]; exact Nat.le_refl _⟩
    · exact q1.elim⟩
def iZp (fa : Env → M (List D)) : Env → M (List D) := fun ρ => bnd (fa ρ) fun xs => match xs with
  | [.lst ds, .lst es] => ret (List.zipWith (fun d e => .tup [d, e]) ds es)
  | [.tup ds, .tup es] => ret (List.zipWith (fun d e => .tup [d, e]) ds es)
  | _ => stk
end
end Dl

set_option Elab.async false
set_option linter.all false
set_option maxRecDepth 100000
set_option autoImplicit false
namespace Dl
open PySem PySem.Spec L2
open PyProof.Rows hiding St

/-! enumerate of a tuple, a text: one argument -/
set_option maxHeartbeats 1000000 in
theorem en_new {v : Value} {ob : Obj} {P : Heap → Prop} (B : Begins v ob P) :
    Meets (Builtin.«enumerate.__new__» ⟨[.type "enumerate", v], []⟩) (fun _ R s => P s.heap ∧
      R (.ok (.ret (.ref (s.heap.push ob).objs.size))) { s with heap := (s.heap.push ob).push { cls := .type "enumerate", data := .fields #[.none, .bool false, .ref s.heap.objs.size, rawInt 0, .none, .none] } }) :=
  .of_wp fun prog w A R s h => by
    obtain ⟨hp, ge, dr, tk, os⟩ := s
    obtain ⟨hP, h⟩ := h
    have sube := sub_enumerate
    have st : ∀ {A' : Around} {E : Value → Shared → Prop} {Q : Value → Shared → Prop}, Q (.ref hp.objs.size) ⟨hp.push ob, ge, dr, tk, os⟩ → wpAny (model prog w) A' (pyIter v) Q E ⟨hp, ge, dr, tk, os⟩ := fun q => B.iter prog w _ _ ⟨hp, ge, dr, tk, os⟩ _ hP q
    wp_walk using st
    refine wpAny_stack_any fun _ => wpAny_pure ?_
    split
    · rename_i cl _ _ _ _ _
      cases (cl == Value.type "enumerate") <;> (wp_walk using st; exact ⟨_, rfl, h⟩)
    · wp_walk using st
      exact ⟨_, rfl, h⟩
theorem en_call {prog : Program} {w : World} {A : Around} {E : Value → Shared → Prop} {s : Shared} {v : Value} {ob : Obj} {P : Heap → Prop} {Q : Value → Shared → Prop} (B : Begins v ob P) (hP : P s.heap)
    (h : ∀ h', IsEnum h' (s.heap.objs.size + 1) s.heap.objs.size 0 .none → h'.get? s.heap.objs.size = some ob → (∀ b o, s.heap.get? b = some o → h'.get? b = some o) → Q (.ref (s.heap.objs.size + 1)) { s with heap := h' }) :
    wpAny (model prog w) A (call (.type "enumerate") [v]) Q E s := by
  refine callType_new F.called_enumerate (by decide) (F.typeCall_enumerate_1 _) (F.newCall_enumerate_1 _) (fun obj => F.args_object_init_2 obj _) F.entry_enumerate_new (en_new B) ⟨hP, ?_⟩
  have sz : (s.heap.push ob).objs.size = s.heap.objs.size + 1 := Heap.size_push ..
  show _ ∧ _
  rw [sz]
  have en : IsEnum ((s.heap.push ob).push { cls := .type "enumerate", data := .fields #[.none, .bool false, .ref s.heap.objs.size, rawInt 0, .none, .none] }) (s.heap.objs.size + 1) s.heap.objs.size 0 .none := by
    have q := Heap.get?_push_size (s.heap.push ob) (o := { cls := .type "enumerate", data := .fields #[.none, .bool false, .ref s.heap.objs.size, rawInt 0, .none, .none] }) rfl
    rw [sz] at q
    exact q
  exact ⟨⟨_, en, rfl⟩, h _ en (Heap.get?_push_of_some _ (Heap.get?_push_size _ B.free)) fun b o x => Heap.get?_push_of_some _ (Heap.get?_push_of_some _ x)⟩

/-- what enumerate walks: n items, the i-th is f i (its V) -/
def Iten (n : Nat) (G : Hp → Prop) (f : Nat → Option V) : It :=
  ⟨fun i H => G H ∧ i < n, fun i H v H' => ∃ T x, v = .ref T ∧ H T = none ∧ H' = upd H T (.tup [.int (i : Nat), x]) ∧ f i = some x, fun i H => G H ∧ i = n⟩
theorem en_turn {P : Program} {w : World} {K : PySem.W.Frag} {elts : List Expr} {kk : Nat} {tpos : Pos} {n : Nat} {G : Hp → Prop} {f : Nat → Option V} (e it : Addr) (hne : e ≠ it) (tn : Nat → Heap → Prop)
    (hlive : ∀ i h, tn i h → ∃ o, h.get? it = some o ∧ ∀ v, o.data ≠ .cell v) (hkeep : ∀ i h h', tn i h → (∀ o, h.get? it = some o → h'.get? it = some o) → tn i h')
    (hD : ∀ (X : Cx), X.prog = P → X.w = w → X.K = K → X.calm = true → ∀ (pins : List (Addr × Obj)) (s : Shared) (σ : St) (H : Hp) (i : Nat), Inv X pins σ H s → G H → tn i s.heap → H it = none →
      ∃ (fp : List Addr) (Pv : Nat → Value → Prop), Draws P w X.A.in1 it fp n Pv (fun j h => tn j h ∧ ∀ b ∈ fp, b ≠ it → ∀ o, s.heap.get? b = some o → h.get? b = some o) ∧ (e ∉ fp) ∧ (∀ j u, Pv j u → ∃ x, f j = some x ∧ RelV x u)) :
    Turn P w K (.Tuple elts kk tpos) (Iten n G f) [e, it] e (fun i h => (∃ old, IsEnum h e it ((i : Nat) : Int) old) ∧ tn i h) where
  mem := by simp
  obj := fun i h st b hb => by
    obtain ⟨⟨old, he⟩, hi⟩ := st
    rcases (show b = e ∨ b = it by simpa using hb) with z | z
    · rw [z]; exact ⟨_, he, fun v q => nomatch q⟩
    · rw [z]; exact hlive i h hi
  keep := fun i h h' st k => let ⟨⟨old, he⟩, hi⟩ := st; ⟨⟨old, k e (by simp) _ he⟩, hkeep i h h' hi fun o q => k it (by simp) o q⟩
  item := by
    intro X hP hw hK hc i pins s σ H E I hf st hg
    subst hP hw hK
    obtain ⟨⟨old, he⟩, hi⟩ := st
    obtain ⟨hG, hlt⟩ := hg
    obtain ⟨fp, Pv, D, hef, hPv⟩ := hD X rfl rfl rfl hc pins s σ H i I hG hi (hf it (by simp)).1
    have hel : e < s.heap.objs.size := Heap.lt_size he
    have hil : it < s.heap.objs.size := by obtain ⟨_, q, _⟩ := hlive i _ hi; exact Heap.lt_size q
    refine wpAny_pyNext_enum_itemC D he ⟨hi, fun b _ _ o q => q⟩ hlt hne hef fun u h' tk hu ho hst hT hsz hk => ?_
    obtain ⟨x, hx, ru⟩ := hPv i u hu
    refine ⟨_, rfl, wpAny_letOwnedTupleGo_enum (s := { s with heap := h', toks := tk + 1 }) ho fun h'' he' sb => ?_⟩
    have hT2 : h''.get? s.heap.objs.size = some { cls := .type "tuple", data := .seq #[.int i tk, u] } := (sb.2 _ (Nat.ne_of_gt hel)).trans hT
    have new : ObjOk X.prog X.w (upd H s.heap.objs.size (.tup [.int (i : Nat), x])) h'' s.heap.objs.size (.tup [.int (i : Nat), x]) :=
      ⟨by show 2 ≤ sizeLine; decide, [.int i tk, u], .cons ⟨_, rfl⟩ (.cons ru .nil), ⟨_, hT2, rfl, _, rfl⟩⟩
    have I1 : Inv X pins σ (upd H s.heap.objs.size (.tup [.int (i : Nat), x])) { s with heap := h'', toks := tk + 1 } :=
      I.turnedNew (ch := [e, it]) (fun b ob hb q => (sb.2 b (fun z => hb (by simp [z]))).trans (hk b ob (fun z => hb (by simp [z])) (fun z => hb (by simp [z])) q)) hf (Nat.le_refl _) new
    refine ⟨.ref s.heap.objs.size, _, I1, rfl, ⟨_, x, rfl, I.hok.fresh (Nat.le_refl _), rfl, hx⟩, ⟨⟨u, ?_⟩, hkeep _ _ _ hst.1 fun o q => (sb.2 it (Ne.symm hne)).trans q⟩, fun b hb => ?_⟩
    · have e1 : ((i + 1 : Nat) : Int) = (i : Int) + 1 := by omega
      rw [e1]; exact he'
    · have hb' : b < s.heap.objs.size := by
        rcases (show b = e ∨ b = it by simpa using hb) with z | z
        · rw [z]; exact hel
        · rw [z]; exact hil
      rw [upd_ne (Nat.ne_of_lt hb')]
      exact (hf b hb).1
  done := by
    intro X hP hw hK hc i pins s σ H E I hf st hg
    subst hP hw hK
    obtain ⟨⟨old, he⟩, hi⟩ := st
    obtain ⟨hG, rfl⟩ := hg
    obtain ⟨f0, f1, f2, f3, f4, f5⟩ := hf it (by simp)
    obtain ⟨fp, Pv, D, hef, hPv⟩ := hD X rfl rfl rfl hc pins s σ H _ I hG hi f0
    exact wpAny_pyNext_enum_endD D he ⟨hi, fun b _ _ o q => q⟩ fun h' eb => ⟨rfl, I.turned (t' := s.toks) (fun b o hb q => eb b o hb q) f0 f1 f3 f4 f5⟩
  self := fun A i s Q E st h => let ⟨⟨_, he⟩, _⟩ := st; wpAny_pyIter_enum he h

section
variable {X : Cx} {E : XK} {e : Expr} {fa : Env → M (List D)} {pos p : Pos}
def iEnT (K : PySem.W.Frag) (ta : TA) : TI := fun σ H R => ta σ H fun vs H1 => ∃ a xs, vs = [.ref a] ∧ SqT K H1 a xs ∧ R (Iten xs.length (fun H => SqT K H a xs) fun i => xs[i]?) H1
theorem pi_enT {ta : TA} {tpos : Pos} {elts : List Expr} {kk : Nat} (hg : Gl X "enumerate") (hm : X.mg "enumerate" = none) (ha : PA X [e] ta) (hs : starEach [e] X.env = [(false, eval e X.env)] := by rfl) :
    PI X (.Tuple elts kk tpos) (.Call (.Name "enumerate" p) [e] [] pos) (iEnT X.K ta) := by
  refine ⟨fun pins s σ H R I h => ?_⟩
  refine Call_ (ld_blt I hg hm boot_enumerate (PyProof.Rows.callWith_type1 (thn (ha.run pos pins s σ H _ I h) fun us s1 ⟨vs, H1, I1, r1, q1⟩ => ?_) hs rfl))
  obtain ⟨a, xs, ex, hq, q⟩ := q1
  subst ex
  cases r1 with
  | cons r rr =>
    cases rr
    cases r
    obtain ⟨its, rv, p', hz⟩ := I1.tuple hq
    refine en_call (begins_tuple a its.toArray) (show s1.heap.IsTuple a its.toArray from p') fun h' he hit hk => wpAny_pyIter_enum he ?_
    have I2 : Inv X pins σ H1 { s1 with heap := h' } := I1.kept (t' := s1.toks) hk
    have hlt : a < s1.heap.objs.size := p'.lt
    refine ⟨s1.heap.objs.size + 1, [s1.heap.objs.size + 1, s1.heap.objs.size], _, _, H1, rfl, I2, en_turn (s1.heap.objs.size + 1) s1.heap.objs.size (Nat.succ_ne_self _) (fun i h => h.IsTupleIter s1.heap.objs.size a i) (fun i h ⟨o, ho, hc, hd⟩ => ⟨o, ho, fun v z => by rw [hd] at z; cases z⟩)
      (fun i h h' st k => st.at k) ?_, ⟨⟨.none, he⟩, ⟨_, hit, rfl, rfl⟩⟩, fun b hb => ?_, q⟩
    · intro X' hP hw hK hc pins' s' σ' H' i I' hG hi hn
      obtain ⟨its', rv', p2, _⟩ := I'.tuple (by rw [hK]; exact hG)
      refine ⟨[s1.heap.objs.size, a], fun j u => its'[j]? = some u, ?_, ?_, fun j u hu => ?_⟩
      · have D := Draws.tuple (prog := X.prog) (w := X.w) (A := X'.A.in1) (I'.ok.hd hc) s1.heap.objs.size a (Nat.ne_of_lt hlt) its'.toArray
        have hnl : its'.toArray.size = xs.length := by simp [rv'.length]
        rw [hnl] at D
        refine ⟨fun j h st => let ⟨o, ho, _⟩ := st.1; ⟨o, ho⟩, fun j h h2 st k => ⟨st.1.at fun o q => k _ (by simp) o q, fun b hb hbn o q => k b hb o (st.2 b hb hbn o q)⟩, fun j s2 Q E2 hj st hQ => ?_, fun s2 Q E2 st hE => ?_⟩
        · have tt : s2.heap.IsTuple a its'.toArray := Heap.IsTuple.at p2 fun o q => st.2 a (by simp) (Nat.ne_of_lt hlt) o q
          refine D.item j s2 Q E2 hj ⟨st.1, tt⟩ fun x h2 tk hx st2 sb => hQ x h2 tk (by simpa using hx) ⟨st2.1, fun b hb hbn o q => (sb.2 b hbn).trans (st.2 b hb hbn o q)⟩ sb
        · have tt : s2.heap.IsTuple a its'.toArray := Heap.IsTuple.at p2 fun o q => st.2 a (by simp) (Nat.ne_of_lt hlt) o q
          exact D.done s2 Q E2 ⟨st.1, tt⟩ hE
      · simp only [List.mem_cons, List.not_mem_nil, or_false, not_or]
        exact ⟨Nat.succ_ne_self _, Nat.ne_of_gt (Nat.lt_succ_of_lt hlt)⟩
      · have hj : j < xs.length := by rw [rv'.length]; exact (List.getElem?_eq_some_iff.mp hu).1
        obtain ⟨u', hu', ru⟩ := rv'.get (List.getElem?_eq_getElem hj)
        rw [hu] at hu'; cases hu'
        exact ⟨_, List.getElem?_eq_getElem hj, ru⟩
    · have hle : s1.heap.objs.size ≤ b := by
        rcases (show b = s1.heap.objs.size + 1 ∨ b = s1.heap.objs.size by simpa using hb) with z | z
        · rw [z]; exact Nat.le_add_right _ _
        · rw [z]; exact Nat.le_refl _
      exact I1.fpOk hle (I1.hok.fresh hle)
def iEnu (fa : Env → M (List D)) : Env → M (List D) := fun ρ => bnd (fa ρ) fun xs => match xs with | [.tup ds] => ret (enums ds) | _ => stk
theorem di_enumT {elts : List Expr} {kk : Nat} {tpos : Pos} (hg : Gl X "enumerate") (hm : X.mg "enumerate" = none) (ha : DA .P X E [e] fa) (hs : starEach [e] X.env = [(false, eval e X.env)] := by rfl) :
    DI X E (.Tuple elts kk tpos) (.Call (.Name "enumerate" p) [e] [] pos) (iEnu fa) :=
  PI.imp (pi_enT hg hm ha hs) fun σ H R ⟨H0, g, S, ρ, w, r, q⟩ => ⟨H0, g, S, ρ, w, r, (OutE.bnd q).imp fun xs S1 q1 g1 H1 vs e1 w1 kr => by
    have kr : RpAll X.K X.mg g1 vs xs := kr
    split at q1
    · rename_i ds
      cases kr with
      | cons k1 k2 =>
        cases k2
        cases k1 with
        | @tup a us _ h1 h2 =>
          have hq : ∀ g' S' H', Mn g1 g' → Wd X.K X.mg g' S' H' → SqT X.K H' a us := fun g' S' H' m w => TupF.sq w.sub (TupF.fz m.2 h1)
          refine ⟨a, us, rfl, hq _ _ _ Mn.refl w1, q1 g1 H1 _ e1 w1 fun g' S' H' m w' => ⟨fun i d hd => ?_, ?_⟩⟩
          · obtain ⟨z, hz, rfl⟩ := enums_get hd
            obtain ⟨v, hv, rv⟩ := h2.get hz
            refine ⟨⟨hq _ _ _ m w', (List.getElem?_eq_some_iff.mp hv).1⟩, fun x H'' y => ?_⟩
            obtain ⟨T, x', rfl, hT, rfl, hx⟩ := y
            have hx : us[i]? = some x' := hx
            rw [hv] at hx; cases hx
            exact ext_pair w' hT (.int _) (rv.mn m)
          · exact ⟨hq _ _ _ m w', by rw [enums_length, h2.length]⟩
    · exact q1.elim⟩
end
end Dl

set_option Elab.async false
set_option linter.all false
set_option maxRecDepth 100000
set_option autoImplicit false
namespace Dl
open PySem PySem.Spec L2
open PyProof.Rows hiding St

section
variable {X : Cx} {E : XK} {tg e a b : Expr} {f h : Env → M D} {fa : Env → M (List D)} {pos p : Pos}
/-! ### zip, a range with a step -/
theorem zipD_get {ds es : List D} {i : Nat} {d : D} (h : (List.zipWith (fun d e => D.tup [d, e]) ds es)[i]? = some d) : ∃ x y, ds[i]? = some x ∧ es[i]? = some y ∧ d = .tup [x, y] := by
  rw [List.getElem?_zipWith] at h
  cases q : ds[i]? with
  | none => rw [q] at h; cases q2 : es[i]? <;> (rw [q2] at h; cases h)
  | some x =>
    cases q2 : es[i]? with
    | none => rw [q, q2] at h; cases h
    | some y => rw [q, q2] at h; cases h; exact ⟨x, y, rfl, rfl, rfl⟩
theorem di_zip {elts : List Expr} {kk : Nat} {tpos : Pos} (hg : Gl X "zip") (hm : X.mg "zip" = none) (ha : DA .P X E [a, b] fa) (hs : starEach [a, b] X.env = (false, eval a X.env) :: starEach [b] X.env := by rfl)
    (hpl : (backTo pos (starEach [b] X.env)).any (·.1) = false := by rfl) : DI X E (.Tuple elts kk tpos) (.Call (.Name "zip" p) [a, b] [] pos) (iZp fa) :=
  PI.imp (RZ.pi_zipA hg hm ha hs hpl) fun σ H R ⟨H0, g, S, ρ, w, r, q⟩ => ⟨H0, g, S, ρ, w, r, (OutE.bnd q).imp fun xs S1 q1 g1 H1 vs e1 w1 kr => by
    have kr : RpAll X.K X.mg g1 vs xs := kr
    split at q1
    · rename_i ds es _
      cases kr with
      | cons k1 k2 =>
        cases k2 with
        | cons k2 k3 =>
          cases k3
          cases k1 with
          | @lst a us _ h1 h2 =>
            cases k2 with
            | @lst b ws _ h3 h4 =>
              have hq : ∀ g' S' H', Mn g1 g' → Wd X.K X.mg g' S' H' → SqL X.K H' a us ∧ SqL X.K H' b ws := fun g' S' H' m w => ⟨.inl (.inl (w.sub _ _ (m.2 _ _ h1))), .inl (.inl (w.sub _ _ (m.2 _ _ h3)))⟩
              refine ⟨a, b, us, ws, rfl, .inl ⟨(hq _ _ _ Mn.refl w1).1, (hq _ _ _ Mn.refl w1).2, q1 g1 H1 _ e1 w1 fun g' S' H' m w' => ⟨fun i d hd => ?_, ?_⟩⟩⟩
              · obtain ⟨x, y, hx, hy, rfl⟩ := zipD_get hd
                obtain ⟨v, hv, rv⟩ := h2.get hx
                obtain ⟨u, hu, ru⟩ := h4.get hy
                have q := hq _ _ _ m w'
                refine ⟨⟨us, ws, v, u, q.1, q.2, hv, hu⟩, fun z H'' yl => ?_⟩
                obtain ⟨T, v', u', rfl, hT, rfl, hx', hy'⟩ := yl
                have e1 := hx' us q.1
                have e2 := hy' ws q.2
                rw [hv] at e1; rw [hu] at e2
                cases e1; cases e2
                exact ext_pair w' hT (rv.mn m) (ru.mn m)
              · have q := hq _ _ _ m w'
                refine ⟨us, ws, q.1, q.2, ?_⟩
                rw [List.length_zipWith, h2.length, h4.length]; omega
    · rename_i ds es _
      cases kr with
      | cons k1 k2 =>
        cases k2 with
        | cons k2 k3 =>
          cases k3
          cases k1 with
          | @tup a us _ h1 h2 =>
            cases k2 with
            | @tup b ws _ h3 h4 =>
              have hq : ∀ g' S' H', Mn g1 g' → Wd X.K X.mg g' S' H' → SqT X.K H' a us ∧ SqT X.K H' b ws := fun g' S' H' m w => ⟨TupF.sq w.sub (TupF.fz m.2 h1), TupF.sq w.sub (TupF.fz m.2 h3)⟩
              refine ⟨a, b, us, ws, rfl, .inr ⟨(hq _ _ _ Mn.refl w1).1, (hq _ _ _ Mn.refl w1).2, q1 g1 H1 _ e1 w1 fun g' S' H' m w' => ⟨fun i d hd => ?_, ?_⟩⟩⟩
              · obtain ⟨x, y, hx, hy, rfl⟩ := zipD_get hd
                obtain ⟨v, hv, rv⟩ := h2.get hx
                obtain ⟨u, hu, ru⟩ := h4.get hy
                have q := hq _ _ _ m w'
                refine ⟨⟨us, ws, v, u, q.1, q.2, hv, hu⟩, fun z H'' yl => ?_⟩
                obtain ⟨T, v', u', rfl, hT, rfl, hx', hy'⟩ := yl
                have e1 := hx' us q.1
                have e2 := hy' ws q.2
                rw [hv] at e1; rw [hu] at e2
                cases e1; cases e2
                exact ext_pair w' hT (rv.mn m) (ru.mn m)
              · have q := hq _ _ _ m w'
                refine ⟨us, ws, q.1, q.2, ?_⟩
                rw [List.length_zipWith, h2.length, h4.length]; omega
    · exact q1.elim⟩
/-- range(i, j, -1) -/
def rngD (i j : Int) : List D := (List.range (i - j).toNat).map fun k => .int (i - (k : Nat))
def iR3 (fa : Env → M (List D)) : Env → M (List D) := fun ρ => bnd (fa ρ) fun ds => match ds with | [.int i, .int j, .int (-1)] => if okR i = true ∧ okR j = true then ret (rngD i j) else stk | _ => stk
theorem di_range3 {c : Expr} (hg : Gl X "range") (hm : X.mg "range" = none) (ha : DA .B X E [a, b, c] fa) (hs : starEach [a, b, c] X.env = (false, eval a X.env) :: starEach [b, c] X.env := by rfl) (hpl : (backTo pos (starEach [b, c] X.env)).any (·.1) = false := by rfl) :
    DI X E tg (.Call (.Name "range" p) [a, b, c] [] pos) (iR3 fa) :=
  PI.imp (pi_range3 hg hm ha hs hpl) fun σ H R ⟨H0, g, S, ρ, w, r, q⟩ => ⟨H0, g, S, ρ, w, r, (OutE.bnd q).imp fun ds S1 q1 g1 H1 vs e1 w1 kr => by
    have kr : RBs X.K X.mg g1 H1 vs ds := kr
    split at q1
    · rename_i i j _
      split at q1
      · rename_i hj
        cases kr with
        | cons k1 k2 =>
          cases k2 with
          | cons k2 k3 =>
            cases k3 with
            | cons k3 k4 =>
              cases k4
              cases RB.int k1
              cases RB.int k2
              cases RB.int k3
              have h1 := okR_iff hj.1
              have h2 := okR_iff hj.2
              refine ⟨i, j, -1, _, rfl, RgC.neg h1.1 h1.2 h2.1 h2.2, q1 g1 H1 _ e1 w1 (itOk_same (n := (i - j).toNat) (by simp [rngD]) (fun i _ h => h) (fun _ => Nat.le_refl _) fun m d H x H'' h y => ?_)⟩
              obtain ⟨rfl, rfl⟩ := y
              unfold rngD at h
              rw [List.getElem?_map] at h
              cases q : (List.range (i - j).toNat)[m]? with
              | none => rw [q] at h; cases h
              | some l =>
                rw [q] at h
                have e : l = m := by
                  obtain ⟨h1, h2⟩ := List.getElem?_eq_some_iff.mp q
                  simpa using h2.symm
                cases h
                subst e
                exact ⟨rfl, fun g => by
                  have : i + (l : Nat) * (-1) = i - (l : Nat) := by omega
                  rw [this]; exact .int _⟩
      · exact q1.elim
    · exact q1.elim⟩

/-! ### loops -/
def forL (fg : D → Env → Option Env) (cl : List Nat) (fb : Env → M Fl) : List D → Env → M Fl
  | [], ρ => ret (.nx ρ)
  | d :: ds, ρ => bnd (opt (fg d ρ)) fun ρ1 => bnd (fb ρ1) fun fl => match fl with
    | .nx ρ2 => forL fg cl fb ds (clr cl ρ2)
    | .ct ρ2 => forL fg cl fb ds (clr cl ρ2)
    | .bk ρ2 => ret (.nx (clr cl ρ2))
    | .rt d => ret (.rt d)
def sFor (fi : Env → M (List D)) (fg : D → Env → Option Env) (cl : List Nat) (fb : Env → M Fl) : Env → M Fl := fun ρ => bnd (fi ρ) fun ds => forL fg cl fb ds ρ
theorem drop_cons {α : Type} {ds : List α} {i : Nat} (h : i < ds.length) : ds.drop i = ds[i] :: ds.drop (i + 1) := by simp
theorem ds_for {iter : Expr} {body : List Stmt} {sl cl : List Nat} {fi : Env → M (List D)} {fg : D → Env → Option Env} {fb : Env → M Fl} (hp : PassesOwn (model X.prog X.w) X.A X.env X.xe) (hc : X.calm = true)
    (hi : DI X E tg iter fi) (hg : DG X sl tg fg) (hb : DSs X E body fb) (hs : ∀ x, foldedSetIterable iter X.env x = pure x := by intro _; rfl) : DS X E (.For tg iter body [] pos) (sFor fi fg cl fb) := by
  refine PS.imp (ps_for hp hc hi hg hb hs) fun Dn σ H ⟨g0, H0, g, S, ρ, e0, w, r, q⟩ => ?_
  refine ⟨H0, g, S, ρ, w, r, (OutE.bnd q).mono e0 fun ds S1 q1 g1 H1 J e1 w1 it => ?_⟩
  refine ⟨fun i m σ H => m = ds.length - i ∧ i ≤ ds.length ∧ ∃ g' S' ρ', Ext g0 H0 g' H ∧ Mn g g' ∧ Mn g1 g' ∧ Wd X.K X.mg g' S' H ∧ RpE X.K X.mg g' H H0 σ ρ' ∧ OutE X.K X.mg E g0 H0 (forL fg cl fb (ds.drop i) ρ' S') _,
    ⟨ds.length, by simp, Nat.zero_le _, g1, S1, ρ, e0.trans e1, e1.mn, Mn.refl, w1, r.ext w e1, q1⟩, ?_⟩
  rintro i m σ2 H2 ⟨rfl, hi2, g2, S2, ρ2, e2, m2, m12, w2, r2, q2⟩
  obtain ⟨go, stop⟩ := it g2 S2 H2 m12 w2
  by_cases hlt : i < ds.length
  · rw [drop_cons hlt] at q2
    obtain ⟨hgo, hy⟩ := go i ds[i] (List.getElem?_eq_getElem hlt)
    refine .inr ⟨hgo, fun σ' H' => i + 1 ≤ ds.length ∧ ∃ g' S' ρ', Ext g0 H0 g' H' ∧ Mn g g' ∧ Mn g1 g' ∧ Wd X.K X.mg g' S' H' ∧ RpE X.K X.mg g' H' H0 σ' ρ' ∧ OutE X.K X.mg E g0 H0 (forL fg cl fb (ds.drop (i + 1)) ρ' S') _,
      fun σ' H' hN => ⟨ds.length - (i + 1), by omega, rfl, hN⟩, fun x H3 y => ?_⟩
    obtain ⟨g3, e3, w3, rx⟩ := hy x H3 y
    have e03 := e2.trans e3
    refine ⟨H0, g3, S2, ρ2, ds[i], w3, r2.ext w2 e3, rx, ?_⟩
    cases hz : fg ds[i] ρ2 with
    | none => simp only [forL, hz] at q2; exact q2.elim
    | some ρ3 =>
      simp only [forL, hz, opt_some, bnd_ret] at q2
      refine fun σ3 r3 _ _ => ⟨g0, H0, g3, S2, ρ3, e03, w3, r3, (OutE.bnd q2).imp fun fl S4 q4 => ?_⟩
      cases fl with
      | nx ρ4 => exact fun g' H' σ' e m w r => ⟨by omega, g', S4, clr cl ρ4, e, (m2.trans e3.mn).trans m, (m12.trans e3.mn).trans m, w, r.clr cl, q4⟩
      | ct ρ4 => exact fun g' H' σ' e m w r => ⟨by omega, g', S4, clr cl ρ4, e, (m2.trans e3.mn).trans m, (m12.trans e3.mn).trans m, w, r.clr cl, q4⟩
      | bk ρ4 => exact fun g' H' σ' e m w r => q4 g' H' σ' e ((m2.trans e3.mn).trans m) w (r.clr cl)
      | rt d => exact fun g' H' v e m w r => q4 g' H' v e ((m2.trans e3.mn).trans m) w r
  · have hi3 : i = ds.length := by omega
    subst hi3
    rw [List.drop_length] at q2
    exact .inl ⟨stop, q2 g2 H2 σ2 e2 m2 w2 r2⟩
def whileL (fc : Env → M Bool) (cl : List Nat) (fb : Env → M Fl) : Nat → Env → M Fl
  | 0, _ => stk
  | n + 1, ρ => bnd (fc ρ) fun b => if b = true then bnd (fb ρ) fun fl => (match fl with
      | .nx ρ2 => whileL fc cl fb n (clr cl ρ2)
      | .ct ρ2 => whileL fc cl fb n (clr cl ρ2)
      | .bk ρ2 => ret (.nx (clr cl ρ2))
      | .rt d => ret (.rt d)) else ret (.nx ρ)
theorem ds_while {c : Expr} {body : List Stmt} {cl : List Nat} {fc : Env → M Bool} {fb : Env → M Fl} (n : Nat) (hp : PassesOwn (model X.prog X.w) X.A X.env X.xe) (hc : DT X E c fc) (hb : DSs X E body fb) : DS X E (.While c body [] pos) (whileL fc cl fb n) := by
  refine PS.imp (ps_while hp hc hb) fun Dn σ H ⟨g0, H0, g, S, ρ, e0, w, r, q⟩ => ?_
  refine ⟨fun m σ H => ∃ g' S' ρ', Ext g0 H0 g' H ∧ Mn g g' ∧ Wd X.K X.mg g' S' H ∧ RpE X.K X.mg g' H H0 σ ρ' ∧ OutE X.K X.mg E g0 H0 (whileL fc cl fb m ρ' S') _, ⟨n, g, S, ρ, e0, Mn.refl, w, r, q⟩, ?_⟩
  rintro m σ1 H1 ⟨g1, S1, ρ1, e1, m1, w1, r1, q1⟩
  cases m with
  | zero => exact q1.elim
  | succ m =>
    refine ⟨H0, g1, S1, ρ1, w1, r1, (OutE.bnd q1).mono e1 fun b S2 q2 g2 H2 e2 w2 => ?_⟩
    cases b with
    | false => rw [if_neg Bool.false_ne_true]; exact q2 g2 H2 σ1 (e1.trans e2) (m1.trans e2.mn) w2 (r1.ext w1 e2)
    | true =>
      rw [if_pos rfl]
      simp only [if_true] at q2
      refine ⟨fun σ' H' => ∃ g' S' ρ', Ext g0 H0 g' H' ∧ Mn g g' ∧ Wd X.K X.mg g' S' H' ∧ RpE X.K X.mg g' H' H0 σ' ρ' ∧ OutE X.K X.mg E g0 H0 (whileL fc cl fb m ρ' S') _, fun σ' H' hN => ⟨m, Nat.lt_succ_self m, hN⟩, ?_⟩
      refine ⟨g0, H0, g2, S2, ρ1, e1.trans e2, w2, r1.ext w1 e2, (OutE.bnd q2).imp fun fl S4 q4 => ?_⟩
      cases fl with
      | nx ρ4 => exact fun g' H' σ' e m w r => ⟨g', S4, clr cl ρ4, e, (m1.trans e2.mn).trans m, w, r.clr cl, q4⟩
      | ct ρ4 => exact fun g' H' σ' e m w r => ⟨g', S4, clr cl ρ4, e, (m1.trans e2.mn).trans m, w, r.clr cl, q4⟩
      | bk ρ4 => exact fun g' H' σ' e m w r => q4 g' H' σ' e ((m1.trans e2.mn).trans m) w (r.clr cl)
      | rt d => exact fun g' H' v e m w r => q4 g' H' v e ((m1.trans e2.mn).trans m) w r

/-! ### comprehensions -/
def noX {α : Type} (m : M α) : M α := fun S => match m S with | .ok a S' => .ok a S' | _ => .stuck
theorem OutE.noX {α : Type} {K : PySem.W.Frag} {mg : Str → Option Value} {g : Gw} {H : Hp} {S : Store} {m : M α} {P : α → Store → Prop} (h : OutE K mg E g H (Dl.noX m S) P) {E' : XK} : OutE K mg E' g H (m S) P := by
  unfold Dl.noX at h
  cases q : m S with
  | ok a S' => rw [q] at h; exact h
  | exc c fs S' => rw [q] at h; exact h.elim
  | stuck => rw [q] at h; exact h.elim
def lcT (vs : List Nat) (fg : D → Env → Option Env) (ft : Env → M Bool) (fe : Env → M D) (ρ : Env) (d : D) : M (Option D) := noX (bnd (opt (fg d (clr vs ρ))) fun ρ1 => bnd (ft ρ1) fun b => if b = true then bnd (fe ρ1) fun y => ret (some y) else ret none)
def lcL (t : D → M (Option D)) : List D → M (List D)
  | [] => ret []
  | d :: ds => bnd (t d) fun o => bnd (lcL t ds) fun r => ret (o.toList ++ r)
def eLc (vs : List Nat) (fi : Env → M (List D)) (fg : D → Env → Option Env) (ft : Env → M Bool) (fe : Env → M D) : Env → M D := fun ρ => bnd (fi ρ) fun ds => bnd (lcL (lcT vs fg ft fe ρ) ds) mkL
def DTs (X : Cx) (E : XK) (es : List Expr) (f : Env → M Bool) : Prop := PTs X es (tDT X.K X.mg E f)
def tYs : Env → M Bool := fun _ => ret true
theorem PTs.imp {es : List Expr} {t t' : TT} (h : PTs X es t) (i : ∀ σ H Q, t' σ H Q → t σ H Q) : PTs X es t' := ⟨fun pins s σ H Q I q => h.run pins s σ H Q I (i σ H Q q)⟩
theorem dts_nil : DTs X E [] tYs := PTs.imp pts_nil fun σ H Q ⟨H0, g, S, ρ, w, r, q⟩ => q g H Ext.refl w
theorem dts_one {c : Expr} {ft : Env → M Bool} (h : DT X E c ft) : DTs X E [c] ft := pts_one h
abbrev E0' : XK := fun _ _ _ => False
theorem lc_red {vs sl : List Nat} {fi : Env → M (List D)} {fg : D → Env → Option Env} {ft : Env → M Bool} {fe : Env → M D} (hsl : ∀ i ∈ sl, i ∈ vs) {σ : St} {H : Hp} {Q : VK} (q : tDE X.K X.mg .F E (eLc vs fi fg ft fe) σ H Q) :
    tLc (fun σ H R => ∃ H0 g S ρ, Wd X.K X.mg g S H ∧ RpE X.K X.mg g H H0 σ ρ ∧ OutE X.K X.mg E g H (fi ρ S) fun ds S' => ∀ g' H' J, Ext g H g' H' → Wd X.K X.mg g' S' H' → ItOk X.K X.mg g' J ds → R J H')
      (tDG X.K X.mg sl fg) (tDT X.K X.mg E0' ft) (tDE X.K X.mg .P E0' fe) vs σ H Q := by
  obtain ⟨H0, g, S, ρ, w, r, q⟩ := q
  refine ⟨H0, g, S, ρ, w, r, (OutE.bnd q).imp fun ds S1 q1 g1 H1 J e1 w1 it => fun Ac hAc => ?_⟩
  have eA := e1.trans (Ext.laid (o := .lst []) hAc)
  have hn := w1.pnew hAc
  refine ⟨fun i m H' => m = ds.length - i ∧ i ≤ ds.length ∧ ∃ g' S' acc dacc, Ext g H g' H' ∧ Mn g1 g' ∧ Wd X.K X.mg g' S' H' ∧ H' Ac = some (.lst acc) ∧ RpAll X.K X.mg g' acc dacc ∧ g'.F Ac = none ∧ Ac ∉ g'.β ∧
      OutE X.K X.mg E g H (lcL (lcT vs fg ft fe ρ) (ds.drop i) S') fun out S'' => OutE X.K X.mg E g H (mkL (dacc ++ out) S'') fun d S3 => ∀ g' H' v, Ext g H g' H' → Wd X.K X.mg g' S3 H' → KR X.K X.mg .F H g' H' v d → Q v H',
    ⟨ds.length, by simp, Nat.zero_le _, g1, S1, [], [], eA, Mn.refl, w1.laid hAc, upd_same, .nil, hn.2, hn.1, OutE.bnd q1⟩, ?_⟩
  rintro i m H2 ⟨rfl, hi2, g2, S2, acc, dacc, e2, m2, w2, hac, racc, hF, hB, q2⟩
  obtain ⟨go, stop⟩ := it g2 S2 H2 m2 w2
  have hAcN : H Ac = none := by
    cases qq : H Ac with
    | none => rfl
    | some o => exact absurd hAc (e1.there Ac (by rw [qq]; exact fun z => nomatch z))
  by_cases hlt : i < ds.length
  · rw [drop_cons hlt] at q2
    obtain ⟨hgo, hy⟩ := go i ds[i] (List.getElem?_eq_getElem hlt)
    refine .inr ⟨hgo, fun H' => i + 1 ≤ ds.length ∧ ∃ g' S' acc dacc, Ext g H g' H' ∧ Mn g1 g' ∧ Wd X.K X.mg g' S' H' ∧ H' Ac = some (.lst acc) ∧ RpAll X.K X.mg g' acc dacc ∧ g'.F Ac = none ∧ Ac ∉ g'.β ∧
      OutE X.K X.mg E g H (lcL (lcT vs fg ft fe ρ) (ds.drop (i + 1)) S') fun out S'' => OutE X.K X.mg E g H (mkL (dacc ++ out) S'') fun d S3 => ∀ g' H' v, Ext g H g' H' → Wd X.K X.mg g' S3 H' → KR X.K X.mg .F H g' H' v d → Q v H',
      fun H' hN => ⟨ds.length - (i + 1), by omega, rfl, hN⟩, fun x H3 y => ?_⟩
    obtain ⟨g3, e3, w3, rx⟩ := hy x H3 y
    have e23 := e2.trans e3
    have keepA : ∀ {g4 : Gw} {H4 : Hp}, Ext g3 H3 g4 H4 → H4 Ac = some (.lst acc) ∧ g4.F Ac = none ∧ Ac ∉ g4.β := fun {g4 H4} e4 => by
      have e := e3.trans e4
      refine ⟨e.keep _ _ hac hB, ?_, fun hm => (e.bnew _ hm).elim hB fun z => by rw [hac] at z; cases z⟩
      cases qq : g4.F Ac with
      | none => rfl
      | some o => exact absurd hF (e.fnew Ac (by rw [hac]; exact fun z => nomatch z) (by rw [qq]; exact fun z => nomatch z))
    have r3 : RpE X.K X.mg g3 H3 H0 (wipe σ vs) (clr vs ρ) := (r.ext w e23).at_wipe vs
    refine ⟨H0, g3, S2, clr vs ρ, ds[i], w3, r3, rx, ?_⟩
    have q2' := OutE.noX (E' := E0') (OutE.bnd q2)
    cases hz : fg ds[i] (clr vs ρ) with
    | none => rw [hz] at q2'; exact q2'.elim
    | some ρ3 =>
      rw [hz] at q2'
      simp only [opt_some, bnd_ret] at q2'
      refine fun σ3 rr3 hl3 hs3 => ⟨?_, ?_⟩
      · refine (wipe_eq hl3 hs3 hsl).trans ?_
        exact wipe_eq (sl := vs) (wipe_length σ vs) (fun i hi => wipe_out hi) fun _ h => h
      refine ⟨H0, g3, S2, ρ3, w3, rr3, (OutE.bnd q2').mono e23 fun b S4 q4 g4 H4 e4 w4 => ?_⟩
      have e24 := e23.trans e4
      cases b with
      | false =>
        dsimp only
        rw [if_neg Bool.false_ne_true]
        obtain ⟨k1, k2, k3⟩ := keepA e4
        refine ⟨by omega, g4, S4, acc, dacc, e24, (m2.trans e3.mn).trans e4.mn, w4, k1, racc.ext (e3.trans e4), k2, k3, ?_⟩
        have q5 := OutE.bnd (show OutE X.K X.mg E g H ((lcL (lcT vs fg ft fe ρ) (ds.drop (i + 1)) S4).next fun r => ret (Option.toList (none : Option D) ++ r)) _ from q4)
        exact q5.imp fun out S5 q6 => q6
      | true =>
        dsimp only
        rw [if_pos rfl]
        simp only [if_true] at q4
        refine ⟨H0, g4, S4, ρ3, w4, rr3.ext w3 e4, (OutE.bnd q4).mono e24 fun y S5 q5 g5 H5 v e5 w5 kr => ?_⟩
        have e25 := e24.trans e5
        obtain ⟨k1, k2, k3⟩ := keepA (e4.trans e5)
        have kr : Rp X.K X.mg g5 v y := kr
        have q6 := OutE.bnd (show OutE X.K X.mg E g H ((lcL (lcT vs fg ft fe ρ) (ds.drop (i + 1)) S5).next fun r => ret (Option.toList (some y) ++ r)) _ from q5)
        refine ⟨acc, k1, ?_, by omega, ?_⟩
        · -- room
          have hl := racc.length
          cases hq : lcL (lcT vs fg ft fe ρ) (ds.drop (i + 1)) S5 with
          | ok out S6 =>
            rw [hq] at q6
            have q7 : OutE X.K X.mg E g H (mkL (dacc ++ (Option.toList (some y) ++ out)) S6) _ := q6
            unfold mkL at q7
            split at q7
            · rename_i hle
              simp at hle
              omega
            · exact q7.elim
          | exc c fs S6 =>
            exfalso
            rw [hq] at q6
            -- an exception can't come: every turn is without one
            have none_exc : ∀ (l : List D) (S : Store) c fs S', lcL (lcT vs fg ft fe ρ) l S ≠ .exc c fs S' := by
              intro l
              induction l with
              | nil => intro S c fs S' h; cases h
              | cons d l ih =>
                intro S c fs S' h
                unfold lcL bnd Out.next at h
                cases h1 : lcT vs fg ft fe ρ d S with
                | ok o S1 =>
                  rw [h1] at h
                  cases h2 : lcL (lcT vs fg ft fe ρ) l S1 with
                  | ok r S2 => simp only [bnd, Out.next, h2] at h; cases h
                  | exc c2 f2 S2 => exact ih _ _ _ _ h2
                  | stuck => simp only [bnd, Out.next, h2] at h; cases h
                | exc c1 f1 S1 =>
                  unfold lcT noX at h1
                  split at h1 <;> cases h1
                | stuck => rw [h1] at h; cases h
            exact none_exc _ _ _ _ _ hq
          | stuck => rw [hq] at q6; exact q6.elim
        · refine ⟨g5, S5, acc ++ [v], dacc ++ [y], ?_, ((m2.trans e3.mn).trans e4.mn).trans e5.mn, ?_, upd_same, (racc.ext ((e3.trans e4).trans e5)).append (.cons kr .nil), k2, k3, ?_⟩
          · -- the new list has grown
            refine ⟨e25.box, e25.fz, fun a o ho hb => ?_, fun a ha => ?_, e25.fnew, e25.bnew⟩
            · rw [upd_ne (ne_of_none ho hAcN)]
              exact e25.keep a o ho hb
            · by_cases ea : a = Ac
              · subst ea; rw [upd_same]; exact fun z => nomatch z
              · rw [upd_ne ea]; exact e25.there a ha
          · refine ⟨fun a o h => ?_, w5.nd, w5.len, w5.bfz, fun j a b h1 h2 => ?_⟩
            · have : a ≠ Ac := by rintro rfl; rw [k2] at h; cases h
              rw [upd_ne this]
              exact w5.sub a o h
            · refine (w5.box j a b h1 h2).mono (List.prefix_refl _) (fun _ _ h => h) (upd_ne ?_)
              rintro rfl
              exact k3 (List.mem_of_getElem? h1)
          · exact q6.imp fun out S6 q7 => by
              have q8 : OutE X.K X.mg E g H (mkL (dacc ++ ([y] ++ out)) S6) _ := q7
              rw [← List.append_assoc] at q8
              exact q8
  · have hi3 : i = ds.length := by omega
    subst hi3
    rw [List.drop_length] at q2
    refine .inl ⟨stop, ?_⟩
    have q3 : OutE X.K X.mg E g H (mkL (dacc ++ []) S2) _ := q2
    rw [List.append_nil] at q3
    unfold mkL at q3
    split at q3
    · exact q3 g2 H2 _ e2 w2 (.inr ⟨Ac, acc, dacc, rfl, rfl, hac, racc, hF, hB, hAcN⟩)
    · exact q3.elim
theorem de_lc {elt iter : Expr} {ifs : List Expr} {scope : Scope} {own : List (Str × Nat)} {sl : List Nat} {fi : Env → M (List D)} {fg : D → Env → Option Env} {ft : Env → M Bool} {fe : Env → M D} (hc : X.calm = true) (hN : X.N.Nodup)
    (hi : DI X E tg iter fi) (ok : BlkOk X.N X.env.scope scope own)
    (hg : ∀ (s : Shared) (H : Hp) (C : Addr) (cl : List (Str × Addr)) (fp : List Addr), DG (X.blk s H scope (compEnvC scope cl C X.env) fp) sl tg fg)
    (ht : ∀ (s : Shared) (H : Hp) (C : Addr) (cl : List (Str × Addr)) (fp : List Addr), DTs (X.blk s H scope (compEnvC scope cl C X.env) fp) E0' ifs ft)
    (he : ∀ (s : Shared) (H : Hp) (C : Addr) (cl : List (Str × Addr)) (fp : List Addr), DE .P (X.blk s H scope (compEnvC scope cl C X.env) fp) E0' elt fe)
    (hsl : ∀ i ∈ sl, i ∈ own.map (·.2)) (hs : ∀ x, foldedSetIterable iter X.env x = pure x := by intro _; rfl) : DE .F X E (.ListComp elt [⟨tg, iter, ifs, 0⟩] scope pos) (eLc (own.map (·.2)) fi fg ft fe) :=
  PE.imp (pe_lc (g := tDG X.K X.mg sl fg) (tt := tDT X.K X.mg E0' ft) (te := tDE X.K X.mg .P E0' fe) hc hN hi ok hg ht he hs) fun σ H Q q => lc_red hsl q
end
end Dl

set_option Elab.async false
set_option linter.all false
set_option maxRecDepth 100000
set_option autoImplicit false
namespace Dl
open PySem PySem.Spec L2
open PyProof.Rows hiding St

section
variable {K : PySem.W.Frag} {mg : Str → Option Value} {g g' g'' : Gw} {H H' H'' H0 : Hp} {S S' : Store} {σ σ' : St} {ρ ρ' : Env}
/-- a new list becomes a name's own -/
theorem RpE.setO (r : RpE K mg g H H0 σ ρ) (i : Nat) {a : Addr} {vs : List V} {ds : List D} (h1 : H a = some (.lst vs)) (h2 : RpAll K mg g vs ds) (h3 : g.F a = none) (h4 : a ∉ g.β) (h5 : H0 a = none)
    (hne : ∀ (j : Nat) (d : D), ρ[j]? = some (.own d) → σ[j]? ≠ some (some (.ref a))) : RpE K mg g H H0 (σ.set i (some (.ref a))) (ρ.set i (.own (.lst ds))) where
  len := by rw [List.length_set, List.length_set]; exact r.len
  at_ := fun j s e => by
    rcases set_get e with ⟨rfl, rfl⟩ | ⟨hn, e⟩
    · have hl : j < σ.length := by
        rw [← r.len]
        have := (List.getElem?_eq_some_iff.mp e).1
        simpa using this
      exact ⟨a, vs, ds, rfl, by rw [List.getElem?_set_self hl], h1, h2, h3, h4, h5⟩
    · rw [List.getElem?_set_ne (fun z => hn z.symm)]
      exact r.at_ j s e
  sep := fun j l d1 d2 hjl e1 e2 => by
    rcases set_get e1 with ⟨rfl, q1⟩ | ⟨n1, e1'⟩
    · rcases set_get e2 with ⟨rfl, _⟩ | ⟨n2, e2'⟩
      · exact absurd rfl hjl
      · have hl : j < σ.length := by
          rw [← r.len]
          have := (List.getElem?_eq_some_iff.mp e1).1
          simpa using this
        rw [List.getElem?_set_self hl, List.getElem?_set_ne (fun z => n2 z.symm)]
        exact fun z => hne l d2 e2' z.symm
    · rcases set_get e2 with ⟨rfl, q2⟩ | ⟨n2, e2'⟩
      · have hl : l < σ.length := by
          rw [← r.len]
          have := (List.getElem?_eq_some_iff.mp e2).1
          simpa using this
        rw [List.getElem?_set_self hl, List.getElem?_set_ne (fun z => n1 z.symm)]
        exact hne j d1 e1'
      · rw [List.getElem?_set_ne (fun z => n1 z.symm), List.getElem?_set_ne (fun z => n2 z.symm)]
        exact r.sep j l d1 d2 hjl e1' e2'
/-- an own list is changed in place -/
theorem own_upd (e0 : Ext g'' H'' g H) (w : Wd K mg g S H) (r : RpE K mg g H H'' σ ρ) {i : Nat} {ds es : List D} (hi : ρ[i]? = some (.own (.lst ds))) {ws : List V} (hw : RpAll K mg g ws es) :
    ∃ a vs, σ[i]? = some (some (.ref a)) ∧ H a = some (.lst vs) ∧ RpAll K mg g vs ds ∧
      Ext g'' H'' g (upd H a (.lst ws)) ∧ Wd K mg g S (upd H a (.lst ws)) ∧ RpE K mg g (upd H a (.lst ws)) H'' σ (ρ.set i (.own (.lst es))) := by
  obtain ⟨a, vs, ds', hd, h1, h2, h3, h4, h5, h6⟩ := r.at_ i _ hi
  cases hd
  have hl : i < ρ.length := (List.getElem?_eq_some_iff.mp hi).1
  refine ⟨a, vs, h1, h2, h3, ⟨e0.box, e0.fz, fun b o hb nb => ?_, fun b hb => ?_, e0.fnew, e0.bnew⟩, ⟨fun b o hb => ?_, w.nd, w.len, w.bfz, fun j b bx hj1 hj2 => ?_⟩, ⟨?_, fun j s e => ?_, fun j l d1 d2 hjl e1 e2 => ?_⟩⟩
  · rw [upd_ne (ne_of_none hb h6)]; exact e0.keep b o hb nb
  · by_cases q : b = a
    · subst q; rw [upd_same]; exact fun z => nomatch z
    · rw [upd_ne q]; exact e0.there b hb
  · have : b ≠ a := by rintro rfl; rw [h4] at hb; cases hb
    rw [upd_ne this]; exact w.sub b o hb
  · refine (w.box j b bx hj1 hj2).mono (List.prefix_refl _) (fun _ _ h => h) (upd_ne ?_)
    rintro rfl
    exact h5 (List.mem_of_getElem? hj1)
  · rw [List.length_set]; exact r.len
  · rcases set_get e with ⟨rfl, rfl⟩ | ⟨hn, e⟩
    · exact ⟨a, ws, es, rfl, h1, upd_same, hw, h4, h5, h6⟩
    · have q := r.at_ j s e
      cases s with
      | emp => trivial
      | dat d => exact q
      | own d =>
        obtain ⟨b, us, fs, hd, k1, k2, k3, k4, k5, k6⟩ := q
        have : b ≠ a := by
          rintro rfl
          exact r.sep j i _ _ hn e hi (k1.trans h1.symm)
        exact ⟨b, us, fs, hd, k1, by rw [upd_ne this]; exact k2, k3, k4, k5, k6⟩
  · have f : ∀ {m : Nat} {d : D}, (ρ.set i (.own (.lst es)))[m]? = some (.own d) → ∃ d', ρ[m]? = some (.own d') := fun {m d} h => by
      rcases set_get h with ⟨rfl, _⟩ | ⟨_, h⟩
      · exact ⟨_, hi⟩
      · exact ⟨_, h⟩
    obtain ⟨d1', q1⟩ := f e1
    obtain ⟨d2', q2⟩ := f e2
    exact r.sep j l _ _ hjl q1 q2
end

section
variable {X : Cx} {E : XK} {e a b : Expr} {st : Stmt} {sts : List Stmt} {f h : Env → M D} {fs hs' : Env → M Fl} {fb : Env → M Bool} {fa : Env → M (List D)} {pos : Pos}

/-! ### blocks -/
def sNil : Env → M Fl := fun ρ => ret (.nx ρ)
def sSeq (f h : Env → M Fl) : Env → M Fl := fun ρ => bnd (f ρ) fun fl => match fl with
  | .nx ρ' => h ρ'
  | .rt d => ret (.rt d)
  | .bk ρ' => ret (.bk ρ')
  | .ct ρ' => ret (.ct ρ')
theorem dss_nil : DSs X E [] sNil := PSs.imp pss_nil fun Dn σ H ⟨g0, H0, g, S, ρ, e, w, r, q⟩ => q g H σ e Mn.refl w r
theorem dss_one (h1 : DS X E st fs) : DSs X E [st] fs := pss_one h1
theorem dss_cons (h1 : DS X E st fs) (h2 : DSs X E sts hs') : DSs X E (st :: sts) (sSeq fs hs') := PSs.imp (pss_cons h1 h2) fun Dn σ H ⟨g0, H0, g, S, ρ, e, w, r, q⟩ => by
  refine ⟨g0, H0, g, S, ρ, e, w, r, (OutE.bnd q).imp fun fl S1 q1 => ?_⟩
  cases fl with
  | nx ρ' => exact fun g' H' σ' e m w r => ⟨g0, H0, g', S1, ρ', e, w, r, OutE.imp q1 fun fl S2 q2 => by
      cases fl with
      | nx ρ2 => exact fun g2 H2 σ2 e2 m2 w2 r2 => q2 g2 H2 σ2 e2 (m.trans m2) w2 r2
      | rt d => exact fun g2 H2 v2 e2 m2 w2 r2 => q2 g2 H2 v2 e2 (m.trans m2) w2 r2
      | bk ρ2 => exact fun g2 H2 σ2 e2 m2 w2 r2 => q2 g2 H2 σ2 e2 (m.trans m2) w2 r2
      | ct ρ2 => exact fun g2 H2 σ2 e2 m2 w2 r2 => q2 g2 H2 σ2 e2 (m.trans m2) w2 r2⟩
  | rt d => exact q1
  | bk ρ' => exact q1
  | ct ρ' => exact q1
/-- an own list is frozen (nothing runs) -/
def sFz (i : Nat) (h : Env → M Fl) : Env → M Fl := fun ρ => match ρ[i]? with | some (.own d) => h (ρ.set i (.dat d)) | _ => h ρ
theorem dss_fz (i : Nat) (h1 : DSs X E sts fs) : DSs X E sts (sFz i fs) := PSs.imp h1 fun Dn σ H ⟨g0, H0, g, S, ρ, e, w, r, q⟩ => by
  have go : ∀ d, ρ[i]? = some (.own d) → (sFz i fs ρ S = fs (ρ.set i (.dat d)) S) → tDS X.K X.mg E fs Dn σ H := fun d hi hq => by
    rw [hq] at q
    obtain ⟨a, vs, ds, rfl, k1, k2, k3, k4, k5, k6⟩ := r.at_ i _ hi
    have m : Mn g ⟨g.β, upd g.F a (.lst vs)⟩ := ⟨List.prefix_refl _, fz_upd k4⟩
    refine ⟨g0, H0, ⟨g.β, upd g.F a (.lst vs)⟩, S, _, e.frozen k4 k6, w.frozen k2 k5 k4, ⟨by rw [List.length_set]; exact r.len, fun j s hj => ?_, fun j l d1 d2 hjl e1 e2 => ?_⟩, OutE.imp q fun fl S2 q2 => ?_⟩
    · rcases set_get hj with ⟨rfl, rfl⟩ | ⟨hn, hj⟩
      · exact ⟨_, k1, .lst upd_same (k3.fzn k4)⟩
      · have q := r.at_ j s hj
        cases s with
        | emp => trivial
        | dat d => obtain ⟨v, q1, q2⟩ := q; exact ⟨v, q1, q2.mn m⟩
        | own d =>
          obtain ⟨b, us, fs, hd, l1, l2, l3, l4, l5, l6⟩ := q
          have hne : b ≠ a := by
            rintro rfl
            exact r.sep j i _ _ hn hj hi (l1.trans k1.symm)
          exact ⟨b, us, fs, hd, l1, l2, l3.mn m, by show (upd g.F a (.lst vs)) b = none; rw [upd_ne hne]; exact l4, l5, l6⟩
    · have f : ∀ {n : Nat} {d : D}, (ρ.set i (.dat (.lst ds)))[n]? = some (.own d) → ρ[n]? = some (.own d) := fun {n d} h => by
        rcases set_get h with ⟨_, q⟩ | ⟨_, h⟩
        · cases q
        · exact h
      exact r.sep j l _ _ hjl (f e1) (f e2)
    · cases fl with
      | nx ρ2 => exact fun g2 H2 σ2 e2 m2 w2 r2 => q2 g2 H2 σ2 e2 (m.trans m2) w2 r2
      | rt d => exact fun g2 H2 v2 e2 m2 w2 r2 => q2 g2 H2 v2 e2 (m.trans m2) w2 r2
      | bk ρ2 => exact fun g2 H2 σ2 e2 m2 w2 r2 => q2 g2 H2 σ2 e2 (m.trans m2) w2 r2
      | ct ρ2 => exact fun g2 H2 σ2 e2 m2 w2 r2 => q2 g2 H2 σ2 e2 (m.trans m2) w2 r2
  cases hi : ρ[i]? with
  | none => exact ⟨g0, H0, g, S, ρ, e, w, r, by simp only [sFz, hi] at q; exact q⟩
  | some s =>
    cases s with
    | emp => exact ⟨g0, H0, g, S, ρ, e, w, r, by simp only [sFz, hi] at q; exact q⟩
    | dat d => exact ⟨g0, H0, g, S, ρ, e, w, r, by simp only [sFz, hi] at q; exact q⟩
    | own d => exact go d hi (by simp only [sFz, hi])

/-! ### statements -/
theorem OutE.bnd0 {α β : Type} {K : PySem.W.Frag} {mg : Str → Option Value} {g0 g : Gw} {H0 H : Hp} {m : Out α} {k : α → M β} {P : β → Store → Prop} (h : OutE K mg E g0 H0 (m.next k) P) (e : Ext g0 H0 g H) :
    OutE K mg E g H m fun a S' => OutE K mg E g0 H0 (k a S') P := OutE.mono (OutE.bnd h) e fun _ _ q => q
def sRet (f : Env → M D) : Env → M Fl := fun ρ => bnd (f ρ) fun d => ret (.rt d)
theorem ds_ret (h1 : DE .P X E e f) : DS X E (.Return (some e) pos) (sRet f) := PS.imp (ps_ret h1) fun Dn σ H ⟨g0, H0, g, S, ρ, e, w, r, q⟩ =>
  ⟨H0, g, S, ρ, w, r, (OutE.bnd0 q e).imp fun d S1 q1 g1 H1 v e1 w1 kr => q1 g1 H1 v (e.trans e1) e1.mn w1 kr⟩
def sIf (t : Env → M Bool) (f h : Env → M Fl) : Env → M Fl := fun ρ => bnd (t ρ) fun b => if b = true then f ρ else h ρ
theorem OutE.flm {K : PySem.W.Frag} {mg : Str → Option Value} {g0 g g1 : Gw} {H0 H H1 : Hp} {S1 : Store} {o : Out Fl} {Dn : Ends} (m : Mn g g1) (q : OutE K mg E g0 H0 o fun fl S' => match fl with
    | .nx ρ' => ∀ g' H' σ', Ext g0 H0 g' H' → Mn g g' → Wd K mg g' S' H' → RpE K mg g' H' H0 σ' ρ' → Dn.nx σ' H'
    | .rt d => ∀ g' H' v, Ext g0 H0 g' H' → Mn g g' → Wd K mg g' S' H' → Rp K mg g' v d → Dn.rt v H'
    | .bk ρ' => ∀ g' H' σ', Ext g0 H0 g' H' → Mn g g' → Wd K mg g' S' H' → RpE K mg g' H' H0 σ' ρ' → Dn.bk σ' H'
    | .ct ρ' => ∀ g' H' σ', Ext g0 H0 g' H' → Mn g g' → Wd K mg g' S' H' → RpE K mg g' H' H0 σ' ρ' → Dn.ct σ' H') :
    OutE K mg E g0 H0 o fun fl S' => match fl with
    | .nx ρ' => ∀ g' H' σ', Ext g0 H0 g' H' → Mn g1 g' → Wd K mg g' S' H' → RpE K mg g' H' H0 σ' ρ' → Dn.nx σ' H'
    | .rt d => ∀ g' H' v, Ext g0 H0 g' H' → Mn g1 g' → Wd K mg g' S' H' → Rp K mg g' v d → Dn.rt v H'
    | .bk ρ' => ∀ g' H' σ', Ext g0 H0 g' H' → Mn g1 g' → Wd K mg g' S' H' → RpE K mg g' H' H0 σ' ρ' → Dn.bk σ' H'
    | .ct ρ' => ∀ g' H' σ', Ext g0 H0 g' H' → Mn g1 g' → Wd K mg g' S' H' → RpE K mg g' H' H0 σ' ρ' → Dn.ct σ' H' := q.imp fun fl S2 q2 => by
  cases fl with
  | nx ρ2 => exact fun g2 H2 σ2 e2 m2 w2 r2 => q2 g2 H2 σ2 e2 (m.trans m2) w2 r2
  | rt d => exact fun g2 H2 v2 e2 m2 w2 r2 => q2 g2 H2 v2 e2 (m.trans m2) w2 r2
  | bk ρ2 => exact fun g2 H2 σ2 e2 m2 w2 r2 => q2 g2 H2 σ2 e2 (m.trans m2) w2 r2
  | ct ρ2 => exact fun g2 H2 σ2 e2 m2 w2 r2 => q2 g2 H2 σ2 e2 (m.trans m2) w2 r2
theorem ds_if {c : Expr} {t1 t2 : List Stmt} (hc : DT X E c fb) (h1 : DSs X E t1 fs) (h2 : DSs X E t2 hs') : DS X E (.If c t1 t2 pos) (sIf fb fs hs') := PS.imp (ps_if hc h1 h2) fun Dn σ H ⟨g0, H0, g, S, ρ, e, w, r, q⟩ =>
  ⟨H0, g, S, ρ, w, r, (OutE.bnd0 q e).imp fun b S1 q1 g1 H1 e1 w1 => by
    cases b with
    | true => exact ⟨g0, H0, g1, S1, ρ, e.trans e1, w1, r.ext w e1, OutE.flm (S1 := S1) (H := H) (H1 := H1) e1.mn q1⟩
    | false => exact ⟨g0, H0, g1, S1, ρ, e.trans e1, w1, r.ext w e1, OutE.flm (S1 := S1) (H := H) (H1 := H1) e1.mn q1⟩⟩
theorem ds_pass : DS X E (.Pass pos) sNil := PS.imp ps_pass fun Dn σ H ⟨g0, H0, g, S, ρ, e, w, r, q⟩ => q g H σ e Mn.refl w r
/-- x = e, data -/
def sSet (i : Nat) (f : Env → M D) : Env → M Fl := fun ρ => bnd (f ρ) fun d => ret (.nx (ρ.set i (.dat d)))
theorem ds_set (i : Nat) {x : Str} {pos' : Pos} (hN : X.N.Nodup) (h1 : DE .P X E e f) (hi : X.N[i]? = some x := by rfl) (hx : Loc X.env.scope x := by first | exact .inl rfl | exact .inr rfl)
    (hs : swapsWith e (some (.Name x pos')) pos.line X.env = pure false := by rfl) (hf : X.fn x = true ∨ X.env.scope.names.lookup x = some .local := by first | exact .inl rfl | exact .inr rfl) : DS X E (.Assign [.Name x pos'] e pos) (sSet i f) :=
  PS.imp (ps_set hN hi hx h1 hs hf) fun Dn σ H ⟨g0, H0, g, S, ρ, e, w, r, q⟩ =>
    ⟨H0, g, S, ρ, w, r, (OutE.bnd0 q e).imp fun d S1 q1 g1 H1 v e1 w1 kr => q1 g1 H1 _ (e.trans e1) e1.mn w1 ((r.ext w e1).setD i kr)⟩
/-- x = e, e a new list that will be changed -/
def asL : D → M D
  | .lst ds => ret (.lst ds)
  | _ => stk
def sOwn (i : Nat) (f : Env → M D) : Env → M Fl := fun ρ => bnd (f ρ) fun d => bnd (asL d) fun d => ret (.nx (ρ.set i (.own d)))
theorem ds_own (i : Nat) {x : Str} {pos' : Pos} (hN : X.N.Nodup) (h1 : DE .F X E e f) (hi : X.N[i]? = some x := by rfl) (hx : Loc X.env.scope x := by first | exact .inl rfl | exact .inr rfl)
    (hs : swapsWith e (some (.Name x pos')) pos.line X.env = pure false := by rfl) (hf : X.fn x = true ∨ X.env.scope.names.lookup x = some .local := by first | exact .inl rfl | exact .inr rfl) : DS X E (.Assign [.Name x pos'] e pos) (sOwn i f) :=
  PS.imp (ps_set hN hi hx h1 hs hf) fun Dn σ H ⟨g0, H0, g, S, ρ, e, w, r, q⟩ =>
    ⟨H0, g, S, ρ, w, r, (OutE.bnd0 q e).imp fun d S1 q1 g1 H1 v e1 w1 kr => by
      cases d <;> try exact q1.elim
      rename_i dl
      rcases kr with ⟨_, kr⟩ | ⟨a, vs, ds, rfl, hd, k1, k2, k3, k4, k5⟩
      · cases kr
      cases hd
      refine q1 g1 H1 _ (e.trans e1) e1.mn w1 ((r.ext w e1).setO i k1 k2 k3 k4 ?_ fun j d hj hσ => ?_)
      · cases qq : H0 a with
        | none => rfl
        | some o => exact absurd k5 (e.there a (by rw [qq]; exact fun z => nomatch z))
      · obtain ⟨b, us, fs, hd, l1, l2, l3, l4, l5, l6⟩ := r.at_ j _ hj
        rw [l1] at hσ
        cases hσ
        rw [l2] at k5
        cases k5⟩
/-- e as a statement -/
def sDrop (f : Env → M D) : Env → M Fl := fun ρ => bnd (f ρ) fun _ => ret (.nx ρ)
theorem ds_expr (h1 : DE .B X E e f) (hs : swapsWith e none pos.line X.env = pure false := by rfl) : DS X E (.Expr e pos) (sDrop f) := PS.imp (ps_expr h1 hs) fun Dn σ H ⟨g0, H0, g, S, ρ, e, w, r, q⟩ =>
  ⟨H0, g, S, ρ, w, r, (OutE.bnd0 q e).imp fun d S1 q1 g1 H1 v e1 w1 kr => q1 g1 H1 σ (e.trans e1) e1.mn w1 (r.ext w e1)⟩
theorem ds_doc {x : Str} {j : Nat} {pos' : Pos} : DS X E (.Expr (.Constant (.str x) j pos) pos') sNil := PS.imp ps_doc fun Dn σ H ⟨g0, H0, g, S, ρ, e, w, r, q⟩ => q g H σ e Mn.refl w r
end
end Dl

set_option Elab.async false
set_option linter.all false
set_option maxRecDepth 100000
set_option autoImplicit false
namespace Dl
open PySem PySem.Spec L2
open PyProof.Rows hiding St

section
variable {X : Cx} {E : XK} {e a b : Expr} {es : List Expr} {st : Stmt} {sts : List Stmt} {f h f1 f2 : Env → M D} {fs hs' : Env → M Fl} {fb : Env → M Bool} {fa : Env → M (List D)} {pos : Pos}
/-! ### own lists changed in place -/
def atOwn (ρ : Env) (i : Nat) (k : List D → M Fl) : M Fl := match ρ[i]? with
  | some (.own (.lst ds)) => k ds
  | _ => stk
theorem atOwn_inv {ρ : Env} {i : Nat} {k : List D → M Fl} {S : Store} {K : PySem.W.Frag} {mg : Str → Option Value} {g : Gw} {H : Hp} {P : Fl → Store → Prop} (h : OutE K mg E g H (atOwn ρ i k S) P) : ∃ ds, ρ[i]? = some (.own (.lst ds)) ∧ OutE K mg E g H (k ds S) P := by
  cases hi : ρ[i]? with
  | none => simp only [atOwn, hi] at h; exact h.elim
  | some s =>
    cases s with
    | emp => simp only [atOwn, hi] at h; exact h.elim
    | dat d => simp only [atOwn, hi] at h; exact h.elim
    | own d =>
      cases d with
      | lst ds => simp only [atOwn, hi] at h; exact ⟨ds, rfl, h⟩
      | _ => simp only [atOwn, hi] at h; exact h.elim
/-- x.append(e) -/
def sApp (i : Nat) (fa : Env → M (List D)) : Env → M Fl := fun ρ => atOwn ρ i fun ds => bnd (fa ρ) fun xs => match xs with
  | [d] => if ds.length < sizeLine then ret (.nx (ρ.set i (.own (.lst (ds ++ [d]))))) else stk
  | _ => stk
theorem ds_append (i : Nat) {ce : Expr} (h1 : DA .P X E es fa) (hP : PA X es (tDA X.K X.mg .P E fa) → PE X ce (tBM X.K "list" rAppend (tVar i) (tDA X.K X.mg .P E fa))) (hs : swapsWith ce none pos.line X.env = pure false := by rfl) :
    DS X E (.Expr ce pos) (sApp i fa) := by
  refine PS.imp (ps_expr (hP h1) hs) fun Dn σ H ⟨g0, H0, g, S, ρ, e0, w, r, q⟩ => ?_
  obtain ⟨ds, hi, q⟩ := atOwn_inv q
  obtain ⟨a, vs, ds', hd, k1, k2, k3, k4, k5, k6⟩ := r.at_ i _ hi
  cases hd
  refine ⟨.ref a, k1, .inl ⟨rfl, _, SqL.of k2⟩, H0, g, S, ρ, w, r, (OutE.bnd0 q e0).imp fun xs S1 q1 g1 H1 us e1 w1 kr => ?_⟩
  have kr : RpAll X.K X.mg g1 us xs := kr
  cases kr with
  | nil => exact q1.elim
  | cons r1 rr =>
    cases rr with
    | cons _ _ => exact q1.elim
    | nil =>
      have r' := r.ext w e1
      have k2' := e1.keep _ _ k2 k5
      have k3' := k3.ext e1
      obtain ⟨a', vs', m1, m2, m3, m4, m5, m6⟩ := own_upd (e0.trans e1) w1 r' hi (ws := vs ++ [_]) (k3'.append (.cons r1 .nil))
      rw [k1] at m1; cases m1
      simp only at q1
      split at q1
      · exact ⟨a, vs, _, rfl, rfl, k2', by rw [k3.length]; assumption, q1 g1 _ σ m4 e1.mn m5 m6⟩
      · exact q1.elim
/-- x[j] = e -/
def sSetIx (i : Nat) (fi fe : Env → M D) : Env → M Fl := fun ρ => atOwn ρ i fun ds => bnd (fe ρ) fun d => bnd (fi ρ) fun k => match k with
  | .int k => match ixN ds.length k with
    | some j => ret (.nx (ρ.set i (.own (.lst (ds.set j d)))))
    | none => stk
  | _ => stk
theorem ds_setIx (i : Nat) {ix : Expr} (hv : DE .P X E e f) (hi' : DE .B X E ix h) (hP : PE X e (tDE X.K X.mg .P E f) → PE X ix (tDE X.K X.mg .B E h) → PS X st (tAsg (tDE X.K X.mg .P E f) (gSub (tVar i) (tDE X.K X.mg .B E h) rSetL))) :
    DS X E st (sSetIx i h f) := by
  refine PS.imp (hP hv hi') fun Dn σ H ⟨g0, H0, g, S, ρ, e0, w, r, q⟩ => ?_
  obtain ⟨ds, hi, q⟩ := atOwn_inv q
  refine ⟨H0, g, S, ρ, w, r, (OutE.bnd0 q e0).imp fun d S1 q1 g1 H1 v e1 w1 kr => ?_⟩
  have r1 := r.ext w e1
  obtain ⟨a, vs, ds', hd, k1, k2, k3, k4, k5, k6⟩ := r1.at_ i _ hi
  cases hd
  refine ⟨.ref a, k1, H0, g1, S1, ρ, w1, r1, (OutE.bnd0 q1 (e0.trans e1)).imp fun k S2 q2 g2 H2 u e2 w2 kr2 => ?_⟩
  cases k <;> try exact q2.elim
  rename_i k
  cases hj : ixN ds.length k with
  | none => simp only [hj] at q2; exact q2.elim
  | some j =>
    simp only [hj] at q2
    cases RB.int kr2
    have k2' := e2.keep _ _ k2 k5
    obtain ⟨a', vs', m1, m2, m3, m4, m5, m6⟩ := own_upd ((e0.trans e1).trans e2) w2 (r1.ext w1 e2) hi (ws := vs.set j v) (RpAll.set (Rp.ext e2 kr) j (k3.ext e2))
    rw [k1] at m1; cases m1
    exact ⟨a, vs, k, j, rfl, rfl, k2', by rw [k3.length]; exact hj, q2 g2 _ σ m4 (e1.mn.trans e2.mn) m5 m6⟩
/-- a box's list: x[j] = e -/
def sSetBox (fo fi fe : Env → M D) : Env → M Fl := fun ρ => bnd (fe ρ) fun d => bnd (fo ρ) fun o => bnd (fi ρ) fun k => match o, k with
  | .box n, .int k => fun S => (match (S[n]? : Option Bx) with
    | some (.lst ds) => (match ixN ds.length k with
      | some j => .ok (.nx ρ) (List.set S n (.lst (ds.set j d)))
      | none => .stuck)
    | none => .stuck)
  | _, _ => stk
theorem box_upd {K : PySem.W.Frag} {mg : Str → Option Value} {g g0 : Gw} {H H0 : Hp} {S : Store} {σ : St} {ρ : Env} (e0 : Ext g0 H0 g H) (w : Wd K mg g S H) (r : RpE K mg g H H0 σ ρ) {n : Nat} {a : Addr} {ds : List D} (hn : g.β[n]? = some a) {ws : List V} (hw : RpAll K mg g ws ds) (hb0 : a ∈ g0.β ∨ H0 a = none) :
    Ext g0 H0 g (upd H a (.lst ws)) ∧ Wd K mg g (List.set S n (.lst ds)) (upd H a (.lst ws)) ∧ RpE K mg g (upd H a (.lst ws)) H0 σ ρ := by
  have ha : a ∈ g.β := List.mem_of_getElem? hn
  have hln : n < S.length := by rw [← w.len]; exact (List.getElem?_eq_some_iff.mp hn).1
  have hF := w.bfz a ha
  refine ⟨⟨e0.box, e0.fz, fun b o hb nb => ?_, fun b hb => ?_, e0.fnew, e0.bnew⟩, ⟨fun b o hb => ?_, w.nd, by rw [List.length_set]; exact w.len, w.bfz, fun j b bx hj1 hj2 => ?_⟩, ⟨r.len, fun j s hj => ?_, r.sep⟩⟩
  · have : b ≠ a := by
      rintro rfl
      rcases hb0 with z | z
      · exact nb z
      · rw [hb] at z; cases z
    rw [upd_ne this]; exact e0.keep b o hb nb
  · by_cases q : b = a
    · subst q; rw [upd_same]; exact fun z => nomatch z
    · rw [upd_ne q]; exact e0.there b hb
  · have : b ≠ a := by rintro rfl; rw [hF] at hb; cases hb
    rw [upd_ne this]; exact w.sub b o hb
  · by_cases q : n = j
    · subst q
      rw [hn] at hj1; cases hj1
      rw [List.getElem?_set_self hln] at hj2
      cases hj2
      exact ⟨ws, upd_same, hw⟩
    · rw [List.getElem?_set_ne q] at hj2
      refine (w.box j b bx hj1 hj2).mono (List.prefix_refl _) (fun _ _ h => h) (upd_ne ?_)
      rintro rfl
      have h1 := (List.getElem?_eq_some_iff.mp hn).1
      exact q ((List.getElem?_inj h1 w.nd).mp (hn.trans hj1.symm))
  · have q := r.at_ j s hj
    cases s with
    | emp => trivial
    | dat d => exact q
    | own d =>
      obtain ⟨b, us, fs, hd, l1, l2, l3, l4, l5, l6⟩ := q
      have : b ≠ a := by rintro rfl; exact l5 ha
      exact ⟨b, us, fs, hd, l1, by rw [upd_ne this]; exact l2, l3, l4, l5, l6⟩
theorem ds_setBox {o ix : Expr} {fo fi : Env → M D} (hv : DE .P X E e f) (ho : DE .P X E o fo) (hi' : DE .B X E ix fi) (hP : PS X st (tAsg (tDE X.K X.mg .P E f) (gSub (tDE X.K X.mg .P E fo) (tDE X.K X.mg .B E fi) rSetL))) :
    DS X E st (sSetBox fo fi f) := by
  refine PS.imp hP fun Dn σ H ⟨g0, H0, g, S, ρ, e0, w, r, q⟩ => ?_
  refine ⟨H0, g, S, ρ, w, r, (OutE.bnd0 q e0).imp fun d S1 q1 g1 H1 v e1 w1 kr => ?_⟩
  have r1 := r.ext w e1
  refine ⟨H0, g1, S1, ρ, w1, r1, (OutE.bnd0 q1 (e0.trans e1)).imp fun o S2 q2 g2 H2 u e2 w2 kr2 => ?_⟩
  have r2 := r1.ext w1 e2
  refine ⟨H0, g2, S2, ρ, w2, r2, (OutE.bnd0 q2 ((e0.trans e1).trans e2)).imp fun k S3 q3 g3 H3 z e3 w3 kr3 => ?_⟩
  have r3 := r2.ext w2 e3
  cases o <;> try exact q3.elim
  rename_i n
  cases k <;> try exact q3.elim
  rename_i k
  cases hS : (S3[n]? : Option Bx) with
  | none => simp only [hS] at q3; exact q3.elim
  | some b =>
    cases b with
    | lst ds =>
      simp only [hS] at q3
      cases hj : ixN ds.length k with
      | none => simp only [hj] at q3; exact q3.elim
      | some j =>
        simp only [hj] at q3
        cases RB.int kr3
        have kb : RB X.K X.mg g3 H3 u (.box n) := .inl (Rp.ext e3 kr2)
        obtain ⟨a, vs, rfl, h1, h2, h3⟩ := RB.box w3 kb hS
        have e03 := ((e0.trans e1).trans e2).trans e3
        obtain ⟨m4, m5, m6⟩ := box_upd e03 w3 r3 h1 (ds := ds.set j d) (ws := vs.set j v) (RpAll.set (Rp.ext (e2.trans e3) kr) j h3) (e03.bnew a (List.mem_of_getElem? h1))
        exact ⟨a, vs, k, j, rfl, rfl, h2, by rw [h3.length]; exact hj, q3 g3 _ σ m4 ((e1.mn.trans e2.mn).trans e3.mn) m5 m6⟩

/-! ### two names at once -/
def mkS (k : Kd) (d : D) : Slot := match k, isL d with
  | .F, true => .own d
  | _, _ => .dat d
def sPar (k1 k2 : Kd) (i j : Nat) (f1 f2 : Env → M D) : Env → M Fl := fun ρ => bnd (f1 ρ) fun d1 => bnd (f2 ρ) fun d2 => ret (.nx ((ρ.set i (mkS k1 d1)).set j (mkS k2 d2)))
theorem setK {K : PySem.W.Frag} {mg : Str → Option Value} {g : Gw} {H H0 Hs : Hp} {σ : St} {ρ : Env} {k : Kd} (hk : k ≠ .B) (i : Nat) {v : V} {d : D} (r : RpE K mg g H H0 σ ρ) (kr : KR K mg k Hs g H v d)
    (hfr : ∀ (j : Nat) (dd : D) (b : Addr), ρ[j]? = some (.own dd) → σ[j]? = some (some (.ref b)) → Hs b ≠ none) (h0 : ∀ b, H0 b ≠ none → Hs b ≠ none) : RpE K mg g H H0 (σ.set i (some v)) (ρ.set i (mkS k d)) := by
  cases k with
  | B => exact absurd rfl hk
  | P => exact r.setD i kr
  | F =>
    rcases kr with ⟨p, hl⟩ | ⟨a, vs, ds, rfl, rfl, k1, k2, k3, k4, k5⟩
    · have e : mkS .F d = .dat d := by simp only [mkS, hl]
      rw [e]
      exact r.setD i p
    · refine r.setO i k1 k2 k3 k4 ?_ fun j dd hj hσ => absurd k5 (hfr j dd a hj hσ)
      cases qq : H0 a with
      | none => rfl
      | some o => exact absurd k5 (h0 a (by rw [qq]; exact fun z => nomatch z))
theorem ds_par {k1 k2 : Kd} (i j : Nat) (hk1 : k1 ≠ .B) (hk2 : k2 ≠ .B) (h1 : DE k1 X E a f1) (h2 : DE k2 X E b f2)
    (hP : PE X a (tDE X.K X.mg k1 E f1) → PE X b (tDE X.K X.mg k2 E f2) → PS X st (tPar i j (tCons (tDE X.K X.mg k1 E f1) (tCons (tDE X.K X.mg k2 E f2) tNil)))) : DS X E st (sPar k1 k2 i j f1 f2) := by
  refine PS.imp (hP h1 h2) fun Dn σ H ⟨g0, H0, g, S, ρ, e0, w, r, q⟩ => ?_
  refine ⟨H0, g, S, ρ, w, r, (OutE.bnd0 q e0).imp fun d1 S1 q1 g1 H1 v e1 w1 kr1 => ?_⟩
  have r1 := r.ext w e1
  refine ⟨H0, g1, S1, ρ, w1, r1, (OutE.bnd0 q1 (e0.trans e1)).imp fun d2 S2 q2 g2 H2 u e2 w2 kr2 => ?_⟩
  refine ⟨v, u, rfl, q2 g2 H2 _ ((e0.trans e1).trans e2) (e1.mn.trans e2.mn) w2 ?_⟩
  have tr : ∀ (l : Nat) (dd : D) (b : Addr), ρ[l]? = some (.own dd) → σ[l]? = some (some (.ref b)) → H b ≠ none := fun l dd b hl hσ => by
    obtain ⟨b', us, fs, hd, l1, l2, _⟩ := r.at_ l _ hl
    rw [hσ] at l1; cases l1
    rw [l2]; exact fun z => nomatch z
  have kr1' : KR X.K X.mg k1 H g2 H2 v d1 := by
    cases k1 with
    | B => exact absurd rfl hk1
    | P => exact Rp.ext e2 kr1
    | F =>
      rcases kr1 with ⟨p, hl⟩ | ⟨a, vs, ds, rfl, rfl, m1, m2, m3, m4, m5⟩
      · exact .inl ⟨p.ext e2, hl⟩
      · refine .inr ⟨a, vs, ds, rfl, rfl, e2.keep _ _ m1 m4, m2.ext e2, ?_, fun hm => (e2.bnew a hm).elim m4 (fun z => by rw [m1] at z; cases z), m5⟩
        cases qq : g2.F a with
        | none => rfl
        | some o => exact absurd m3 (e2.fnew a (by rw [m1]; exact fun z => nomatch z) (by rw [qq]; exact fun z => nomatch z))
  have rA := setK hk1 i (r1.ext w1 e2) kr1' tr fun b hb => e0.there b hb
  refine setK hk2 j rA kr2 (fun l dd b hl hσ => ?_) fun b hb => e1.there b (e0.there b hb)
  rcases set_get hl with ⟨rfl, hs⟩ | ⟨hn, hl⟩
  · -- the first name's own list
    have hlt : l < σ.length := by
      rw [← r.len]
      have := (List.getElem?_eq_some_iff.mp hl).1
      simpa using this
    rw [List.getElem?_set_self hlt] at hσ
    cases hσ
    cases k1 with
    | B => exact absurd rfl hk1
    | P => simp only [mkS] at hs; cases hs
    | F =>
      rcases kr1 with ⟨p, hl2⟩ | ⟨a, vs, ds, hv, rfl, m1, _⟩
      · simp only [mkS, hl2] at hs; cases hs
      · cases hv; rw [m1]; exact fun z => nomatch z
  · rw [List.getElem?_set_ne (fun z => hn z.symm)] at hσ
    exact e1.there b (tr l dd b hl hσ)

/-! ### x += e -/
def sAug (i : Nat) (sem : D → D → Option D) (f : Env → M D) : Env → M Fl := fun ρ => match ρ[i]? with
  | some (.dat x) => bnd (f ρ) fun y => bnd (opt (sem x y)) fun z => ret (.nx (ρ.set i (.dat z)))
  | _ => stk
/-! ### raise -/
def sRaise (c : Str) : Env → M Fl := fun _ S => .exc c [] S
theorem ds_raise {c : Str} {C : Addr} (hc : X.calm = true) (tk : Takes X fun cls d _ H => E cls d H) (hC : X.mg c = some (.ref C)) (he : PMk X e (fun _ H Q => Q (.ref C) none H)) : DS X E (.Raise (some e) none pos) (sRaise c) :=
  PS.imp (ps_raise hc tk he) fun Dn σ H ⟨g0, H0, g, S, ρ, e0, w, r, q⟩ => q g H _ none e0 w ⟨hC, .inl ⟨rfl, rfl⟩⟩

/-! ### defs -/
def SpD (K : PySem.W.Frag) (mg : Str → Option Value) (n : Nat) (sem : List D → M D) : Sp := fun vs H Q E => vs.length = n ∧ ∃ g S ds, Wd K mg g S H ∧ RpAll K mg g vs ds ∧
  OutE K mg E g H (sem ds S) fun d S' => ∀ g' H' v, Ext g H g' H' → Wd K mg g' S' H' → Rp K mg g' v d → Q v H'
/-- the def called x, by at most level k, computes sem -/
def FnD (P : Program) (w : World) (K : PySem.W.Frag) (mg : Str → Option Value) (base : Heap) (x : Str) (k n : Nat) (sem : List D → M D) : Prop :=
  ∃ (f : Addr) (fd : FuncData) (ps : List Str), ps.length = n ∧ mg x = some (.ref f) ∧ PySem.W.keepIn K (.ref f) = true ∧ Binds K fd ps [] ∧ FnOk P w K mg base (L2.CX P w) k f fd ps (SpD K mg n sem)
def callS (n : Nat) (sem : List D → M D) (ds : List D) : M D := if ds.length = n then sem ds else stk
def eFn (n : Nat) (sem : List D → M D) (fa : Env → M (List D)) : Env → M D := fun ρ => bnd (fa ρ) (callS n sem)
theorem de_fn {x : Str} {k n : Nat} {sem : List D → M D} {p : Pos} {kd : Kd} (F : FnD X.prog X.w X.K X.mg X.base x k n sem) (hr : Room k X.A) (hg : Gl X x) (tk : Takes X fun cls d _ H => E cls d H) (ha : DA .P X E (e :: es) fa) (hdb : (x == ("__debug__" : Str)) = false := by decide)
    (he : starEach (e :: es) X.env = (false, eval e X.env) :: starEach es X.env := by rfl) (hpl : (backTo pos (starEach es X.env)).any (·.1) = false := by rfl) (hkd : kd ≠ .F := by decide) : DE kd X E (.Call (.Name x p) (e :: es) [] pos) (eFn n sem fa) := by
  obtain ⟨f, fd, ps, hn, hm, hk, hb, F⟩ := F
  refine PE.imp (pe_call (dvs := []) (E := E) F hr hg hm hk hb .nil (passes_call tk fun _ _ _ _ h => h) ha hdb he hpl) fun σ H Q ⟨H0, g, S, ρ, w, r, q⟩ => ?_
  refine ⟨H0, g, S, ρ, w, r, (OutE.bnd q).imp fun ds S1 q1 g1 H1 vs e1 w1 kr => ?_⟩
  have kr : RpAll X.K X.mg g1 vs ds := kr
  unfold callS at q1
  split at q1
  · show SpD X.K X.mg n sem (vs ++ []) H1 Q E
    rw [List.append_nil]
    refine ⟨by rw [kr.length]; assumption, g1, S1, ds, w1, kr, OutE.mono q1 e1 fun d S2 q2 g2 H2 v e2 w2 r2 => q2 g2 H2 v (e1.trans e2) w2 (KR.ofP hkd r2)⟩
  · exact q1.elim
def startE (n : Nat) (ds : List D) : Env := ds.map Slot.dat ++ List.replicate (n - ds.length) .emp
def runFn (n : Nat) (body : Env → M Fl) : List D → M D := fun ds => bnd (body (startE n ds)) fun fl => match fl with
  | .rt d => ret d
  | .nx _ => ret .non
  | _ => stk
theorem start_rp {K : PySem.W.Frag} {mg : Str → Option Value} {g : Gw} {H : Hp} {N : List Str} {vs : List V} {ds : List D} (r : RpAll K mg g vs ds) : RpE K mg g H H (L2.start N vs) (startE N.length ds) where
  len := by
    unfold L2.start startE
    rw [List.length_append, List.length_append, List.length_map, List.length_map, List.length_replicate, List.length_replicate, r.length]
  at_ := fun i s h => by
    unfold startE at h
    unfold L2.start
    by_cases hi : i < ds.length
    · rw [List.getElem?_append_left (by simpa using hi), List.getElem?_map] at h
      cases hd : ds[i]? with
      | none => rw [hd] at h; cases h
      | some d =>
        rw [hd] at h
        cases h
        obtain ⟨v, hv, rv⟩ := r.get hd
        refine ⟨v, ?_, rv⟩
        rw [List.getElem?_append_left (by rw [List.length_map, r.length]; exact hi), List.getElem?_map, hv]
        rfl
    · rw [List.getElem?_append_right (by simpa using hi), List.getElem?_replicate] at h
      split at h
      · cases h; trivial
      · cases h
  sep := fun i j d e hne h1 h2 => by
    exfalso
    unfold startE at h1
    by_cases hi : i < ds.length
    · rw [List.getElem?_append_left (by simpa using hi), List.getElem?_map] at h1
      cases hd : ds[i]? with
      | none => rw [hd] at h1; cases h1
      | some d => rw [hd] at h1; cases h1
    · rw [List.getElem?_append_right (by simpa using hi), List.getElem?_replicate] at h1
      split at h1 <;> cases h1
theorem FnD.of {P : Program} {w : World} {K : PySem.W.Frag} {mg : Str → Option Value} {base : Heap} {x : Str} {st : Stmt} {f : Addr} {fd : FuncData} {N ps : List Str} {k : Nat} {body : Env → M Fl} (F : Fun K x x st f fd) (hm : mg x = some (.ref f)) (hb : Binds K fd ps []) (S : FnScope N ps (defScope st))
    (hbody : ∀ (cdv : Value) (A : Around) (outer : List PySem.Env) (s : Shared) (H : Hp) (E : XK), Room k (A.deeper (envOfC x (defScope st) s.heap.objs.size f cdv)) →
      DSs (cxOf (L2.CX P w) P w K mg base N x (defScope st) f cdv A outer s H E) E (defBody st) body) : FnD P w K mg base x (k + 1) ps.length (runFn N.length body) := by
  refine ⟨f, fd, ps, rfl, hm, F.kp, hb, F.okX S (fun vs H Q E h => h.1) fun cdv A outer s H vs Q E hr h => ?_⟩
  obtain ⟨_, g, S0, ds, wd, r, q⟩ := h
  refine ⟨_, hbody cdv A outer s H E hr, g, H, g, S0, startE N.length ds, Ext.refl, wd, start_rp r, ?_⟩
  have q1 := OutE.bnd (show OutE K mg E g H ((body (startE N.length ds) S0).next _) _ from q)
  refine q1.imp fun fl S1 q2 => ?_
  cases fl with
  | nx ρ' => exact fun g' H' σ' e m w r => q2 g' H' .non e w .non
  | rt d => exact fun g' H' v e m w r => q2 g' H' v e w r
  | bk ρ' => exact q2.elim
  | ct ρ' => exact q2.elim
end
end Dl

set_option Elab.async false
set_option linter.all false
set_option maxRecDepth 100000
set_option autoImplicit false
namespace Dl
open PySem PySem.Spec L2
open PyProof.Rows hiding St

section
variable {X : Cx} {k : Kd}
theorem RBs.one {K : PySem.W.Frag} {mg : Str → Option Value} {g : Gw} {H : Hp} {vs : List V} {d : D} (r : RBs K mg g H vs [d]) : ∃ v, vs = [v] ∧ RB K mg g H v d := by
  cases r with
  | cons h t => cases t; exact ⟨_, rfl, h⟩
theorem RBs.two {K : PySem.W.Frag} {mg : Str → Option Value} {g : Gw} {H : Hp} {vs : List V} {d e : D} (r : RBs K mg g H vs [d, e]) : ∃ v w, vs = [v, w] ∧ RB K mg g H v d ∧ RB K mg g H w e := by
  cases r with
  | cons h t =>
    cases t with
    | cons h2 t => cases t; exact ⟨_, _, rfl, h, h2⟩
/-! ### len -/
def lenD : List D → Option D
  | [.lst ds] => some (.int ds.length)
  | [.tup ds] => some (.int ds.length)
  | [.str x] => if x.length ≤ sizeLine then some (.int x.length) else none
  | _ => none
theorem cd_len : CallD X k (.builtin "len") lenD := ⟨_, CallR.or call_len_seq call_len_str, fun g S H vs ds z Q wd r hz hq => by
  unfold lenD at hz
  split at hz
  · cases hz
    obtain ⟨v, rfl, r0⟩ := r.one
    obtain ⟨a, us, rfl, h, r⟩ := r0.list wd
    exact .inl ⟨a, us, rfl, .inl (.inl (.inl h)), by rw [r.length]; exact q_same wd (fun g => .int _) hq⟩
  · cases hz
    obtain ⟨v, rfl, r0⟩ := r.one
    obtain ⟨a, us, rfl, h, r⟩ := r0.tup wd
    exact .inl ⟨a, us, rfl, .inr h, by rw [r.length]; exact q_same wd (fun g => .int _) hq⟩
  · obtain ⟨v, rfl, r0⟩ := r.one
    cases r0.str
    split at hz
    · cases hz
      exact .inr ⟨_, rfl, by assumption, q_same wd (fun g => .int _) hq⟩
    · cases hz
  · cases hz⟩
/-! ### lists of ints -/
def intsOf : List D → Option (List Int)
  | [] => some []
  | .int i :: r => (intsOf r).map (i :: ·)
  | _ => none
theorem ints_rp {K : PySem.W.Frag} {mg : Str → Option Value} {g : Gw} : ∀ {ds : List D} {ns : List Int} {vs : List V}, intsOf ds = some ns → RpAll K mg g vs ds → vs = ns.map V.int
  | [], ns, vs, h, r => by cases h; cases r; rfl
  | d :: ds, ns, vs, h, r => by
    cases r with
    | cons r1 r2 =>
      cases r1 <;> simp only [intsOf] at h <;> try cases h
      rename_i i
      cases q : intsOf ds with
      | none => rw [q] at h; cases h
      | some ms =>
        rw [q] at h
        cases h
        rw [ints_rp q r2]
        rfl
theorem intsOf_map (ns : List Int) : intsOf (ns.map D.int) = some ns := by
  induction ns with
  | nil => rfl
  | cons n ns ih => rw [List.map_cons, intsOf, ih]; rfl
def sumD : List D → Option D
  | [.lst ds] => (intsOf ds).map fun ns => .int ns.sum
  | _ => none
theorem cd_sum (hc : X.calm = true) : CallD X k (.builtin "sum") sumD := ⟨_, cr_sum hc, fun g S H vs ds z Q wd r hz hq => by
  unfold sumD at hz
  split at hz
  · obtain ⟨v, rfl, r0⟩ := r.one
    obtain ⟨a, us, rfl, h, r⟩ := r0.list wd
    cases q : intsOf _ with
    | none => rw [q] at hz; cases hz
    | some ns =>
      rw [q] at hz
      cases hz
      rw [ints_rp q r] at h
      exact ⟨a, ns, rfl, .inl (.inl h), q_same wd (fun g => .int _) hq⟩
  · cases hz⟩
def imax : Int → List Int → Int
  | a, [] => a
  | a, b :: r => imax (if a < b then b else a) r
def imin : Int → List Int → Int
  | a, [] => a
  | a, b :: r => imin (if b < a then b else a) r
theorem imax_mem : ∀ (a : Int) (r : List Int), imax a r ∈ a :: r ∧ ∀ y ∈ a :: r, y ≤ imax a r
  | a, [] => ⟨List.mem_cons_self, fun y hy => by rw [List.mem_singleton.mp hy]; exact Int.le_refl _⟩
  | a, b :: r => by
    by_cases hab : a < b
    · obtain ⟨h1, h2⟩ := imax_mem b r
      have e : imax a (b :: r) = imax b r := by rw [imax, if_pos hab]
      rw [e]
      have hb := h2 b List.mem_cons_self
      exact ⟨List.mem_cons_of_mem _ h1, fun y hy => (List.mem_cons.mp hy).elim (fun q => by rw [q]; omega) fun q => h2 y q⟩
    · obtain ⟨h1, h2⟩ := imax_mem a r
      have e : imax a (b :: r) = imax a r := by rw [imax, if_neg hab]
      rw [e]
      have ha := h2 a List.mem_cons_self
      refine ⟨(List.mem_cons.mp h1).elim (fun q => by rw [q]; exact List.mem_cons_self) fun q => List.mem_cons_of_mem _ (List.mem_cons_of_mem _ q), fun y hy => ?_⟩
      rcases List.mem_cons.mp hy with q | q
      · rw [q]; exact ha
      rcases List.mem_cons.mp q with q | q
      · rw [q]; omega
      · exact h2 y (List.mem_cons_of_mem _ q)
theorem imin_mem : ∀ (a : Int) (r : List Int), imin a r ∈ a :: r ∧ ∀ y ∈ a :: r, imin a r ≤ y
  | a, [] => ⟨List.mem_cons_self, fun y hy => by rw [List.mem_singleton.mp hy]; exact Int.le_refl _⟩
  | a, b :: r => by
    by_cases hab : b < a
    · obtain ⟨h1, h2⟩ := imin_mem b r
      have e : imin a (b :: r) = imin b r := by rw [imin, if_pos hab]
      rw [e]
      have hb := h2 b List.mem_cons_self
      exact ⟨List.mem_cons_of_mem _ h1, fun y hy => (List.mem_cons.mp hy).elim (fun q => by rw [q]; omega) fun q => h2 y q⟩
    · obtain ⟨h1, h2⟩ := imin_mem a r
      have e : imin a (b :: r) = imin a r := by rw [imin, if_neg hab]
      rw [e]
      have ha := h2 a List.mem_cons_self
      refine ⟨(List.mem_cons.mp h1).elim (fun q => by rw [q]; exact List.mem_cons_self) fun q => List.mem_cons_of_mem _ (List.mem_cons_of_mem _ q), fun y hy => ?_⟩
      rcases List.mem_cons.mp hy with q | q
      · rw [q]; exact ha
      rcases List.mem_cons.mp q with q | q
      · rw [q]; omega
      · exact h2 y (List.mem_cons_of_mem _ q)
def maxI : List D → Option D
  | [.lst ds] => match intsOf ds with | some (a :: r) => some (.int (imax a r)) | _ => none
  | [.int i, .int j] => some (.int (if j > i then j else i))
  | _ => none
def minI : List D → Option D
  | [.lst ds] => match intsOf ds with | some (a :: r) => some (.int (imin a r)) | _ => none
  | [.int i, .int j] => some (.int (if j < i then j else i))
  | _ => none
theorem cd_maxI (hc : X.calm = true) : CallD X k (.builtin "max") maxI := ⟨_, CallR.or (cr_max hc) (call_max2 hc), fun g S H vs ds z Q wd r hz hq => by
  unfold maxI at hz
  split at hz
  · obtain ⟨v, rfl, r0⟩ := r.one
    obtain ⟨a, us, rfl, h, r⟩ := r0.list wd
    split at hz
    · rename_i a0 r0 q
      cases hz
      rw [ints_rp q r] at h
      obtain ⟨m1, m2⟩ := imax_mem a0 r0
      refine .inl ⟨a, _, rfl, .inl (.inl h), by simp, fun m h1 h2 => ?_⟩
      have e : m = imax a0 r0 := Int.le_antisymm (m2 m h1) (h2 _ m1)
      rw [e]
      exact q_same wd (fun g => .int _) hq
    · cases hz
  · cases hz
    obtain ⟨v, w, rfl, r1, r2⟩ := r.two
    cases r1.int; cases r2.int
    exact .inr ⟨_, _, rfl, q_same wd (fun g => .int _) hq⟩
  · cases hz⟩
theorem cd_minI (hc : X.calm = true) : CallD X k (.builtin "min") minI := ⟨_, CallR.or (cr_min hc) (call_min2 hc), fun g S H vs ds z Q wd r hz hq => by
  unfold minI at hz
  split at hz
  · obtain ⟨v, rfl, r0⟩ := r.one
    obtain ⟨a, us, rfl, h, r⟩ := r0.list wd
    split at hz
    · rename_i a0 r0 q
      cases hz
      rw [ints_rp q r] at h
      obtain ⟨m1, m2⟩ := imin_mem a0 r0
      refine .inl ⟨a, _, rfl, .inl (.inl h), by simp, fun m h1 h2 => ?_⟩
      have e : m = imin a0 r0 := Int.le_antisymm (h2 _ m1) (m2 m h1)
      rw [e]
      exact q_same wd (fun g => .int _) hq
    · cases hz
  · cases hz
    obtain ⟨v, w, rfl, r1, r2⟩ := r.two
    cases r1.int; cases r2.int
    exact .inr ⟨_, _, rfl, q_same wd (fun g => .int _) hq⟩
  · cases hz⟩
def absI : List D → Option D
  | [.int i] => some (.int (if i < 0 then -i else i))
  | _ => none
theorem cd_abs : CallD X k (.builtin "abs") absI := ⟨_, call_abs, fun g S H vs ds z Q wd r hz hq => by
  unfold absI at hz
  split at hz
  · cases hz
    obtain ⟨v, rfl, r0⟩ := r.one
    cases r0.int
    exact ⟨_, rfl, q_same wd (fun g => .int _) hq⟩
  · cases hz⟩
def intI : List D → Option D
  | [.int i] => some (.int i)
  | [.bl b] => some (.int (if b then 1 else 0))
  | _ => none
theorem cd_int : CallD X k (.type "int") intI := ⟨_, call_int1, fun g S H vs ds z Q wd r hz hq => by
  unfold intI at hz
  split at hz
  · cases hz
    obtain ⟨v, rfl, r0⟩ := r.one
    cases r0.int
    exact .inl ⟨_, rfl, q_same wd (fun g => .int _) hq⟩
  · cases hz
    obtain ⟨v, rfl, r0⟩ := r.one
    cases r0.bl
    exact .inr ⟨_, rfl, q_same wd (fun g => .int _) hq⟩
  · cases hz⟩
/-! ### any, all -/
def blsOf : List D → Option (List Bool)
  | [] => some []
  | .bl i :: r => (blsOf r).map (i :: ·)
  | _ => none
theorem bls_rp {K : PySem.W.Frag} {mg : Str → Option Value} {g : Gw} : ∀ {ds : List D} {ns : List Bool} {vs : List V}, blsOf ds = some ns → RpAll K mg g vs ds → vs = ns.map V.bl
  | [], ns, vs, h, r => by cases h; cases r; rfl
  | d :: ds, ns, vs, h, r => by
    cases r with
    | cons r1 r2 =>
      cases r1 <;> simp only [blsOf] at h <;> try cases h
      rename_i i
      cases q : blsOf ds with
      | none => rw [q] at h; cases h
      | some ms =>
        rw [q] at h
        cases h
        rw [bls_rp q r2]
        rfl
theorem blsOf_map (ns : List Bool) : blsOf (ns.map D.bl) = some ns := by
  induction ns with
  | nil => rfl
  | cons n ns ih => rw [List.map_cons, blsOf, ih]; rfl
def allD : List D → Option D
  | [.lst ds] => (blsOf ds).map fun bs => .bl (bs.all id)
  | _ => none
def anyD : List D → Option D
  | [.lst ds] => (blsOf ds).map fun bs => .bl (bs.any id)
  | _ => none
theorem cd_all (hc : X.calm = true) : CallD X k (.builtin "all") allD := ⟨_, cr_all hc, fun g S H vs ds z Q wd r hz hq => by
  unfold allD at hz
  split at hz
  · obtain ⟨v, rfl, r0⟩ := r.one
    obtain ⟨a, us, rfl, h, r⟩ := r0.list wd
    cases q : blsOf _ with
    | none => rw [q] at hz; cases hz
    | some ns =>
      rw [q] at hz
      cases hz
      rw [bls_rp q r] at h
      exact ⟨a, ns, rfl, .inl (.inl h), q_same wd (fun g => .bl _) hq⟩
  · cases hz⟩
theorem cd_any (hc : X.calm = true) : CallD X k (.builtin "any") anyD := ⟨_, cr_any hc, fun g S H vs ds z Q wd r hz hq => by
  unfold anyD at hz
  split at hz
  · obtain ⟨v, rfl, r0⟩ := r.one
    obtain ⟨a, us, rfl, h, r⟩ := r0.list wd
    cases q : blsOf _ with
    | none => rw [q] at hz; cases hz
    | some ns =>
      rw [q] at hz
      cases hz
      rw [bls_rp q r] at h
      exact ⟨a, ns, rfl, .inl (.inl h), q_same wd (fun g => .bl _) hq⟩
  · cases hz⟩
/-! ### tuple(), list() -/
def tupleD : List D → Option D
  | [.lst ds] => some (.tup ds)
  | [.tup ds] => some (.tup ds)
  | _ => none
def listD : List D → Option D
  | [.lst ds] => some (.lst ds)
  | [.tup ds] => some (.lst ds)
  | [.scr ns] => some (.lst (ns.map D.int))
  | _ => none
theorem RB.scr {K : PySem.W.Frag} {mg : Str → Option Value} {g : Gw} {S : Store} {H : Hp} (wd : Wd K mg g S H) {v : V} {ns : List Int} (r : RB K mg g H v (.scr ns)) : ∃ a, v = .ref a ∧ SqL K H a (ns.map V.int) := by
  rcases r with r | ⟨a, vs, ds, rfl, e, _⟩
  · cases r with
    | scr h => exact ⟨_, rfl, h.sq wd.sub⟩
  · cases e
theorem ints_fwd {K : PySem.W.Frag} {mg : Str → Option Value} {g : Gw} : ∀ ns : List Int, RpAll K mg g (ns.map V.int) (ns.map D.int)
  | [] => .nil
  | n :: ns => .cons (.int n) (ints_fwd ns)
theorem cd_tuple : CallD X k (.type "tuple") tupleD := ⟨_, call_tuple_of, fun g S H vs ds z Q wd r hz hq => by
  unfold tupleD at hz
  split at hz
  · cases hz
    obtain ⟨v, rfl, r0⟩ := r.one
    obtain ⟨a, us, rfl, h, r⟩ := r0.list wd
    exact ⟨a, us, rfl, .inl ⟨.inl (.inl h), fun l hl => q_tup wd hl r hq⟩⟩
  · cases hz
    obtain ⟨v, rfl, r0⟩ := r.one
    have p := r0.tupP
    obtain ⟨a, us, rfl, h, r⟩ := r0.tup wd
    exact ⟨a, us, rfl, .inr ⟨h, hq g H _ Ext.refl wd (KR.ofS p)⟩⟩
  · cases hz⟩
theorem cd_list : CallD X .F (.type "list") listD := ⟨_, call_list_of, fun g S H vs ds z Q wd r hz hq => by
  unfold listD at hz
  split at hz
  · cases hz
    obtain ⟨v, rfl, r0⟩ := r.one
    obtain ⟨a, us, rfl, h, r⟩ := r0.list wd
    exact ⟨a, us, rfl, .inl (.inl (.inl h)), fun l hl => q_lst rfl wd hl r hq⟩
  · cases hz
    obtain ⟨v, rfl, r0⟩ := r.one
    obtain ⟨a, us, rfl, h, r⟩ := r0.tup wd
    exact ⟨a, us, rfl, .inr h, fun l hl => q_lst rfl wd hl r hq⟩
  · cases hz
    obtain ⟨v, rfl, r0⟩ := r.one
    obtain ⟨a, rfl, h⟩ := RB.scr wd r0
    exact ⟨a, _, rfl, .inl h, fun l hl => q_lst rfl wd hl (ints_fwd _) hq⟩
  · cases hz⟩
/-! ### isinstance -/
def tyD : D → Option String
  | .non => some "NoneType"
  | .bl _ => some "bool"
  | .int _ => some "int"
  | .str _ => some "str"
  | .tup _ => some "tuple"
  | .lst _ => some "list"
  | _ => none
def isiD : List D → Option D
  | [d, .ty n] => (tyD d).bind fun t => (kitB t n).map .bl
  | _ => none
theorem RB.tyx {K : PySem.W.Frag} {mg : Str → Option Value} {g : Gw} {S : Store} {H : Hp} (wd : Wd K mg g S H) {v : V} {d : D} {t : String} (r : RB K mg g H v d) (h : tyD d = some t) : TyX K H v (.type t) := by
  cases d <;> simp only [tyD] at h <;> cases h
  · cases r.non; exact .base .non
  · cases r.bl; exact .base (.bl _)
  · cases r.int; exact .base (.int _)
  · cases r.str; exact .base (.str _)
  · cases r.tupP with
    | tup h1 h2 =>
      rcases h1 with h1 | ⟨o, its, n, h1, hc, _⟩
      · exact .base (.tup (wd.sub _ _ h1))
      · exact .kTuple h1 hc
  · obtain ⟨a, us, rfl, h, r⟩ := r.list wd
    exact .base (.lst h)
theorem RB.ty {K : PySem.W.Frag} {mg : Str → Option Value} {g : Gw} {H : Hp} {v : V} {n : String} (r : RB K mg g H v (.ty n)) : v = .ty n := by
  rcases r with r | ⟨a, vs, ds', _, e, _⟩
  · cases r; rfl
  · cases e
theorem cd_isi : CallD X k (.builtin "isinstance") isiD := ⟨_, call_isi, fun g S H vs ds z Q wd r hz hq => by
  unfold isiD at hz
  split at hz
  · rename_i d n
    obtain ⟨v, w, rfl, r1, r2⟩ := r.two
    cases r2.ty
    cases ht : tyD d with
    | none => rw [ht] at hz; cases hz
    | some t =>
      rw [ht] at hz
      cases hk : kitB t n with
      | none => simp only [Option.bind_some, hk] at hz; cases hz
      | some b =>
        simp only [Option.bind_some, hk] at hz
        cases hz
        exact ⟨v, .ty n, .type t, .type n, b, rfl, by first | exact .ty _ | exact rfl | constructor, r1.tyx wd ht, kit_ty hk, q_same wd (fun g => .bl _) hq⟩
  · cases hz⟩
/-! ### a list, a tuple many times -/
def mulL : D → D → Option D
  | .lst ds, .int i => if -(2 ^ 63) ≤ i ∧ i < 2 ^ 63 ∧ ds.length * i.toNat ≤ sizeLine then some (.lst (List.replicate i.toNat ds).flatten) else none
  | _, _ => none
theorem od_mulL : OpD X .F (binaryOp .Mult) mulL := ⟨_, op_rep, fun g S H v w d e z Q wd rv rw_ hz hq => by
  unfold mulL at hz
  split at hz
  · split at hz
    · rename_i hh
      cases hz
      obtain ⟨a, vs, rfl, h1, r1⟩ := rv.list wd
      cases rw_.int
      exact ⟨a, _, vs, rfl, rfl, h1, hh.1, hh.2.1, by rw [r1.length]; exact hh.2.2, fun p hp => q_lst rfl wd hp (r1.rep _) hq⟩
    · cases hz
  · cases hz⟩
def mulT : D → D → Option D
  | .tup ds, .int i => if ds ≠ [] ∧ 2 ≤ i ∧ i ≤ 1000 ∧ ds.length ≤ 1000 then some (.tup (List.replicate i.toNat ds).flatten) else none
  | _, _ => none
theorem od_mulT : OpD X k (binaryOp .Mult) mulT := ⟨_, op_repT, fun g S H v w d e z Q wd rv rw_ hz hq => by
  unfold mulT at hz
  split at hz
  · split at hz
    · rename_i hh
      cases hz
      obtain ⟨a, vs, rfl, h1, r1⟩ := rv.tup wd
      cases rw_.int
      exact ⟨a, _, vs, rfl, rfl, h1, fun e => hh.1 ((nil_of r1).mp e), hh.2.1, hh.2.2.1, by rw [r1.length]; exact hh.2.2.2, fun p hp => q_tup wd hp (r1.rep _) hq⟩
    · cases hz
  · cases hz⟩
/-! ### is True, is False -/
def isBl : D → D → Option D
  | .bl a, .bl b => some (.bl (decide (a = b)))
  | _, _ => none
end
end Dl

set_option Elab.async false
set_option linter.all false
set_option maxRecDepth 100000
set_option autoImplicit false
namespace Dl
open PySem PySem.Spec L2
open PyProof.Rows hiding St

section
variable {X : Cx} {k : Kd} {E : XK} {e : Expr} {f : Env → M D} {pos : Pos}
def isB : D → D → Option D
  | .bl a, .bl b => some (.bl (decide (a = b)))
  | _, _ => none
def isNotB : D → D → Option D
  | .bl a, .bl b => some (.bl (!decide (a = b)))
  | _, _ => none
theorem od_isB : OpD X k (compareOp .Is) isB := ⟨_, op_isBl, fun g S H v w d e z Q wd rv rw_ hz hq => by
  unfold isB at hz
  split at hz
  · cases hz
    cases rv.bl; cases rw_.bl
    exact ⟨_, _, rfl, rfl, q_same wd (fun g => .bl _) hq⟩
  · cases hz⟩
theorem od_isNotB : OpD X k (compareOp .IsNot) isNotB := ⟨_, op_notBl, fun g S H v w d e z Q wd rv rw_ hz hq => by
  unfold isNotB at hz
  split at hz
  · cases hz
    cases rv.bl; cases rw_.bl
    exact ⟨_, _, rfl, rfl, q_same wd (fun g => .bl _) hq⟩
  · cases hz⟩
/-! ### in a tuple -/
def inT : D → D → Option D
  | d, .tup ds => if okD d && okD (.tup ds) then some (.bl ((toPyAll ds).any fun z => PyData.eqv z (toPy d))) else none
  | _, _ => none
def notInT : D → D → Option D
  | d, .tup ds => if okD d && okD (.tup ds) then some (.bl (!(toPyAll ds).any fun z => PyData.eqv z (toPy d))) else none
  | _, _ => none
theorem op_inTup (hu : X.A.units + 65 < cLine) : OpR X (compareOp .In) (fun x y H Q => ∃ d ds, Dp X.K H x d ∧ Dp X.K H y (.tuple ds) ∧ SeqAt.shaped d = true ∧ SeqAt.shaped (.tuple ds) = true ∧ Q (.bl (ds.any fun z => PyData.eqv z d)) H) := by
  intro pins s σ H x y v u Q I rx ry h
  obtain ⟨d, ds, hd, he, sd, se, q⟩ := h
  obtain ⟨as, r1⟩ := Dp.reads I d x v hd rx
  obtain ⟨bs, r2⟩ := Dp.reads I (.tuple ds) y u he ry
  exact SeqAt.in_tuple_reads r2 r1 (SeqAt.canLay_of_shaped se) (SeqAt.canLay_of_shaped sd) (room_in_shaped sd hu) ⟨.bl _, H, I, rfl, q⟩
theorem op_notInTup (hu : X.A.units + 65 < cLine) : OpR X (compareOp .NotIn) (fun x y H Q => ∃ d ds, Dp X.K H x d ∧ Dp X.K H y (.tuple ds) ∧ SeqAt.shaped d = true ∧ SeqAt.shaped (.tuple ds) = true ∧ Q (.bl (!ds.any fun z => PyData.eqv z d)) H) := by
  intro pins s σ H x y v u Q I rx ry h
  obtain ⟨d, ds, hd, he, sd, se, q⟩ := h
  obtain ⟨as, r1⟩ := Dp.reads I d x v hd rx
  obtain ⟨bs, r2⟩ := Dp.reads I (.tuple ds) y u he ry
  exact SeqAt.notIn_tuple_reads r2 r1 (SeqAt.canLay_of_shaped se) (SeqAt.canLay_of_shaped sd) (room_in_shaped sd hu) ⟨.bl _, H, I, rfl, q⟩
theorem od_inT (hu : X.A.units + 65 < cLine) : OpD X k (compareOp .In) inT := ⟨_, op_inTup hu, fun g S H v w d e z Q wd rv rw_ hz hq => by
  cases e <;> simp only [inT] at hz <;> try cases hz
  split at hz
  · cases hz
    rename_i h
    simp only [okD, Bool.and_eq_true] at h
    have q := rw_.dp wd h.2.1
    have s2 := h.2.2
    simp only [toPy] at q s2
    exact ⟨_, _, rv.dp wd h.1.1, q, h.1.2, s2, q_same wd (fun g => .bl _) hq⟩
  · cases hz⟩
theorem od_notInT (hu : X.A.units + 65 < cLine) : OpD X k (compareOp .NotIn) notInT := ⟨_, op_notInTup hu, fun g S H v w d e z Q wd rv rw_ hz hq => by
  cases e <;> simp only [notInT] at hz <;> try cases hz
  split at hz
  · cases hz
    rename_i h
    simp only [okD, Bool.and_eq_true] at h
    have q := rw_.dp wd h.2.1
    have s2 := h.2.2
    simp only [toPy] at q s2
    exact ⟨_, _, rv.dp wd h.1.1, q, h.1.2, s2, q_same wd (fun g => .bl _) hq⟩
  · cases hz⟩
/-! ### from behind -/
def revL : D → Option D
  | .lst ds => some (.lst ds.reverse)
  | _ => none
def eRevL (f : Env → M D) : Env → M D := fun ρ => bnd (f ρ) fun d => opt (revL d)
theorem de_revL {j : Nat} {p1 p2 p3 : Pos} (h1 : DE .B X E e f) : DE .F X E (.Subscript e (.Slice none none (some (.UnaryOp .USub (.Constant (.int 1) j p1) p2)) p3) pos) (eRevL f) :=
  PE.imp (pe_revL h1) fun σ H Q ⟨H0, g, S, ρ, w, r, q⟩ => ⟨H0, g, S, ρ, w, r, (OutE.bnd q).imp fun d S1 q1 g1 H1 v e1 w1 kr => by
    cases d <;> try exact q1.elim
    obtain ⟨a, vs, rfl, h, rr⟩ := RB.list w1 kr
    exact ⟨a, vs, rfl, .inl (.inl h), fun p hp => q_lst rfl w1 hp rr.reverse fun g2 H2 u e2 w2 k2 => q1 g2 H2 u (e1.trans e2) w2 (KR.back e1 k2)⟩⟩
/-! t[::-1] of a tuple -/
theorem sl_app_rev {prog : Program} {w : World} {A : Around} {E : Value → Shared → Prop} {s : Shared} {sl : Addr} {vl vu vs : Value} {n : Nat} {Q : Int × Int × Nat → Shared → Prop} (hs : s.heap.IsSliceOf sl vl vu vs) (pl : IsPart vl none) (pu : IsPart vu none) (ps : IsPart vs (some (-1)))
    (h : Q (((n : Nat) : Int) - 1, -1, n) s) : wpAny (model prog w) A (Builtin.Slice.sliceApplied (.ref sl) (pure (n : Int))) Q E s := by
  obtain ⟨os, hos, hcs, hds⟩ := id hs
  unfold Builtin.Slice.sliceApplied Builtin.Slice.sliceFields
  refine wpAny_bind (wpAny_bind (wpAny_field hos hds (x := vl) rfl (wpAny_bind (wpAny_field hos hds (x := vu) rfl (wpAny_bind (wpAny_field hos hds (x := vs) rfl (wpAny_pure ?_)))))))
  refine wpAny_bind (HT.slicePart_ ps ?_)
  show wpAny _ _ (if ((-1 : Int) == 0) = true then _ else _) _ _ s
  rw [if_neg (by decide)]
  refine wpAny_bind (HT.slicePart_ pl (wpAny_bind (HT.slicePart_ pu (wpAny_bind (wpAny_pure ?_)))))
  have e1 : Builtin.Slice.sliceAdjust none none (-1) (n : Int) = ((n : Int) - 1, -1) := rfl
  have e2 : Builtin.Slice.slicePlaces ((n : Int) - 1) (-1) (-1) = n := by
    unfold Builtin.Slice.slicePlaces
    rw [if_neg (by decide)]
    by_cases hn : (n : Int) - 1 > -1
    · rw [if_pos hn]
      have : ((n : Int) - 1 - -1 - 1) / (- -1) + 1 = (n : Int) := by
        rw [show (- -1 : Int) = 1 by decide, Int.ediv_one]; omega
      rw [this]; rfl
    · rw [if_neg hn]; omega
  show wpAny _ _ (match Builtin.Slice.sliceAdjust none none (-1) (n : Int) with | (lo, hi) => pure (lo, (-1 : Int), Builtin.Slice.slicePlaces lo hi (-1))) _ _ s
  rw [e1]
  show wpAny _ _ (pure ((n : Int) - 1, (-1 : Int), Builtin.Slice.slicePlaces ((n : Int) - 1) (-1) (-1))) _ _ s
  rw [e2]
  exact wpAny_pure h
theorem fm_congr {α β : Type} {f h : α → Option β} : ∀ {l : List α}, (∀ x ∈ l, f x = h x) → l.filterMap f = l.filterMap h
  | [], _ => rfl
  | a :: l, q => by
    rw [List.filterMap_cons, List.filterMap_cons, q a List.mem_cons_self, fm_congr fun x hx => q x (List.mem_cons_of_mem _ hx)]
theorem pick_rev (xs : Array Value) : ((List.range xs.size).filterMap fun (m : Nat) => xs[(((xs.size : Nat) : Int) - 1 + (m : Int) * (-1)).toNat]?).toArray = xs.toList.reverse.toArray := by
  congr 1
  have e : (List.range xs.size).filterMap (fun (m : Nat) => xs[(((xs.size : Nat) : Int) - 1 + (m : Int) * (-1)).toNat]?) = (List.range xs.size).filterMap ((fun j => xs[j]?) ∘ fun m => xs.size - 1 - m) := by
    refine fm_congr fun m hm => ?_
    have := List.mem_range.mp hm
    have e2 : (((xs.size : Nat) : Int) - 1 + (m : Int) * (-1)).toNat = xs.size - 1 - m := by omega
    show xs[_]? = xs[_]?
    rw [e2]
  rw [e, ← List.filterMap_map, PySem.W.krv_range, List.filterMap_reverse, PySem.W.krv_all]
theorem getItem_tup_rev {prog : Program} {w : World} {A : Around} {E : Value → Shared → Prop} {s : Shared} {t sl : Addr} {its : Array Value} {vl vu vs : Value} {Q : Value → Shared → Prop} (ht : IsTup s.heap t its) (hs : s.heap.IsSliceOf sl vl vu vs) (pl : IsPart vl none) (pu : IsPart vu none) (ps : IsPart vs (some (-1)))
    (h : Q (.ref s.heap.objs.size) { s with heap := s.heap.push { cls := .type "tuple", data := .seq its.toList.reverse.toArray } }) (hsz : its.size ≤ sizeLine) : wpAny (model prog w) A (getItem (.ref t) (.ref sl)) Q E s := by
  have hroom : sizeOk (.seq its.toList.reverse.toArray) := by
    show its.toList.reverse.toArray.size ≤ sizeLine
    simpa using hsz
  obtain ⟨os, hos, hcs, hds⟩ := id hs
  have hTs : s.TypeIs (.ref sl) "slice" := ⟨os, hos, hcs⟩
  unfold getItem
  try with_reducible refine wpAny_holding ?_
  first | refine wpAny_bind (wpAny_pure ?_) | skip
  refine wpAny_bind (wpAny_sequenceKey ht.typeIs (by decide) ?_)
  refine wpAny_bind (wpAny_callSpecial?_slot (name := Str.ofString "__getitem__") ht.typeIs PyProof.Rows.slot_tuple_getitem
    (wpAny_call_entry PyProof.Rows.slot_tuple_getitem ht.typeIs entry_tuple_getitem ?_ (args_tuple_getitem _ _)))
  show wpAny _ _ (Builtin.Tuple.tupleItemsOf (.ref t) >>= _) _ _ s
  refine wpAny_bind (tupleItemsOf_ ht ?_)
  refine wpAny_bind (wpAny_typeOf hTs ?_)
  rw [if_pos (by decide)]
  refine wpAny_bind (sl_app_rev hs pl pu ps ?_)
  have hno : ¬ (((((its.size : Nat) : Int) - 1) == 0 && (-1 : Int) == 1 && its.size == its.size) = true) := by
    intro q
    rw [Bool.and_eq_true, Bool.and_eq_true] at q
    have : (-1 : Int) = 1 := eq_of_beq q.1.2
    omega
  show wpAny _ _ (if ((((its.size : Nat) : Int) - 1) == 0 && (-1 : Int) == 1 && its.size == its.size) = true then _ else _) _ _ s
  rw [if_neg hno, pick_rev]
  first
    | exact wpAny_bind (m := Builtin.Tuple.tupleExact _) (wpAny_newObj_type (wpAny_pure ⟨_, rfl, wpAny_pure h⟩) hroom)
    | exact wpAny_bind (m := Builtin.Tuple.tupleExact _) (wpAny_newObj_type (wpAny_bind (wpAny_pure (wpAny_pure ⟨_, rfl, wpAny_pure h⟩))) hroom)
    | exact wpAny_bind (wpAny_bind (m := Builtin.Tuple.tupleExact _) (wpAny_newObj_type (wpAny_pure (wpAny_pure ⟨_, rfl, wpAny_pure h⟩)) hroom))
    | exact wpAny_bind (wpAny_bind (m := Builtin.Tuple.tupleExact _) (wpAny_newObj_type (wpAny_pure ⟨_, rfl, wpAny_pure h⟩) hroom))
def tRevT (K : PySem.W.Frag) (te : TE) : TE := fun σ H Q => te σ H fun x H1 => ∃ a xs, x = .ref a ∧ SqT K H1 a xs ∧ ∀ p, H1 p = none → Q (.ref p) (upd H1 p (.tup xs.reverse))
theorem pe_revT {te : TE} {j : Nat} {p1 p2 p3 : Pos} (he : PE X e te) : PE X (.Subscript e (.Slice none none (some (.UnaryOp .USub (.Constant (.int 1) j p1) p2)) p3) pos) (tRevT X.K te) := by
  refine ⟨fun pins s σ H Q I h => ?_⟩
  refine Subscript_ (thn (he.run pins s σ H _ I h) fun v s1 ⟨x, H1, I1, r1, q1⟩ => ?_)
  obtain ⟨a, xs, ex, hx, q⟩ := q1
  subst ex
  cases r1
  have hst : PO X (some (.UnaryOp .USub (.Constant (.int 1) j p1) p2)) (tPart (tUn (rU fun i => .int (-i)) (tC (.int 1)))) := po_some (pe_un un_neg pe_int)
  refine wpAny_Slice (thn (po_none.run pins s1 σ H1 (fun o H2 => o = none ∧ H2 = H1) I1 ⟨rfl, rfl⟩) fun vl s2 ⟨l, H2, I2, pl, el, e2⟩ => ?_)
  subst el e2
  refine thn (po_none.run pins s2 σ H2 (fun o H3 => o = none ∧ H3 = H2) I2 ⟨rfl, rfl⟩) fun vu s3 ⟨u, H3, I3, pu, eu, e3⟩ => ?_
  subst eu e3
  refine thn (hst.run pins s3 σ H3 (fun o H4 => o = some (-1) ∧ H4 = H3) I3 ⟨1, rfl, -1, rfl, rfl, rfl⟩) fun vs s4 ⟨o, H4, I4, ps, eo, e4⟩ => ?_
  subst eo e4
  have I5 : Inv X pins σ H4 { s4 with heap := s4.heap.push { cls := .type "slice", data := .fields #[vl, vu, vs] } } := I4.kept (t' := s4.toks) fun b ob q => Heap.get?_push_of_some _ q
  obtain ⟨its, r, ht, hz⟩ := I5.tuple hx
  have hlen := r.length
  show wpAny (model X.prog X.w) X.A (subscriptTail e (.Slice none none (some (.UnaryOp .USub (.Constant (.int 1) j p1) p2)) p3) (.ref a) (.ref s4.heap.objs.size)) (EP X pins σ Q) X.xe { s4 with heap := s4.heap.push { cls := .type "slice", data := .fields #[vl, vu, vs] } }
  refine tail_any (ops := [.ref a, .ref s4.heap.objs.size]) ht.typeIs (PyProof.Rows.slot_tuple_getitem.lookup) ?_ (by with_unfolding_all rfl)
  refine getItem_tup_rev ht (Heap.IsSliceOf.new _ vl vu vs) pl pu ps ?_ (by rw [List.size_toArray]; omega)
  refine ⟨.ref _, _, I5.laid (t' := s4.toks) (o := .tup xs.reverse) (fun b ob q => Heap.get?_push_of_some _ q) (Nat.le_refl _) ?_, rfl, q _ (I5.hok.fresh (Nat.le_refl _))⟩
  exact ⟨by rw [List.length_reverse]; exact hz, its.reverse, r.reverse, ⟨_, Heap.get?_push_size _ rfl, rfl, _, rfl⟩⟩
def revT : D → Option D
  | .tup ds => some (.tup ds.reverse)
  | _ => none
def eRevT (f : Env → M D) : Env → M D := fun ρ => bnd (f ρ) fun d => opt (revT d)
theorem de_revT {j : Nat} {p1 p2 p3 : Pos} (h1 : DE .B X E e f) : DE k X E (.Subscript e (.Slice none none (some (.UnaryOp .USub (.Constant (.int 1) j p1) p2)) p3) pos) (eRevT f) :=
  PE.imp (pe_revT h1) fun σ H Q ⟨H0, g, S, ρ, w, r, q⟩ => ⟨H0, g, S, ρ, w, r, (OutE.bnd q).imp fun d S1 q1 g1 H1 v e1 w1 kr => by
    cases d <;> try exact q1.elim
    obtain ⟨a, vs, rfl, h, rr⟩ := RB.tup w1 kr
    exact ⟨a, vs, rfl, h, fun p hp => q_tup w1 hp rr.reverse fun g2 H2 u e2 w2 k2 => q1 g2 H2 u (e1.trans e2) w2 (KR.back e1 k2)⟩⟩
/-! ### a list that becomes a box -/
def sRetBox (f : Env → M D) : Env → M Fl := fun ρ => bnd (f ρ) fun d => match d with
  | .lst ds => fun S => .ok (.rt (.box (List.length S))) (S ++ [.lst ds])
  | _ => stk
theorem ds_retBox (h1 : DE .F X E e f) : DS X E (.Return (some e) pos) (sRetBox f) := PS.imp (ps_ret h1) fun Dn σ H ⟨g0, H0, g, S, ρ, e0, w, r, q⟩ =>
  ⟨H0, g, S, ρ, w, r, (OutE.bnd0 q e0).imp fun d S1 q1 g1 H1 v e1 w1 kr => by
    cases d <;> try exact q1.elim
    rename_i dl
    rcases kr with ⟨_, kr⟩ | ⟨a, vs, ds, rfl, hd, k1, k2, k3, k4, k5⟩
    · cases kr
    cases hd
    have pre : g1.β <+: g1.β ++ [a] := List.prefix_append _ _
    have hH0 : H0 a = none := by
      cases qq : H0 a with
      | none => rfl
      | some o => exact absurd k5 (e0.there a (by rw [qq]; exact fun z => nomatch z))
    have e01 := e0.trans e1
    have e' : Ext g0 H0 ⟨g1.β ++ [a], g1.F⟩ H1 := ⟨e01.box.trans pre, e01.fz, e01.keep, e01.there, e01.fnew, fun b hb => (List.mem_append.mp hb).elim (e01.bnew b) fun z => .inr (by rw [List.mem_singleton.mp z]; exact hH0)⟩
    have w' : Wd X.K X.mg ⟨g1.β ++ [a], g1.F⟩ (S1 ++ [.lst dl]) H1 := by
      refine ⟨w1.sub, ?_, ?_, fun b hb => (List.mem_append.mp hb).elim (w1.bfz b) fun z => by rw [List.mem_singleton.mp z]; exact k3, fun i b bx h1 h2 => ?_⟩
      · refine List.nodup_append.mpr ⟨w1.nd, by simp, fun x hx y hy => ?_⟩
        rw [List.mem_singleton.mp hy]
        rintro rfl
        exact k4 hx
      · show (g1.β ++ [a]).length = (S1 ++ [Bx.lst dl]).length
        rw [List.length_append, List.length_append, w1.len]; rfl
      · by_cases hi : i < g1.β.length
        · rw [List.getElem?_append_left hi] at h1
          rw [List.getElem?_append_left (by rw [← w1.len]; exact hi)] at h2
          exact BxOk.mono (g := g1) (g' := ⟨g1.β ++ [a], g1.F⟩) pre (fun _ _ h => h) rfl (w1.box i b bx h1 h2)
        · have hi2 : i = g1.β.length := by
            have := (List.getElem?_eq_some_iff.mp h1).1
            simp at this
            omega
          subst hi2
          rw [List.getElem?_append_right (Nat.le_refl _)] at h1
          rw [w1.len, List.getElem?_append_right (Nat.le_refl _)] at h2
          simp at h1 h2
          subst h1 h2
          exact ⟨vs, k1, RpAll.mono (g := g1) (g' := ⟨g1.β ++ [a], g1.F⟩) pre (fun _ _ h => h) k2⟩
    exact q1 ⟨g1.β ++ [a], g1.F⟩ H1 _ e' ⟨e1.mn.1.trans pre, e1.mn.2⟩ w' (.box (by
      show (g1.β ++ [a])[S1.length]? = some a
      rw [← w1.len, List.getElem?_append_right (Nat.le_refl _)]
      simp))⟩
end
end Dl

set_option Elab.async false
set_option linter.all false
set_option maxRecDepth 100000
set_option autoImplicit false
namespace Dl
open PySem PySem.Spec L2
open PyProof.Rows hiding St
open AutoSeq1 (wpAny_loadPart')

theorem tup_mul_same (l : Addr) (its : Array Value) (n : Nat) (dd : Option Addr) (sl : Array (Option Value)) (x : Int) (u : Tok) (c0 : (decide (x < -(2 ^ 63)) || decide (x ≥ 2 ^ 63)) = false) (c1 : (its.isEmpty || x == 1) = true) :
    Meets (Builtin.«tuple.__mul__» ⟨[.ref l, .int x u], []⟩) (fun _ R s => s.heap.get? l = some { cls := .type "tuple", dict := dd, data := .seq its n, slots := sl } ∧ R (.ok (.ret (.ref l))) s) :=
  .of_wp fun prog w A R s h => by
    obtain ⟨hp, ge, dr, tk, os⟩ := s
    obtain ⟨hl, h⟩ := h
    have f1 := AutoSeq1.idx_int
    wp_walk using wpAny_loadPart' hl
    refine wpAny_ite_false (decide_eq_false (by rw [c0]; exact Bool.false_ne_true)) ?_
    wp_walk using wpAny_loadPart' hl
    exact ⟨_, rfl, h⟩
theorem tup_mul_nil (l : Addr) (its : Array Value) (n : Nat) (dd : Option Addr) (sl : Array (Option Value)) (x : Int) (u : Tok) (c0 : (decide (x < -(2 ^ 63)) || decide (x ≥ 2 ^ 63)) = false) (c1 : (its.isEmpty || x == 1) = false) (c2 : (decide (x ≤ 0) || its.isEmpty) = true) :
    Meets (Builtin.«tuple.__mul__» ⟨[.ref l, .int x u], []⟩) (fun _ R s => s.heap.get? l = some { cls := .type "tuple", dict := dd, data := .seq its n, slots := sl } ∧ R (.ok (.ret (.ref s.heap.objs.size))) { s with heap := s.heap.push { cls := Value.type "tuple", data := Data.seq #[] }, toks := s.toks }) :=
  .of_wp fun prog w A R s h => by
    obtain ⟨hp, ge, dr, tk, os⟩ := s
    obtain ⟨hl, h⟩ := h
    have f1 := AutoSeq1.idx_int
    wp_walk using wpAny_loadPart' hl
    refine wpAny_ite_false (decide_eq_false (by rw [c0]; exact Bool.false_ne_true)) ?_
    wp_walk using wpAny_loadPart' hl
    exact ⟨_, rfl, h⟩
section
variable {X : Cx} {k : Kd}
def rMulT (K : PySem.W.Frag) : R2 := fun x y H Q => ∃ l j xs, x = .ref l ∧ y = .int j ∧ SqT K H l xs ∧ -(2 ^ 63) ≤ j ∧ j < 2 ^ 63 ∧ (((xs = [] ∨ j = 1) ∧ Q (.ref l) H) ∨ (xs ≠ [] ∧ j ≤ 0 ∧ ∀ p, H p = none → Q (.ref p) (upd H p (.tup []))))
theorem op_mulT0 : OpR X (binaryOp .Mult) (rMulT X.K) := by
  intro pins s σ H x y v u Q I rx ry h
  obtain ⟨l, j, xs, rfl, rfl, hT, h1, h2, q⟩ := h
  cases rx
  obtain ⟨t, rfl⟩ := ry
  obtain ⟨its, r, ⟨⟨cls, dd, data, sl⟩, ho, hc, n, hd⟩, hs⟩ := I.tuple hT
  simp only at hc hd
  subst hc hd
  have hle : its.length = xs.length := r.length.symm
  have c0 : (decide (j < -(2 ^ 63)) || decide (j ≥ 2 ^ 63)) = false := by
    rw [decide_eq_false (by omega), decide_eq_false (by omega)] <;> rfl
  rcases q with ⟨hx, q⟩ | ⟨hx, hj, q⟩
  · have c1 : (its.toArray.isEmpty || j == 1) = true := by
      rcases hx with e | e
      · rw [e] at hle
        have : its = [] := List.eq_nil_of_length_eq_zero hle
        rw [this]; rfl
      · rw [e]; simp
    exact wpAny_binaryOp_repeat_ref (T := "tuple") (U := "int") (by decide) ⟨_, ho, rfl⟩ (fun s' => typeIs_int s' j t) noFill_tuple_mul F.fills_int_mul F.slot_int_rmul repeat_tuple F.slot_int_index.lookup
      (call_meets F.slot_int_rmul (typeIs_int s j t) F.entry_int_rmul (F.args_int_rmul_2 _ _) (int_rmul_tuple j t l its.toArray n dd sl)
        ⟨ho, rfl, ⟨_, ho, rfl⟩, call_meets F.slot_tuple_mul ⟨_, ho, rfl⟩ F.entry_tuple_mul (F.args_tuple_mul_2 _ _) (tup_mul_same l its.toArray n dd sl j t c0 c1) ⟨ho, ⟨.ref l, H, I, rfl, q⟩⟩⟩)
  · have hn : its ≠ [] := fun e => hx (by
      rw [e] at hle
      exact List.eq_nil_of_length_eq_zero hle.symm)
    have hi : its.toArray.isEmpty = false := by
      cases its with
      | nil => exact absurd rfl hn
      | cons a b => rfl
    have c1 : (its.toArray.isEmpty || j == 1) = false := by
      rw [hi, Bool.false_or]
      exact beq_eq_false_iff_ne.mpr (by omega)
    have c2 : (decide (j ≤ 0) || its.toArray.isEmpty) = true := by rw [decide_eq_true hj]; rfl
    refine wpAny_binaryOp_repeat_ref (T := "tuple") (U := "int") (by decide) ⟨_, ho, rfl⟩ (fun s' => typeIs_int s' j t) noFill_tuple_mul F.fills_int_mul F.slot_int_rmul repeat_tuple F.slot_int_index.lookup
      (call_meets F.slot_int_rmul (typeIs_int s j t) F.entry_int_rmul (F.args_int_rmul_2 _ _) (int_rmul_tuple j t l its.toArray n dd sl)
        ⟨ho, rfl, ⟨_, ho, rfl⟩, call_meets F.slot_tuple_mul ⟨_, ho, rfl⟩ F.entry_tuple_mul (F.args_tuple_mul_2 _ _) (tup_mul_nil l its.toArray n dd sl j t c0 c1 c2) ⟨ho, ?_⟩⟩)
    refine ⟨.ref s.heap.objs.size, _, I.laid (t' := s.toks) (o := .tup []) (fun b ob q => Heap.get?_push_of_some _ q) (Nat.le_refl _) ?_, rfl, q _ (I.hok.fresh (Nat.le_refl _))⟩
    exact ⟨Nat.zero_le _, [], .nil, IsTup.new _ _⟩
/-- a tuple many times, whatever the number -/
def mulTA : D → D → Option D
  | .tup ds, .int i => if -(2 ^ 63) ≤ i ∧ i ≤ 1000 ∧ ds.length ≤ 1000 then some (.tup (List.replicate i.toNat ds).flatten) else none
  | _, _ => none
theorem rep_nil {α : Type} (n : Nat) : (List.replicate n ([] : List α)).flatten = [] := by induction n <;> simp_all [List.replicate_succ]
theorem od_mulTA : OpD X k (binaryOp .Mult) mulTA := ⟨_, OpR.or op_repT op_mulT0, fun g S H v w d e z Q wd rv rw_ hz hq => by
  unfold mulTA at hz
  split at hz
  · rename_i ds i
    split at hz
    · rename_i hh
      cases hz
      have p := rv.tupP
      obtain ⟨a, vs, rfl, h1, r1⟩ := rv.tup wd
      cases rw_.int
      by_cases hn : ds = []
      · subst hn
        rw [rep_nil] at hq
        exact .inr ⟨a, i, vs, rfl, rfl, h1, hh.1, by omega, .inl ⟨.inl ((nil_of r1).mpr rfl), hq g H _ Ext.refl wd (KR.ofS p)⟩⟩
      · have hv : vs ≠ [] := fun e => hn ((nil_of r1).mp e)
        by_cases h2 : 2 ≤ i
        · exact .inl ⟨a, i, vs, rfl, rfl, h1, hv, h2, hh.2.1, by rw [r1.length]; exact hh.2.2, fun p hp => q_tup wd hp (r1.rep _) hq⟩
        · by_cases h3 : i = 1
          · subst h3
            have e : (List.replicate (1 : Int).toNat ds).flatten = ds := by simp
            rw [e] at hq
            exact .inr ⟨a, 1, vs, rfl, rfl, h1, by decide, by decide, .inl ⟨.inr rfl, hq g H _ Ext.refl wd (KR.ofS p)⟩⟩
          · have h4 : i ≤ 0 := by omega
            have e : (List.replicate i.toNat ds).flatten = [] := by rw [show i.toNat = 0 by omega]; rfl
            rw [e] at hq
            exact .inr ⟨a, i, vs, rfl, rfl, h1, hh.1, by omega, .inr ⟨hv, h4, fun p hp => q_tup wd hp .nil hq⟩⟩
    · cases hz
  · cases hz⟩
end
/-! ### sorted of pairs of ints -/
def pairOf : D → Option (Int × Int)
  | .tup [.int a, .int b] => some (a, b)
  | _ => none
def pairsOfD : List D → Option (List (Int × Int))
  | [] => some []
  | d :: ds => (pairOf d).bind fun p => (pairsOfD ds).map (p :: ·)
def pairD (p : Int × Int) : D := .tup [.int p.1, .int p.2]
def pairLt (p q : Int × Int) : Bool := decide (p.1 < q.1) || (decide (p.1 = q.1) && decide (p.2 < q.2))
def pins (p : Int × Int) : List (Int × Int) → List (Int × Int)
  | [] => [p]
  | q :: r => if pairLt q p = true then q :: pins p r else p :: q :: r
def psort : List (Int × Int) → List (Int × Int)
  | [] => []
  | p :: r => pins p (psort r)
def sortP : List D → Option D
  | [.lst ds] => (pairsOfD ds).map fun ps => .lst ((psort ps).map pairD)
  | _ => none
end Dl

set_option Elab.async false
set_option linter.all false
set_option maxRecDepth 100000
set_option autoImplicit false
namespace Dl
open PySem PySem.Spec L2
open PyProof.Rows hiding St
open PySem.SeqAt
open PySem.AutoSeq1 (wpAny_loadPart')
open PySem.MeetsSeq PySem.MeetsSeq2 PySem.MeetsSeq3

/-! ### the order of data: ints, texts, tuples of these -/
mutual
def ltPy : PyData → PyData → Option Bool
  | .int a, .int b => some (decide (a < b))
  | .str a, .str b => some (decide (a.cps.toList < b.cps.toList))
  | .tuple xs, .tuple ys => ltPyAll xs ys
  | _, _ => none
def ltPyAll : List PyData → List PyData → Option Bool
  | [], [] => some false
  | [], _ :: _ => some true
  | _ :: _, [] => some false
  | x :: xs, y :: ys => if PyData.eqv x y = true then ltPyAll xs ys else ltPy x y
end

def LtAt (A : Around) (s : Shared) (u v : Value) (b : Bool) : Prop := ∀ (prog : Program) (w : World) (E Q : Value → Shared → Prop), Q (.bool b) s → wpAny (model prog w) A (richCompare .Lt u v) Q E s
/-- the pairs of two tuples, from some place on: ys longer, shorter or as long -/
inductive LexAt (A : Around) (s : Shared) : List Value → List Value → Bool → Prop
  | nil2 : LexAt A s [] [] false
  | nil (v : Value) (vs : List Value) : LexAt A s [] (v :: vs) true
  | cons0 (v : Value) (vs : List Value) : LexAt A s (v :: vs) [] false
  | same {u v : Value} {us vs : List Value} {b : Bool} : SeqAt.EqAt A s u v true → LexAt A s us vs b → LexAt A s (u :: us) (v :: vs) b
  | diff {u v : Value} {us vs : List Value} {b : Bool} : SeqAt.EqAt A s u v false → LtAt A s u v b → LexAt A s (u :: us) (v :: vs) b

theorem tup_lt_meets (l b : Addr) (its its2 : Array Value) (n n2 : Nat) (dd dd2 : Option Addr) (sl sl2 : Array (Option Value)) (r : Bool) :
    Meets (Builtin.«tuple.__lt__» ⟨[.ref l, .ref b], []⟩)
      (fun A R s => s.heap.get? l = some { cls := .type "tuple", dict := dd, data := .seq its n, slots := sl } ∧ s.heap.get? b = some { cls := .type "tuple", dict := dd2, data := .seq its2 n2, slots := sl2 } ∧
        LexAt A.in1 s its.toList its2.toList r ∧ R (.ok (.ret (.bool r))) s) :=
  .of_wp fun prog w A R s h => by
    obtain ⟨hp, g, d, tk, os⟩ := s; obtain ⟨hl, hb, hx, h⟩ := h
    have f2 := AutoSeq1.sub_tuple_tuple
    wp_walk using wpAny_loadPart' hl, wpAny_loadPart' hb, wpAny_forIn_list _ (fun rest b s' => b.1 = none ∧ s' = ⟨hp, g, d, tk, os⟩ ∧ ∃ (vs ws : List Value), rest = vs.zip ws ∧
      LexAt A.in1 ⟨hp, g, d, tk, os⟩ vs ws r ∧ vs.length + its2.size = ws.length + its.size) _
    case turn =>
      rintro ⟨y, x⟩ rest b s' ⟨hb', rfl, vs, ws, hz, hx, hlen⟩
      cases hx with
      | nil2 => cases hz
      | nil v vs => rw [List.zip_nil_left] at hz; cases hz
      | cons0 v vs => rw [List.zip_nil_right] at hz; cases hz
      | same he hx' =>
        rw [List.zip_cons_cons] at hz
        injection hz with hyx hrest
        injection hyx with hy hx2
        subst hy hx2
        simp only [List.length_cons] at hlen
        refine wpAny_bind (he prog w _ _ ?_)
        wp_walk
        exact ⟨rfl, rfl, _, _, hrest, hx', by omega⟩
      | diff he hlt =>
        rw [List.zip_cons_cons] at hz
        injection hz with hyx hrest
        injection hyx with hy hx2
        subst hy hx2
        refine wpAny_bind (he prog w _ _ ?_)
        have hri := hlt prog w
        wp_walk using hri
        exact ⟨_, rfl, h⟩
    case fin =>
      rintro ⟨b1, b2⟩ s' ⟨hb', rfl, vs, ws, hz, hx, hlen⟩
      simp only at hb'
      subst hb'
      have hv : r = decide (its.size < its2.size) := by
        cases hx with
        | nil2 =>
          simp only [List.length_nil] at hlen
          exact (decide_eq_false (by omega)).symm
        | nil v vs =>
          simp only [List.length_nil, List.length_cons] at hlen
          exact (decide_eq_true (by omega)).symm
        | cons0 v vs =>
          simp only [List.length_nil, List.length_cons] at hlen
          exact (decide_eq_false (by omega)).symm
        | same _ _ => rw [List.zip_cons_cons] at hz; cases hz
        | diff _ _ => rw [List.zip_cons_cons] at hz; cases hz
      rw [hv] at h
      wp_walk
      exact ⟨_, rfl, by simpa [Builtin.Tuple.tupleCompareSizes] using h⟩
    case h =>
      exact ⟨rfl, rfl, its.toList, its2.toList, rfl, hx, by simp; omega⟩
theorem lt_tup {A : Around} {s : Shared} {l b : Addr} {its its2 : Array Value} {r : Bool} (hl : IsTup s.heap l its) (hb : IsTup s.heap b its2) (hu : A.units < cLine) (hx : LexAt A.in1 s its.toList its2.toList r) : LtAt A s (.ref l) (.ref b) r := fun prog w E Q h => by
  obtain ⟨⟨cls, dd, data, sl⟩, ho, hc, n, hd⟩ := id hl
  obtain ⟨⟨cls2, dd2, data2, sl2⟩, ho2, hc2, n2, hd2⟩ := id hb
  simp only at hc hd hc2 hd2
  subst hc hd hc2 hd2
  exact richCompare_meets_room (op := .Lt) ⟨_, ho, rfl⟩ ⟨_, ho2, rfl⟩ PySem.F.slot_tuple_lt PySem.F.entry_tuple_lt (PySem.F.args_tuple_lt_2 _ _) (tup_lt_meets l b its its2 n n2 dd dd2 sl sl2 r)
    ⟨ho, ho2, hx, show Value.bool r ≠ Value.notImplemented ∧ Q (.bool r) s from ⟨(fun x => nomatch x), h⟩⟩ hu

mutual
theorem lt_reads : ∀ (d e : PyData) (A : Around) (s : Shared) (u v : Value) (as bs : List Addr) (b : Bool), Reads s.heap u d as → Reads s.heap v e bs → d.canLay0 = true → e.canLay0 = true → A.units + d.depth + 1 < cLine → ltPy d e = some b → LtAt A s u v b
  | .int x, .int y, A, s, u, v, as, bs, b, ru, rv, _, _, _, h => by
    simp only [ltPy] at h; cases h
    cases ru; cases rv
    exact fun prog w E Q q => (PyProof.Rows.lt_int q : wpAny (model prog w) A (compareOp .Lt _ _) Q E s)
  | .str x, .str y, A, s, u, v, as, bs, b, ru, rv, _, _, _, h => by
    simp only [ltPy] at h; cases h
    cases ru; cases rv
    exact fun prog w E Q q => (PyProof.Rows.lt_str q : wpAny (model prog w) A (compareOp .Lt _ _) Q E s)
  | .tuple xs, .tuple ys, A, s, u, v, as, bs, b, ru, rv, hd, he, hu, h => by
    simp only [ltPy] at h
    have hdep : (PyData.tuple xs).depth = PyData.depthAll xs + 1 := rfl
    cases ru with
    | @tuple a o vs n _ _ h1 h2 h3 h4 =>
      cases rv with
      | @tuple a' o' vs' n' _ _ k1 k2 k3 k4 =>
        refine lt_tup ⟨_, h1, h2, _, h3⟩ ⟨_, k1, k2, _, k3⟩ (by omega) ?_
        refine lex_reads xs ys A.in1 s vs.toList vs'.toList _ _ b h4 k4 (by simpa [PyData.canLay0] using hd) (by simpa [PyData.canLay0] using he) ?_ h
        show A.units + 1 + _ + 1 < cLine
        omega
  | .none, e, A, s, u, v, as, bs, b, _, _, _, _, _, h => by cases e <;> simp [ltPy] at h
  | .bool _, e, A, s, u, v, as, bs, b, _, _, _, _, _, h => by cases e <;> simp [ltPy] at h
  | .list _, e, A, s, u, v, as, bs, b, _, _, _, _, _, h => by cases e <;> simp [ltPy] at h
  | .dict _, e, A, s, u, v, as, bs, b, _, _, _, _, _, h => by cases e <;> simp [ltPy] at h
  | .int _, .none, A, s, u, v, as, bs, b, _, _, _, _, _, h => by simp [ltPy] at h
  | .int _, .bool _, A, s, u, v, as, bs, b, _, _, _, _, _, h => by simp [ltPy] at h
  | .int _, .str _, A, s, u, v, as, bs, b, _, _, _, _, _, h => by simp [ltPy] at h
  | .int _, .list _, A, s, u, v, as, bs, b, _, _, _, _, _, h => by simp [ltPy] at h
  | .int _, .tuple _, A, s, u, v, as, bs, b, _, _, _, _, _, h => by simp [ltPy] at h
  | .int _, .dict _, A, s, u, v, as, bs, b, _, _, _, _, _, h => by simp [ltPy] at h
  | .str _, .none, A, s, u, v, as, bs, b, _, _, _, _, _, h => by simp [ltPy] at h
  | .str _, .bool _, A, s, u, v, as, bs, b, _, _, _, _, _, h => by simp [ltPy] at h
  | .str _, .int _, A, s, u, v, as, bs, b, _, _, _, _, _, h => by simp [ltPy] at h
  | .str _, .list _, A, s, u, v, as, bs, b, _, _, _, _, _, h => by simp [ltPy] at h
  | .str _, .tuple _, A, s, u, v, as, bs, b, _, _, _, _, _, h => by simp [ltPy] at h
  | .str _, .dict _, A, s, u, v, as, bs, b, _, _, _, _, _, h => by simp [ltPy] at h
  | .tuple _, .none, A, s, u, v, as, bs, b, _, _, _, _, _, h => by simp [ltPy] at h
  | .tuple _, .bool _, A, s, u, v, as, bs, b, _, _, _, _, _, h => by simp [ltPy] at h
  | .tuple _, .int _, A, s, u, v, as, bs, b, _, _, _, _, _, h => by simp [ltPy] at h
  | .tuple _, .str _, A, s, u, v, as, bs, b, _, _, _, _, _, h => by simp [ltPy] at h
  | .tuple _, .list _, A, s, u, v, as, bs, b, _, _, _, _, _, h => by simp [ltPy] at h
  | .tuple _, .dict _, A, s, u, v, as, bs, b, _, _, _, _, _, h => by simp [ltPy] at h
theorem lex_reads : ∀ (xs ys : List PyData) (A : Around) (s : Shared) (us vs : List Value) (as bs : List Addr) (b : Bool), ReadsAll s.heap us xs as → ReadsAll s.heap vs ys bs → PyData.canLayAll0 xs = true → PyData.canLayAll0 ys = true → A.units + PyData.depthAll xs + 1 < cLine → ltPyAll xs ys = some b → LexAt A s us vs b
  | [], [], A, s, us, vs, as, bs, b, ru, rv, _, _, _, h => by
    cases ru; cases rv
    simp only [ltPyAll] at h; cases h
    exact .nil2
  | [], _ :: _, A, s, us, vs, as, bs, b, ru, rv, _, _, _, h => by
    cases ru
    cases rv
    simp only [ltPyAll] at h; cases h
    exact .nil _ _
  | _ :: _, [], A, s, us, vs, as, bs, b, ru, rv, _, _, _, h => by
    cases rv
    cases ru
    simp only [ltPyAll] at h; cases h
    exact .cons0 _ _
  | x :: xs, y :: ys, A, s, us, vs, as, bs, b, ru, rv, hd, he, hu, h => by
    cases ru with
    | cons r1 r2 =>
      cases rv with
      | cons q1 q2 =>
        have hd' : x.canLay0 = true ∧ PyData.canLayAll0 xs = true := by simpa [PyData.canLayAll0] using hd
        have he' : y.canLay0 = true ∧ PyData.canLayAll0 ys = true := by simpa [PyData.canLayAll0] using he
        have hdep : PyData.depthAll (x :: xs) = max x.depth (PyData.depthAll xs) := rfl
        have hx1 : x.depth ≤ PyData.depthAll (x :: xs) := by rw [hdep]; exact Nat.le_max_left _ _
        have hx2 : PyData.depthAll xs ≤ PyData.depthAll (x :: xs) := by rw [hdep]; exact Nat.le_max_right _ _
        have eq := SeqAt.eqAt_reads x y A s _ _ _ _ r1 q1 hd'.1 he'.1 (by have := Nat.min_le_left x.depth y.depth; omega)
        simp only [ltPyAll] at h
        cases e : PyData.eqv x y with
        | true =>
          rw [e] at eq h
          exact .same eq (lex_reads xs ys A s _ _ _ _ b r2 q2 hd'.2 he'.2 (by omega) (by simpa using h))
        | false =>
          rw [e] at eq h
          exact .diff eq (lt_reads x y A s _ _ _ _ b r1 q1 hd'.1 he'.1 (by omega) (by simpa using h))
end
end Dl

set_option Elab.async false
set_option linter.all false
set_option maxRecDepth 100000
set_option autoImplicit false
namespace Dl
open PySem PySem.Spec L2
open PyProof.Rows hiding St

section
variable {X : Cx} {E : XK} {e a b tg : Expr} {es : List Expr} {st : Stmt} {sts : List Stmt} {f h f1 f2 : Env → M D} {fs hs' : Env → M Fl} {fb : Env → M Bool} {fa : Env → M (List D)} {pos : Pos} {k : Kd}

/-! ### target = e, any target -/
def sAsg (f : Env → M D) (fg : D → Env → Option Env) : Env → M Fl := fun ρ => bnd (f ρ) fun d => bnd (opt (fg d ρ)) fun ρ' => ret (.nx ρ')
theorem ds_asg {sl : List Nat} {fg : D → Env → Option Env} (h1 : DE .P X E e f) (hg : DG X sl tg fg) (hs : swapsWithSole [tg] e pos.line X.env = pure false := by rfl) (hw : swappedStores [tg] e X.env = pure none := by rfl)
    (ha : (assignEach [tg] X.env).map (·.2) = [assign tg X.env] := by rfl) : DS X E (.Assign [tg] e pos) (sAsg f fg) :=
  PS.imp (ps_asg h1 hg hs hw ha) fun Dn σ H ⟨g0, H0, g, S, ρ, e0, w, r, q⟩ => ⟨H0, g, S, ρ, w, r, (OutE.bnd0 q e0).imp fun d S1 q1 g1 H1 v e1 w1 kr => by
    refine ⟨H0, g1, S1, ρ, d, w1, r.ext w e1, kr, ?_⟩
    cases hz : fg d ρ with
    | none => rw [hz] at q1; exact q1.elim
    | some ρ' =>
      rw [hz] at q1
      exact fun σ' r' _ _ => q1 g1 H1 σ' (e0.trans e1) e1.mn w1 r'⟩

/-! ### three names at once, all data -/
def sPar3 (i j l : Nat) (fa : Env → M (List D)) : Env → M Fl := fun ρ => bnd (fa ρ) fun ds => match ds with
  | [x, y, z] => ret (.nx (((ρ.set i (.dat x)).set j (.dat y)).set l (.dat z)))
  | _ => stk
theorem ds_par3 (i j l : Nat) (ha : DA .P X E es fa) (hP : PA X es (tDA X.K X.mg .P E fa) → PS X st (tPar3 i j l (tDA X.K X.mg .P E fa))) : DS X E st (sPar3 i j l fa) :=
  PS.imp (hP ha) fun Dn σ H ⟨g0, H0, g, S, ρ, e0, w, r, q⟩ => ⟨H0, g, S, ρ, w, r, (OutE.bnd0 q e0).imp fun ds S1 q1 g1 H1 vs e1 w1 kr => by
    have kr : RpAll X.K X.mg g1 vs ds := kr
    split at q1
    · cases kr with
      | cons r1 kr =>
        cases kr with
        | cons r2 kr =>
          cases kr with
          | cons r3 kr =>
            cases kr
            exact ⟨_, _, _, rfl, q1 g1 H1 _ (e0.trans e1) e1.mn w1 ((((r.ext w e1).setD i r1).setD j r2).setD l r3)⟩
    · exact q1.elim⟩

/-! ### text * int -/
def mulS : D → D → Option D
  | .str x, .int n => if n < 1 then (if decide (-(2 ^ 63) ≤ n) = true then some (.str Str.empty) else none) else if decide (n < 2 ^ 63) = true then (if decide (x.length * n.toNat ≤ 1000000) = true then some (.str (if (n == 1 || x.length == 0) = true then x else ⟨(List.replicate n.toNat x.cps).foldl (· ++ ·) #[]⟩)) else none) else none
  | _, _ => none
def rMulS : R2 := fun x y H Q => ∃ i n, x = .str i ∧ y = .int n ∧ -(2 ^ 63) ≤ n ∧ n < 2 ^ 63 ∧ (1 ≤ n → i.length * n.toNat ≤ 1000000) ∧ Q (.str (if n < 1 then Str.empty else if (n == 1 || i.length == 0) = true then i else ⟨(List.replicate n.toNat i.cps).foldl (· ++ ·) #[]⟩)) H
theorem foldl_size : ∀ (n : Nat) (x : Array Nat) (acc : Array Nat), ((List.replicate n x).foldl (· ++ ·) acc).size = acc.size + n * x.size
  | 0, x, acc => by simp
  | n + 1, x, acc => by
    rw [List.replicate_succ, List.foldl_cons, foldl_size n x, Array.size_append, Nat.succ_mul]; omega
theorem op_mulS : OpR X (binaryOp .Mult) rMulS := by
  intro pins s σ H x y v u Q I rx ry h
  obtain ⟨i, n, rfl, rfl, h1, h2, h3, q⟩ := h
  obtain ⟨t, rfl⟩ := rx
  obtain ⟨t', rfl⟩ := ry
  have hb : ∀ m : Nat, m ≤ 1000000 → m ≤ sizeLine := fun m hm => Nat.le_trans hm (by decide)
  refine P.mul_str ?_ ?_ ?_ ?_
  · rw [decide_eq_false (by omega), decide_eq_false (by omega)]; rfl
  · intro g1 g2 g3
    have h4 := h3 (by omega)
    have h5 : (i.length : Int) ≤ i.length * n.toNat := by
      have : i.length * 1 ≤ i.length * n.toNat := Nat.mul_le_mul_left _ (by omega)
      omega
    have h6 : (2 ^ 63 - 1) / n * n + (2 ^ 63 - 1) % n = (2 ^ 63 - 1 : Int) := Int.ediv_mul_add_emod _ _
    have h7 := Int.emod_lt_of_pos (2 ^ 63 - 1 : Int) (show 0 < n by omega)
    have h8 : ((2 ^ 63 - 1) / n + 1) * n ≤ (i.length : Int) * n := Int.mul_le_mul_of_nonneg_right (by omega) (by omega)
    have h9 : (i.length : Int) * n ≤ 1000000 := by
      have : ((i.length * n.toNat : Nat) : Int) = (i.length : Int) * n := by
        rw [Int.natCast_mul, Int.toNat_of_nonneg (by omega)]
      omega
    rw [Int.add_mul] at h8
    omega
  · intro g1 g2
    have h4 := hb _ (h3 (by omega))
    exact decide_eq_false (by omega)
  · by_cases c1 : n < 1
    · rw [if_pos c1]
      rw [if_pos c1] at q
      exact ⟨by decide, .str Str.empty, H, I.tok _, ⟨_, rfl⟩, q⟩
    · rw [if_neg c1]
      rw [if_neg c1] at q
      by_cases c2 : (n == 1 || i.length == 0) = true
      · rw [if_pos c2]
        rw [if_pos c2] at q
        exact ⟨.str i, H, I, ⟨_, rfl⟩, q⟩
      · rw [if_neg c2]
        rw [if_neg c2] at q
        refine ⟨?_, .str _, H, I.tok _, ⟨_, rfl⟩, q⟩
        have h4 := hb _ (h3 (by omega))
        show ((List.replicate n.toNat i.cps).foldl (· ++ ·) #[]).size ≤ sizeLine
        rw [foldl_size]
        have : i.cps.size = i.length := rfl
        rw [this, Nat.mul_comm]
        simpa using h4
theorem od_mulS : OpD X k (binaryOp .Mult) mulS := ⟨_, op_mulS, fun g S H v w d e z Q wd rv rw_ hz hq => by
  unfold mulS at hz
  split at hz
  · rename_i i n
    cases RB.str rv
    cases RB.int rw_
    split at hz
    · rename_i c1
      split at hz
      · rename_i c2
        cases hz
        exact ⟨i, n, rfl, rfl, of_decide_eq_true c2, by omega, fun z => absurd z (by omega), by rw [if_pos c1]; exact q_same wd (fun g => .str _) hq⟩
      · cases hz
    · rename_i c1
      split at hz
      · rename_i c2
        split at hz
        · rename_i c3
          cases hz
          exact ⟨i, n, rfl, rfl, by omega, of_decide_eq_true c2, fun _ => of_decide_eq_true c3, by rw [if_neg c1]; exact q_same wd (fun g => .str _) hq⟩
        · cases hz
      · cases hz
  · cases hz⟩

/-! ### a sign in a text -/
def inS : D → D → Option D
  | .str x, .str z => match x.cps.toList with
    | [c] => some (.bl (decide (c ∈ z.cps.toList)))
    | _ => none
  | _, _ => none
def notInS : D → D → Option D
  | .str x, .str z => match x.cps.toList with
    | [c] => some (.bl (!decide (c ∈ z.cps.toList)))
    | _ => none
  | _, _ => none
theorem sign_eq {x : Str} {c : Nat} (h : x.cps.toList = [c]) : x = ⟨#[c]⟩ := by
  cases x with
  | mk cps =>
    congr 1
    apply Array.toList_inj.mp
    exact h
theorem od_inS : OpD X k (compareOp .In) inS := ⟨_, op_in_sign, fun g S H v w d e z Q wd rv rw_ hz hq => by
  unfold inS at hz
  split at hz
  · split at hz
    · rename_i c hc
      cases hz
      cases RB.str rv
      cases RB.str rw_
      exact ⟨_, _, congrArg V.str (sign_eq hc), rfl, q_same wd (fun g => .bl _) hq⟩
    · cases hz
  · cases hz⟩
theorem od_notInS : OpD X k (compareOp .NotIn) notInS := ⟨_, op_notIn_sign, fun g S H v w d e z Q wd rv rw_ hz hq => by
  unfold notInS at hz
  split at hz
  · split at hz
    · rename_i c hc
      cases hz
      cases RB.str rv
      cases RB.str rw_
      exact ⟨_, _, congrArg V.str (sign_eq hc), rfl, q_same wd (fun g => .bl _) hq⟩
    · cases hz
  · cases hz⟩
end
end Dl

set_option Elab.async false
set_option linter.all false
set_option maxRecDepth 100000
set_option autoImplicit false
namespace Dl
open PySem PySem.Spec L2
open PyProof.Rows hiding St

section
variable {K : PySem.W.Frag} {mg : Str → Option Value} {g g' g'' : Gw} {H H' H'' H0 H0' : Hp} {S S' : Store} {σ σ' : St} {ρ ρ' : Env}
theorem OutE.unbnd {α β : Type} {E : XK} {m : Out α} {k : α → M β} {P : β → Store → Prop} (h : OutE K mg E g H m fun a S' => OutE K mg E g H (k a S') P) : OutE K mg E g H (m.next k) P := by
  cases m with
  | ok a S' => exact h
  | exc c fs S' => exact h
  | stuck => exact h
def noO : Slot → Slot
  | .own _ => .emp
  | s => s
def noOwn (ρ : Env) : Env := ρ.map noO
theorem RpE.no (r : RpE K mg g H H0 σ ρ) (m : Mn g g') : RpE K mg g' H' H0' σ (noOwn ρ) where
  len := by unfold noOwn; rw [List.length_map]; exact r.len
  at_ := fun i s h => by
    unfold noOwn at h
    rw [List.getElem?_map] at h
    cases q : ρ[i]? with
    | none => rw [q] at h; cases h
    | some t =>
      rw [q] at h
      cases h
      have z := r.at_ i t q
      cases t with
      | emp => trivial
      | own d => trivial
      | dat d => obtain ⟨v, h1, h2⟩ := z; exact ⟨v, h1, h2.mn m⟩
  sep := fun i j d e _ h1 _ => by
    exfalso
    unfold noOwn at h1
    rw [List.getElem?_map] at h1
    cases q : ρ[i]? with
    | none => rw [q] at h1; cases h1
    | some t => rw [q] at h1; cases t <;> cases h1
theorem grow {Ac : Addr} {acc acc' : List V} (e : Ext g H g' H') (w : Wd K mg g' S H') (hN : H Ac = none) (hac : H' Ac = some (.lst acc)) (hF : g'.F Ac = none) (hB : Ac ∉ g'.β) :
    Ext g H g' (upd H' Ac (.lst acc')) ∧ Wd K mg g' S (upd H' Ac (.lst acc')) := by
  refine ⟨⟨e.box, e.fz, fun a o ho hb => ?_, fun a ha => ?_, e.fnew, e.bnew⟩, ⟨fun a o h => ?_, w.nd, w.len, w.bfz, fun j a b h1 h2 => ?_⟩⟩
  · rw [upd_ne (ne_of_none ho hN)]
    exact e.keep a o ho hb
  · by_cases ea : a = Ac
    · subst ea; rw [upd_same]; exact fun z => nomatch z
    · rw [upd_ne ea]; exact e.there a ha
  · have : a ≠ Ac := by rintro rfl; rw [hF] at h; cases h
    rw [upd_ne this]
    exact w.sub a o h
  · refine (w.box j a b h1 h2).mono (List.prefix_refl _) (fun _ _ h => h) (upd_ne ?_)
    rintro rfl
    exact hB (List.mem_of_getElem? h1)
theorem kept {Ac : Addr} {acc : List V} (e : Ext g H g' H') (hac : H Ac = some (.lst acc)) (hF : g.F Ac = none) (hB : Ac ∉ g.β) : H' Ac = some (.lst acc) ∧ g'.F Ac = none ∧ Ac ∉ g'.β := by
  refine ⟨e.keep _ _ hac hB, ?_, fun hm => (e.bnew _ hm).elim hB fun z => by rw [hac] at z; cases z⟩
  cases qq : g'.F Ac with
  | none => rfl
  | some o => exact absurd hF (e.fnew Ac (by rw [hac]; exact fun z => nomatch z) (by rw [qq]; exact fun z => nomatch z))
end
section
variable {X : Cx} {E : XK} {tg tg1 : Expr} {pos : Pos}
def lcA (vs1 : List Nat) (fg1 : D → Env → Option Env) (ft1 : Env → M Bool) (fe : Env → M D) (ρ1 : Env) : List D → List D → M (List D)
  | [], acc => ret acc
  | d :: ds, acc => bnd (lcT vs1 fg1 ft1 fe ρ1 d) fun o => match o with
    | none => lcA vs1 fg1 ft1 fe ρ1 ds acc
    | some y => if acc.length < sizeLine then lcA vs1 fg1 ft1 fe ρ1 ds (acc ++ [y]) else stk
def lc2H (vs : List Nat) (fg : D → Env → Option Env) (ft : Env → M Bool) (fi1 : Env → M (List D)) (ρ : Env) (d : D) : M (Option (Env × List D)) :=
  noX (bnd (opt (fg d (clr vs (noOwn ρ)))) fun ρ1 => bnd (ft ρ1) fun b => if b = true then bnd (fi1 ρ1) fun l => ret (some (noOwn ρ1, l)) else ret none)
def lc2A (hd : D → M (Option (Env × List D))) (inn : Env → List D → List D → M (List D)) : List D → List D → M (List D)
  | [], acc => ret acc
  | d :: ds, acc => bnd (hd d) fun o => match o with
    | none => lc2A hd inn ds acc
    | some p => bnd (inn p.1 p.2 acc) (lc2A hd inn ds)
def eLc2 (vs vs1 : List Nat) (fi : Env → M (List D)) (fg : D → Env → Option Env) (ft : Env → M Bool) (fi1 : Env → M (List D)) (fg1 : D → Env → Option Env) (ft1 : Env → M Bool) (fe : Env → M D) : Env → M D := fun ρ =>
  bnd (fi ρ) fun ds => bnd (lc2A (lc2H vs fg ft fi1 ρ) (lcA vs1 fg1 ft1 fe) ds []) fun out => ret (.lst out)
def DIx (X : Cx) (E : XK) (f : Env → M (List D)) : TI := fun σ H R => ∃ H0 g S ρ, Wd X.K X.mg g S H ∧ RpE X.K X.mg g H H0 σ ρ ∧
  OutE X.K X.mg E g H (f ρ S) fun ds S' => ∀ g' H' J, Ext g H g' H' → Wd X.K X.mg g' S' H' → ItOk X.K X.mg g' J ds → R J H'
theorem lc2_red {vs vs1 sl sl1 : List Nat} {fi fi1 : Env → M (List D)} {fg fg1 : D → Env → Option Env} {ft ft1 : Env → M Bool} {fe : Env → M D} (hsl : ∀ i ∈ sl, i ∈ vs) (hsl1 : ∀ i ∈ sl1, i ∈ vs1) {σ : St} {H : Hp} {Q : VK} (q : tDE X.K X.mg .F E (eLc2 vs vs1 fi fg ft fi1 fg1 ft1 fe) σ H Q) :
    tLc2 (DIx X E fi) (tDG X.K X.mg sl fg) (tDT X.K X.mg E0' ft) (DIx X E0' fi1) (tDG X.K X.mg sl1 fg1) (tDT X.K X.mg E0' ft1) (tDE X.K X.mg .P E0' fe) vs vs1 σ H Q := by
  obtain ⟨H0, g, S, ρ, w, r, q⟩ := q
  refine ⟨H0, g, S, ρ, w, r, (OutE.bnd q).imp fun ds S1 q1 g1 H1 J e1 w1 it => fun Ac hAc => ?_⟩
  have eA := e1.trans (Ext.laid (o := .lst []) hAc)
  have hn := w1.pnew hAc
  have hAcN : H Ac = none := by
    cases qq : H Ac with
    | none => rfl
    | some o => exact absurd hAc (e1.there Ac (by rw [qq]; exact fun z => nomatch z))
  refine ⟨fun i m H' => m = ds.length - i ∧ i ≤ ds.length ∧ ∃ g' S' acc dacc, Ext g H g' H' ∧ Mn g1 g' ∧ Wd X.K X.mg g' S' H' ∧ H' Ac = some (.lst acc) ∧ RpAll X.K X.mg g' acc dacc ∧ g'.F Ac = none ∧ Ac ∉ g'.β ∧
      OutE X.K X.mg E g H (lc2A (lc2H vs fg ft fi1 ρ) (lcA vs1 fg1 ft1 fe) (ds.drop i) dacc S') fun out S'' => ∀ g' H' v, Ext g H g' H' → Wd X.K X.mg g' S'' H' → KR X.K X.mg .F H g' H' v (.lst out) → Q v H',
    ⟨ds.length, by simp, Nat.zero_le _, g1, S1, [], [], eA, Mn.refl, w1.laid hAc, upd_same, .nil, hn.2, hn.1, OutE.bnd q1⟩, ?_⟩
  rintro i m H2 ⟨rfl, hi2, g2, S2, acc, dacc, e2, m2, w2, hac, racc, hF, hB, q2⟩
  obtain ⟨go, stop⟩ := it g2 S2 H2 m2 w2
  by_cases hlt : i < ds.length
  · rw [drop_cons hlt] at q2
    obtain ⟨hgo, hy⟩ := go i ds[i] (List.getElem?_eq_getElem hlt)
    refine .inr ⟨hgo, fun H' => i + 1 ≤ ds.length ∧ ∃ g' S' acc dacc, Ext g H g' H' ∧ Mn g1 g' ∧ Wd X.K X.mg g' S' H' ∧ H' Ac = some (.lst acc) ∧ RpAll X.K X.mg g' acc dacc ∧ g'.F Ac = none ∧ Ac ∉ g'.β ∧
      OutE X.K X.mg E g H (lc2A (lc2H vs fg ft fi1 ρ) (lcA vs1 fg1 ft1 fe) (ds.drop (i + 1)) dacc S') fun out S'' => ∀ g' H' v, Ext g H g' H' → Wd X.K X.mg g' S'' H' → KR X.K X.mg .F H g' H' v (.lst out) → Q v H',
      fun H' hN => ⟨ds.length - (i + 1), by omega, rfl, hN⟩, fun x H3 y => ?_⟩
    obtain ⟨g3, e3, w3, rx⟩ := hy x H3 y
    have e23 := e2.trans e3
    have k3 := kept e3 hac hF hB
    have r3 : RpE X.K X.mg g3 H3 H0 (wipe σ vs) (clr vs (noOwn ρ)) := (r.no (H' := H3) (H0' := H0) (e23.mn)).at_wipe vs
    refine ⟨H0, g3, S2, clr vs (noOwn ρ), ds[i], w3, r3, rx, ?_⟩
    have q2 := OutE.bnd (show OutE X.K X.mg E g H ((lc2H vs fg ft fi1 ρ ds[i] S2).next _) _ from q2)
    have q2' := OutE.noX (E' := E0') q2
    cases hz : fg ds[i] (clr vs (noOwn ρ)) with
    | none => rw [hz] at q2'; exact q2'.elim
    | some ρ3 =>
      rw [hz] at q2'
      simp only [opt_some, bnd_ret] at q2'
      refine fun σ3 rr3 hl3 hs3 => ⟨?_, ?_⟩
      · refine (wipe_eq hl3 hs3 hsl).trans ?_
        exact wipe_eq (sl := vs) (wipe_length σ vs) (fun i hi => wipe_out hi) fun _ h => h
      refine ⟨H0, g3, S2, ρ3, w3, rr3, (OutE.bnd q2').mono e23 fun b S4 q4 g4 H4 e4 w4 => ?_⟩
      have e24 := e23.trans e4
      cases b with
      | false =>
        dsimp only
        rw [if_neg Bool.false_ne_true]
        obtain ⟨k1, k2, k3⟩ := kept e4 k3.1 k3.2.1 k3.2.2
        exact ⟨by omega, g4, S4, acc, dacc, e24, (m2.trans e3.mn).trans e4.mn, w4, k1, racc.ext (e3.trans e4), k2, k3, q4⟩
      | true =>
        dsimp only
        rw [if_pos rfl]
        simp only [if_true] at q4
        refine ⟨H0, g4, S4, ρ3, w4, rr3.ext w3 e4, (OutE.bnd q4).mono e24 fun l S5 q5 g5 H5 J1 e5 w5 it1 => ?_⟩
        have e25 := e24.trans e5
        have k5 := kept (e4.trans e5) k3.1 k3.2.1 k3.2.2
        have q6 : OutE X.K X.mg E g H ((lcA vs1 fg1 ft1 fe (noOwn ρ3) l dacc S5).next (lc2A (lc2H vs fg ft fi1 ρ) (lcA vs1 fg1 ft1 fe) (ds.drop (i + 1)))) _ := q5
        refine ⟨fun j k H' => k = l.length - j ∧ j ≤ l.length ∧ ∃ g' S' acc dacc, Ext g H g' H' ∧ Mn g1 g' ∧ Mn g5 g' ∧ Wd X.K X.mg g' S' H' ∧ H' Ac = some (.lst acc) ∧ RpAll X.K X.mg g' acc dacc ∧ g'.F Ac = none ∧ Ac ∉ g'.β ∧
            OutE X.K X.mg E g H ((lcA vs1 fg1 ft1 fe (noOwn ρ3) (l.drop j) dacc S').next (lc2A (lc2H vs fg ft fi1 ρ) (lcA vs1 fg1 ft1 fe) (ds.drop (i + 1)))) fun out S'' => ∀ g' H' v, Ext g H g' H' → Wd X.K X.mg g' S'' H' → KR X.K X.mg .F H g' H' v (.lst out) → Q v H',
          ⟨l.length, by simp, Nat.zero_le _, g5, S5, acc, dacc, e25, ((m2.trans e3.mn).trans e4.mn).trans e5.mn, Mn.refl, w5, k5.1, racc.ext ((e3.trans e4).trans e5), k5.2.1, k5.2.2, q6⟩, ?_⟩
        rintro j k H6 ⟨rfl, hj2, g6, S6, acc6, dacc6, e6, m6, m56, w6, hac6, racc6, hF6, hB6, q6⟩
        obtain ⟨go1, stop1⟩ := it1 g6 S6 H6 m56 w6
        by_cases hlt1 : j < l.length
        · rw [drop_cons hlt1] at q6
          obtain ⟨hgo1, hy1⟩ := go1 j l[j] (List.getElem?_eq_getElem hlt1)
          refine .inr ⟨hgo1, fun H' => j + 1 ≤ l.length ∧ ∃ g' S' acc dacc, Ext g H g' H' ∧ Mn g1 g' ∧ Mn g5 g' ∧ Wd X.K X.mg g' S' H' ∧ H' Ac = some (.lst acc) ∧ RpAll X.K X.mg g' acc dacc ∧ g'.F Ac = none ∧ Ac ∉ g'.β ∧
            OutE X.K X.mg E g H ((lcA vs1 fg1 ft1 fe (noOwn ρ3) (l.drop (j + 1)) dacc S').next (lc2A (lc2H vs fg ft fi1 ρ) (lcA vs1 fg1 ft1 fe) (ds.drop (i + 1)))) fun out S'' => ∀ g' H' v, Ext g H g' H' → Wd X.K X.mg g' S'' H' → KR X.K X.mg .F H g' H' v (.lst out) → Q v H',
            fun H' hN => ⟨l.length - (j + 1), by omega, rfl, hN⟩, fun x7 H7 y7 => ?_⟩
          obtain ⟨g7, e7, w7, rx7⟩ := hy1 x7 H7 y7
          have e67 := e6.trans e7
          have k7 := kept e7 hac6 hF6 hB6
          have rr4 : RpE X.K X.mg g7 H7 H0 σ3 (noOwn ρ3) := rr3.no (((e4.mn.trans e5.mn).trans m56).trans e7.mn)
          refine ⟨H0, g7, S6, clr vs1 (noOwn ρ3), l[j], w7, rr4.at_wipe vs1, rx7, ?_⟩
          have q6 := OutE.bnd q6
          have q6 := OutE.bnd (show OutE X.K X.mg E g H ((lcT vs1 fg1 ft1 fe (noOwn ρ3) l[j] S6).next _) _ from q6)
          have q6' := OutE.noX (E' := E0') q6
          cases hz1 : fg1 l[j] (clr vs1 (noOwn ρ3)) with
          | none => rw [hz1] at q6'; exact q6'.elim
          | some ρ4 =>
            rw [hz1] at q6'
            simp only [opt_some, bnd_ret] at q6'
            refine fun σ4 r4 hl4 hs4 => ⟨?_, ?_⟩
            · refine (wipe_eq hl4 hs4 hsl1).trans ?_
              exact wipe_eq (sl := vs1) (wipe_length σ3 vs1) (fun i hi => wipe_out hi) fun _ h => h
            refine ⟨H0, g7, S6, ρ4, w7, r4, (OutE.bnd q6').mono e67 fun b S8 q8 g8 H8 e8 w8 => ?_⟩
            have e68 := e67.trans e8
            have m68 := (m6.trans e7.mn).trans e8.mn
            have m58 := (m56.trans e7.mn).trans e8.mn
            cases b with
            | false =>
              dsimp only
              rw [if_neg Bool.false_ne_true]
              obtain ⟨z1, z2, z3⟩ := kept e8 k7.1 k7.2.1 k7.2.2
              refine ⟨by omega, g8, S8, acc6, dacc6, e68, m68, m58, w8, z1, racc6.ext (e7.trans e8), z2, z3, ?_⟩
              have q9 : OutE X.K X.mg E g H (lcA vs1 fg1 ft1 fe (noOwn ρ3) (l.drop (j + 1)) dacc6 S8) _ := q8
              exact OutE.unbnd q9
            | true =>
              dsimp only
              rw [if_pos rfl]
              simp only [if_true] at q8
              refine ⟨H0, g8, S8, ρ4, w8, r4.ext w7 e8, (OutE.bnd q8).mono e68 fun y S9 q9 g9 H9 v e9 w9 kr => ?_⟩
              have kr : Rp X.K X.mg g9 v y := kr
              obtain ⟨z1, z2, z3⟩ := kept (e8.trans e9) k7.1 k7.2.1 k7.2.2
              have q9 : OutE X.K X.mg E g H ((if dacc6.length < sizeLine then lcA vs1 fg1 ft1 fe (noOwn ρ3) (l.drop (j + 1)) (dacc6 ++ [y]) else stk) S9) _ := q9
              split at q9
              · rename_i hroom
                obtain ⟨x1, x2⟩ := grow (acc' := acc6 ++ [v]) (e68.trans e9) w9 hAcN z1 z2 z3
                exact ⟨acc6, z1, by rw [racc6.length]; exact hroom, by omega, g9, S9, acc6 ++ [v], dacc6 ++ [y], x1, m68.trans e9.mn, m58.trans e9.mn, x2, upd_same, (racc6.ext ((e7.trans e8).trans e9)).append (.cons kr .nil), z2, z3, OutE.unbnd q9⟩
              · exact q9.elim
        · have hj3 : j = l.length := by omega
          subst hj3
          rw [List.drop_length] at q6
          exact .inl ⟨stop1, by omega, g6, S6, acc6, dacc6, e6, m6, w6, hac6, racc6, hF6, hB6, q6⟩
  · have hi3 : i = ds.length := by omega
    subst hi3
    rw [List.drop_length] at q2
    exact .inl ⟨stop, q2 g2 H2 _ e2 w2 (.inr ⟨Ac, acc, dacc, rfl, rfl, hac, racc, hF, hB, hAcN⟩)⟩
theorem de_lc2 {elt iter iter1 : Expr} {ifs ifs1 : List Expr} {scope : Scope} {own : List (Str × Nat)} {vs1 : List Nat} {sl sl1 : List Nat} {fi fi1 : Env → M (List D)} {fg fg1 : D → Env → Option Env} {ft ft1 : Env → M Bool} {fe : Env → M D} (hc : X.calm = true) (hN : X.N.Nodup)
    (hi : DI X E tg iter fi) (ok : BlkOk X.N X.env.scope scope own) (hv : ∀ i ∈ vs1, i ∈ own.map (·.2))
    (hg : ∀ (s : Shared) (H : Hp) (C : Addr) (cl : List (Str × Addr)) (fp : List Addr), DG (X.blk s H scope (compEnvC scope cl C X.env) fp) sl tg fg)
    (ht : ∀ (s : Shared) (H : Hp) (C : Addr) (cl : List (Str × Addr)) (fp : List Addr), DTs (X.blk s H scope (compEnvC scope cl C X.env) fp) E0' ifs ft)
    (hi1 : ∀ (s : Shared) (H : Hp) (C : Addr) (cl : List (Str × Addr)) (fp : List Addr), DI (X.blk s H scope (compEnvC scope cl C X.env) fp) E0' tg1 iter1 fi1)
    (hg1 : ∀ (s : Shared) (H : Hp) (C : Addr) (cl : List (Str × Addr)) (fp : List Addr), DG (X.blk s H scope (compEnvC scope cl C X.env) fp) sl1 tg1 fg1)
    (ht1 : ∀ (s : Shared) (H : Hp) (C : Addr) (cl : List (Str × Addr)) (fp : List Addr), DTs (X.blk s H scope (compEnvC scope cl C X.env) fp) E0' ifs1 ft1)
    (he : ∀ (s : Shared) (H : Hp) (C : Addr) (cl : List (Str × Addr)) (fp : List Addr), DE .P (X.blk s H scope (compEnvC scope cl C X.env) fp) E0' elt fe)
    (hsl : ∀ i ∈ sl, i ∈ own.map (·.2)) (hsl1 : ∀ i ∈ sl1, i ∈ vs1) (hs : ∀ x, foldedSetIterable iter X.env x = pure x := by intro _; rfl) (hs1 : ∀ env x, foldedSetIterable iter1 env x = pure x := by intro _ _; rfl) : DE .F X E (.ListComp elt [⟨tg, iter, ifs, 0⟩, ⟨tg1, iter1, ifs1, 0⟩] scope pos) (eLc2 (own.map (·.2)) vs1 fi fg ft fi1 fg1 ft1 fe) :=
  PE.imp (pe_lc2 (g := tDG X.K X.mg sl fg) (tt := tDT X.K X.mg E0' ft) (g1 := tDG X.K X.mg sl1 fg1) (tt1 := tDT X.K X.mg E0' ft1) (te := tDE X.K X.mg .P E0' fe) (wi1 := DIx X E0' fi1) hc hN hi ok hv hg ht hi1 hg1 ht1 he hs hs1) fun σ H Q q => lc2_red hsl hsl1 q
end
end Dl

set_option Elab.async false
set_option linter.all false
set_option maxRecDepth 100000
set_option autoImplicit false
namespace Dl
open PySem PySem.Spec L2
open PyProof.Rows hiding St

/-! ### what is known of the module -/
def Con (K : PySem.W.Frag) (mg : Str → Option Value) (x : Str) (d : D) : Prop := ∃ v u, mg x = some u ∧ RelV v u ∧ ∀ g, Rp K mg g v d
def ExcT (K : PySem.W.Frag) (mg : Str → Option Value) (c : Str) : Prop := ∃ C bmB, mg c = some (.ref C) ∧ PySem.W.keepIn K (.ref C) = true ∧ (∃ (B newId initId : String), ∃ _ : ExcBaseFacts B newId initId bmB, PySem.W.excIn K C bmB newId = true) ∧
  PySem.W.subIn K (.ref C) (.type "BaseException") = some true ∧ PySem.W.typeIn K (.ref C) = some (.type "type")
def FnT (K : PySem.W.Frag) (mg : Str → Option Value) (x : Str) (st : Stmt) (ps : List Str) : Prop := ∃ (f : Addr) (fd : FuncData), Fun K x x st f fd ∧ mg x = some (.ref f) ∧ Binds K fd ps []
section
variable {X : Cx} {E : XK} {pos p p2 : Pos} {k : Kd} {x : Str}
theorem de_con {d : D} (c : Con X.K X.mg x d) (hg : Gl X x) (hs : isL d = false := by rfl) (hd : (x == ("__debug__" : Str)) = false := by decide) : DE k X E (.Name x pos) (eC d) := by
  obtain ⟨v, u, hm, r, hr⟩ := c
  exact de_glob hg hm r hr hs hd
theorem de_ty {n : String} (hg : Gl X x) (hm : X.mg x = none) (hv : bootBuiltins x = some (.type n) := by first | rfl | decide +kernel) (hn : x ≠ "__name__" := by decide) (hd : (x == ("__debug__" : Str)) = false := by decide) : DE k X E (.Name x pos) (eC (.ty n)) :=
  de_const (v := .ty n) (pe_bltn hg hm hv rfl hn hd) fun g => .ty n
theorem takes0 (hx : X.xe = fun _ _ => False := by rfl) : Takes X fun cls d _ H => E0' cls d H := fun u s' x => by
  obtain ⟨_, _, _, _, _, _, _, _, _, _, _, _, _, _, _, _, w⟩ := x
  exact w.elim
theorem ds_raiseOwn {m : Str} {j : Nat} {p3 : Pos} (T : ExcT X.K X.mg x) (hc : X.calm = true) (tk : Takes X fun cls d _ H => E cls d H) (hg : Gl X x) (hdb : (x == ("__debug__" : Str)) = false := by decide) : DS X E (.Raise (some (.Call (.Name x p) [.Constant (.str m) j p2] [] p3)) none pos) (sRaise x) := by
  obtain ⟨C, bmB, hC, kC, ⟨B, nI, iI, F, q⟩, h1, h2⟩ := T
  exact ds_raise hc tk hC (pmk_own F q hC kC (raises_own h1 h2) hg hdb)
theorem u65 {k : Nat} {A : Around} (r : Room k A) : A.units + 65 < cLine := by have := r.un; omega
end
section
variable {P : Program} {w : World} {K : PySem.W.Frag} {mg : Str → Option Value} {base : Heap} {x : Str} {st : Stmt} {N ps : List Str} {k : Nat} {body : Env → M Fl}
theorem FnD.mk (T : FnT K mg x st ps) (S : FnScope N ps (defScope st))
    (hbody : ∀ (f : Addr) (cdv : Value) (A : Around) (outer : List PySem.Env) (s : Shared) (H : Hp) (E : XK), Room k (A.deeper (envOfC x (defScope st) s.heap.objs.size f cdv)) →
      DSs (cxOf (L2.CX P w) P w K mg base N x (defScope st) f cdv A outer s H E) E (defBody st) body) : FnD P w K mg base x (k + 1) ps.length (runFn N.length body) := by
  obtain ⟨f, fd, F, hm, hb⟩ := T
  exact FnD.of F hm hb S fun cdv A outer s H E hr => hbody f cdv A outer s H E hr
theorem FnD.none (T : FnT K mg x st ps) (S : FnScope N ps (defScope st)) : FnD P w K mg base x (k + 1) ps.length fun _ => stk := by
  obtain ⟨f, fd, F, hm, hb⟩ := T
  exact ⟨f, fd, ps, rfl, hm, F.kp, hb, F.okX S (fun vs H Q E h => h.1) fun cdv A outer s H vs Q E hr h => by
    obtain ⟨_, g, S0, ds, wd, r, q⟩ := h
    exact q.elim⟩
end
end Dl

set_option Elab.async false
set_option linter.all false
set_option maxRecDepth 100000
set_option autoImplicit false
namespace Dl
open PySem PySem.Spec L2
open PyProof.Rows hiding St

section
variable {X : Cx} {E : XK} {e a b tg tg1 : Expr} {es : List Expr} {st : Stmt} {sts : List Stmt} {f h f1 f2 : Env → M D} {fs hs' : Env → M Fl} {fb : Env → M Bool} {fa : Env → M (List D)} {pos : Pos} {k : Kd}

/-! ### x = [.. for ..] -/
theorem setF_red {K : PySem.W.Frag} {mg : Str → Option Value} {i : Nat} {Dn : Ends} {σ : St} {H : Hp} (q : tDS K mg E (sSet i f) Dn σ H) : tAsg (tDE K mg .F E f) (gName i) Dn σ H := by
  obtain ⟨g0, H0, g, S, ρ, e, w, r, q⟩ := q
  refine ⟨H0, g, S, ρ, w, r, (OutE.bnd0 q e).imp fun d S1 q1 g1 H1 v e1 w1 kr => ?_⟩
  rcases kr with ⟨kr, _⟩ | ⟨a, vs, ds, rfl, rfl, h1, h2, h3, h4, h5⟩
  · exact q1 g1 H1 _ (e.trans e1) e1.mn w1 ((r.ext w e1).setD i kr)
  · have e2 := e1.frozen (o := .lst vs) h3 h5
    exact q1 _ H1 _ (e.trans e2) e2.mn (w1.frozen h1 h4 h3) ((r.ext w e2).setD i (.lst upd_same (h2.fzn h3)))
theorem ownF_red {K : PySem.W.Frag} {mg : Str → Option Value} {i : Nat} {Dn : Ends} {σ : St} {H : Hp} (q : tDS K mg E (sOwn i f) Dn σ H) : tAsg (tDE K mg .F E f) (gName i) Dn σ H := by
  obtain ⟨g0, H0, g, S, ρ, e, w, r, q⟩ := q
  exact ⟨H0, g, S, ρ, w, r, (OutE.bnd0 q e).imp fun d S1 q1 g1 H1 v e1 w1 kr => by
      cases d <;> try exact q1.elim
      rename_i dl
      rcases kr with ⟨_, kr⟩ | ⟨a, vs, ds, rfl, hd, k1, k2, k3, k4, k5⟩
      · cases kr
      cases hd
      refine q1 g1 H1 _ (e.trans e1) e1.mn w1 ((r.ext w e1).setO i k1 k2 k3 k4 ?_ fun j d hj hσ => ?_)
      · cases qq : H0 a with
        | none => rfl
        | some o => exact absurd k5 (e.there a (by rw [qq]; exact fun z => nomatch z))
      · obtain ⟨b, us, fs, hd, l1, l2, l3, l4, l5, l6⟩ := r.at_ j _ hj
        rw [l1] at hσ
        cases hσ
        rw [l2] at k5
        cases k5⟩
theorem ps_lc {elt iter : Expr} {ifs : List Expr} {scope : Scope} {own : List (Str × Nat)} {sl : List Nat} {fi : Env → M (List D)} {fg : D → Env → Option Env} {ft : Env → M Bool} {fe : Env → M D} {i : Nat} {y : Str} {py spos : Pos} (hc : X.calm = true) (hN : X.N.Nodup)
    (hi : DI X E tg iter fi) (ok : BlkOk X.N X.env.scope scope own)
    (hg : ∀ (s : Shared) (H : Hp) (C : Addr) (cl : List (Str × Addr)) (fp : List Addr), DG (X.blk s H scope (compEnvC scope cl C X.env) fp) sl tg fg)
    (ht : ∀ (s : Shared) (H : Hp) (C : Addr) (cl : List (Str × Addr)) (fp : List Addr), DTs (X.blk s H scope (compEnvC scope cl C X.env) fp) E0' ifs ft)
    (he : ∀ (s : Shared) (H : Hp) (C : Addr) (cl : List (Str × Addr)) (fp : List Addr), DE .P (X.blk s H scope (compEnvC scope cl C X.env) fp) E0' elt fe)
    (hsl : ∀ i ∈ sl, i ∈ own.map (·.2)) (hy : X.N[i]? = some y := by rfl) (hyl : X.env.scope.names.lookup y = some .local := by rfl)
    (hsw : swapsWith (.ListComp elt [⟨tg, iter, ifs, 0⟩] scope pos) (some (.Name y py)) spos.line X.env = pure true := by rfl) (hs : ∀ x, foldedSetIterable iter X.env x = pure x := by intro _; rfl) :
    PS X (.Assign [.Name y py] (.ListComp elt [⟨tg, iter, ifs, 0⟩] scope pos) spos) (tAsg (tDE X.K X.mg .F E (eLc (own.map (·.2)) fi fg ft fe)) (gName i)) :=
  PS.imp (ps_setLc (g := tDG X.K X.mg sl fg) (tt := tDT X.K X.mg E0' ft) (te := tDE X.K X.mg .P E0' fe) hc hN hy hyl hsw hi ok hg ht he hs) fun Q σ H q => lc_red hsl q
theorem ps_lc2 {elt iter iter1 : Expr} {ifs ifs1 : List Expr} {scope : Scope} {own : List (Str × Nat)} {vs1 : List Nat} {sl sl1 : List Nat} {fi fi1 : Env → M (List D)} {fg fg1 : D → Env → Option Env} {ft ft1 : Env → M Bool} {fe : Env → M D} {i : Nat} {y : Str} {py spos : Pos} (hc : X.calm = true) (hN : X.N.Nodup)
    (hi : DI X E tg iter fi) (ok : BlkOk X.N X.env.scope scope own) (hv : ∀ i ∈ vs1, i ∈ own.map (·.2))
    (hg : ∀ (s : Shared) (H : Hp) (C : Addr) (cl : List (Str × Addr)) (fp : List Addr), DG (X.blk s H scope (compEnvC scope cl C X.env) fp) sl tg fg)
    (ht : ∀ (s : Shared) (H : Hp) (C : Addr) (cl : List (Str × Addr)) (fp : List Addr), DTs (X.blk s H scope (compEnvC scope cl C X.env) fp) E0' ifs ft)
    (hi1 : ∀ (s : Shared) (H : Hp) (C : Addr) (cl : List (Str × Addr)) (fp : List Addr), DI (X.blk s H scope (compEnvC scope cl C X.env) fp) E0' tg1 iter1 fi1)
    (hg1 : ∀ (s : Shared) (H : Hp) (C : Addr) (cl : List (Str × Addr)) (fp : List Addr), DG (X.blk s H scope (compEnvC scope cl C X.env) fp) sl1 tg1 fg1)
    (ht1 : ∀ (s : Shared) (H : Hp) (C : Addr) (cl : List (Str × Addr)) (fp : List Addr), DTs (X.blk s H scope (compEnvC scope cl C X.env) fp) E0' ifs1 ft1)
    (he : ∀ (s : Shared) (H : Hp) (C : Addr) (cl : List (Str × Addr)) (fp : List Addr), DE .P (X.blk s H scope (compEnvC scope cl C X.env) fp) E0' elt fe)
    (hsl : ∀ i ∈ sl, i ∈ own.map (·.2)) (hsl1 : ∀ i ∈ sl1, i ∈ vs1) (hy : X.N[i]? = some y := by rfl) (hyl : X.env.scope.names.lookup y = some .local := by rfl)
    (hsw : swapsWith (.ListComp elt [⟨tg, iter, ifs, 0⟩, ⟨tg1, iter1, ifs1, 0⟩] scope pos) (some (.Name y py)) spos.line X.env = pure true := by rfl) (hs : ∀ x, foldedSetIterable iter X.env x = pure x := by intro _; rfl) (hs1 : ∀ env x, foldedSetIterable iter1 env x = pure x := by intro _ _; rfl) :
    PS X (.Assign [.Name y py] (.ListComp elt [⟨tg, iter, ifs, 0⟩, ⟨tg1, iter1, ifs1, 0⟩] scope pos) spos) (tAsg (tDE X.K X.mg .F E (eLc2 (own.map (·.2)) vs1 fi fg ft fi1 fg1 ft1 fe)) (gName i)) :=
  PS.imp (ps_setLc2 (g := tDG X.K X.mg sl fg) (tt := tDT X.K X.mg E0' ft) (g1 := tDG X.K X.mg sl1 fg1) (tt1 := tDT X.K X.mg E0' ft1) (te := tDE X.K X.mg .P E0' fe) (wi1 := DIx X E0' fi1) hc hN hy hyl hsw hi ok hv hg ht hi1 hg1 ht1 he hs hs1) fun Q σ H q => lc2_red hsl hsl1 q
theorem ds_setLc {i : Nat} (h : PS X st (tAsg (tDE X.K X.mg .F E f) (gName i))) : DS X E st (sSet i f) := PS.imp h fun Q σ H q => setF_red q
theorem ds_ownLc {i : Nat} (h : PS X st (tAsg (tDE X.K X.mg .F E f) (gName i))) : DS X E st (sOwn i f) := PS.imp h fun Q σ H q => ownF_red q

/-! ### walks over a list, a tuple, a text -/
def iAny (f : Env → M D) : Env → M (List D) := fun ρ => bnd (f ρ) fun d => match d with | .lst ds => ret ds | .tup ds => ret ds | .str x => ret (signs x) | _ => stk
theorem PI.or {t1 t2 : TI} (h1 : PI X tg e t1) (h2 : PI X tg e t2) : PI X tg e (fun σ H R => t1 σ H R ∨ t2 σ H R) :=
  ⟨fun pins s σ H R I q => q.elim (h1.run pins s σ H R I) (h2.run pins s σ H R I)⟩
theorem di_any (h : DE .P X E e f) : DI X E tg e (iAny f) := PI.imp (PI.or (di_list (tg := tg) h) (PI.or (di_tup (tg := tg) h) (di_str (tg := tg) h.toB))) fun σ H R ⟨H0, g, S, ρ, w, r, q⟩ => by
  have z : iAny f ρ S = (f ρ S).next fun d => match d with | .lst ds => ret ds | .tup ds => ret ds | .str x => ret (signs x) | _ => stk := rfl
  rw [z] at q
  cases hf : f ρ S with
  | ok d S' =>
    rw [hf] at q
    cases d <;> try exact q.elim
    · refine .inr (.inr ⟨H0, g, S, ρ, w, r, ?_⟩)
      show OutE _ _ _ _ _ ((f ρ S).next _) _
      rw [hf]
      exact q
    · refine .inr (.inl ⟨H0, g, S, ρ, w, r, ?_⟩)
      show OutE _ _ _ _ _ ((f ρ S).next _) _
      rw [hf]
      exact q
    · refine .inl ⟨H0, g, S, ρ, w, r, ?_⟩
      show OutE _ _ _ _ _ ((f ρ S).next _) _
      rw [hf]
      exact q
  | exc c fs S' =>
    rw [hf] at q
    refine .inl ⟨H0, g, S, ρ, w, r, ?_⟩
    show OutE _ _ _ _ _ ((f ρ S).next _) _
    rw [hf]
    exact q
  | stuck => rw [hf] at q; exact q.elim

/-! ### operators for all -/
def addA := orS addI (orS addS (orS addT addL))
def mulA := orS mulI (orS mulS (orS mulTA mulL))
theorem od_addA : OpD X .F (binaryOp .Add) addA := .or od_addI (.or od_addS (.or od_addT od_addL))
theorem od_mulA : OpD X .F (binaryOp .Mult) mulA := .or od_mulI (.or od_mulS (.or od_mulTA od_mulL))
def inA := orS inS (orS inT inL)
def notInA := orS notInS (orS notInT notInL)
theorem od_inA (hu : X.A.units + 65 < cLine) : OpD X k (compareOp .In) inA := .or od_inS (.or (od_inT hu) (od_inL hu))
theorem od_notInA (hu : X.A.units + 65 < cLine) : OpD X k (compareOp .NotIn) notInA := .or od_notInS (.or (od_notInT hu) (od_notInL hu))
def isA := orS isN isB
def isNotA := orS isNotN isNotB
/-- a[::-1] of a list or a tuple -/
def revA : D → Option D
  | .lst ds => some (.lst ds.reverse)
  | .tup ds => some (.tup ds.reverse)
  | _ => none
end
end Dl

set_option Elab.async false
set_option linter.all false
set_option maxRecDepth 100000
set_option autoImplicit false
namespace Dl
open PySem PySem.Spec L2
open PyProof.Rows hiding St

section
variable {X : Cx} {E : XK} {e a b tg tg1 : Expr} {es : List Expr} {st : Stmt} {sts : List Stmt} {f h f1 f2 f3 f4 : Env → M D} {fs hs' : Env → M Fl} {fb : Env → M Bool} {fa : Env → M (List D)} {pos : Pos} {k : Kd}
theorem KR.fwd {K : PySem.W.Frag} {mg : Str → Option Value} {g g' : Gw} {H H' Hs : Hp} {k : Kd} {v : V} {d : D} (e : Ext g H g' H') (kr : KR K mg k Hs g H v d) : KR K mg k Hs g' H' v d := by
  cases k with
  | P => exact Rp.ext e kr
  | B => exact RB.ext e kr
  | F =>
    rcases kr with ⟨p, hl⟩ | ⟨a, vs, ds, rfl, rfl, m1, m2, m3, m4, m5⟩
    · exact .inl ⟨p.ext e, hl⟩
    · obtain ⟨z1, z2, z3⟩ := kept e m1 m3 m4
      exact .inr ⟨a, vs, ds, rfl, rfl, z1, m2.ext e, z2, z3, m5⟩

/-! ### a, b, c, x = 1, 2, 3, [..] -/
def sTup4 (i1 i2 i3 j : Nat) (f1 f2 f3 f4 : Env → M D) : Env → M Fl := fun ρ => bnd (f1 ρ) fun d1 => bnd (f2 ρ) fun d2 => bnd (f3 ρ) fun d3 => bnd (f4 ρ) fun d4 =>
  ret (.nx ((((ρ.set i1 (.dat d1)).set i2 (.dat d2)).set i3 (.dat d3)).set j (mkS .F d4)))
theorem ds_tup4 (i1 i2 i3 j : Nat) {e1 e2 e3 e4 : Expr} (h1 : DE .P X E e1 f1) (h2 : DE .P X E e2 f2) (h3 : DE .P X E e3 f3) (h4 : DE .F X E e4 f4) (hn1 : i1 ≠ j := by decide) (hn2 : i2 ≠ j := by decide) (hn3 : i3 ≠ j := by decide)
    (hP : PE X e1 (tDE X.K X.mg .P E f1) → PE X e2 (tDE X.K X.mg .P E f2) → PE X e3 (tDE X.K X.mg .P E f3) → PE X e4 (tDE X.K X.mg .F E f4) →
      PS X st (tAsg (tTup (tCons (tDE X.K X.mg .P E f1) (tCons (tDE X.K X.mg .P E f2) (tCons (tDE X.K X.mg .P E f3) (tCons (tDE X.K X.mg .F E f4) tNil))))) (gTup X.K 4 (gCons (gName i1) (gCons (gName i2) (gCons (gName i3) (gCons (gName j) gNil))))))) :
    DS X E st (sTup4 i1 i2 i3 j f1 f2 f3 f4) := by
  refine PS.imp (hP h1 h2 h3 h4) fun Dn σ H ⟨g0, H0, g, S, ρ, e0, w, r, q⟩ => ?_
  refine ⟨H0, g, S, ρ, w, r, (OutE.bnd0 q e0).imp fun d1 S1 q1 g1 H1 v1 e1 w1 kr1 => ?_⟩
  have r1 := r.ext w e1
  refine ⟨H0, g1, S1, ρ, w1, r1, (OutE.bnd0 q1 (e0.trans e1)).imp fun d2 S2 q2 g2 H2 v2 e2 w2 kr2 => ?_⟩
  have r2 := r1.ext w1 e2
  refine ⟨H0, g2, S2, ρ, w2, r2, (OutE.bnd0 q2 ((e0.trans e1).trans e2)).imp fun d3 S3 q3 g3 H3 v3 e3 w3 kr3 => ?_⟩
  have r3 := r2.ext w2 e3
  refine ⟨H0, g3, S3, ρ, w3, r3, (OutE.bnd0 q3 (((e0.trans e1).trans e2).trans e3)).imp fun d4 S4 q4 g4 H4 v4 e4 w4 kr4 => ?_⟩
  have r4 := r3.ext w3 e4
  refine ⟨by show 4 ≤ sizeLine; decide, fun p hp => ?_⟩
  have e5 : Ext g4 H4 g4 (upd H4 p (.tup [v1, v2, v3, v4])) := Ext.laid hp
  have w5 := w4.laid (o := .tup [v1, v2, v3, v4]) hp
  have r5 := r4.ext w4 e5
  refine ⟨p, [v1, v2, v3, v4], rfl, .inl (.inl upd_same), rfl, v1, _, rfl, v2, _, rfl, v3, _, rfl, v4, _, rfl, rfl, ?_⟩
  have e05 := (((((e0.trans e1).trans e2).trans e3).trans e4).trans e5)
  refine q4 g4 _ _ e05 ((((e1.mn.trans e2.mn).trans e3.mn).trans e4.mn).trans e5.mn) w5 ?_
  have k1 : Rp X.K X.mg g4 v1 d1 := Rp.ext (((e2.trans e3).trans e4).trans e5) kr1
  have k2 : Rp X.K X.mg g4 v2 d2 := Rp.ext ((e3.trans e4).trans e5) kr2
  have k3 : Rp X.K X.mg g4 v3 d3 := Rp.ext (e4.trans e5) kr3
  refine setK (k := .F) (Hs := H3) (by decide) j (((r5.setD i1 k1).setD i2 k2).setD i3 k3) (KR.fwd e5 kr4) (fun l dd b hl hσ => ?_) fun b hb => (((e0.trans e1).trans e2).trans e3).there b hb
  -- the own lists of before are there before
  have tr : ρ[l]? = some (.own dd) → σ[l]? = some (some (.ref b)) → H3 b ≠ none := fun hl hσ => by
    obtain ⟨b', us, fs, hd, l1, l2, _⟩ := r3.at_ l _ hl
    rw [hσ] at l1; cases l1
    rw [l2]; exact fun z => nomatch z
  rcases set_get hl with ⟨_, hs⟩ | ⟨n3, hl⟩
  · cases hs
  rcases set_get hl with ⟨_, hs⟩ | ⟨n2, hl⟩
  · cases hs
  rcases set_get hl with ⟨_, hs⟩ | ⟨n1, hl⟩
  · cases hs
  rw [List.getElem?_set_ne (fun z => n3 z.symm), List.getElem?_set_ne (fun z => n2 z.symm), List.getElem?_set_ne (fun z => n1 z.symm)] at hσ
  exact tr hl hσ
/-! ### str() -/
def strD : List D → Option D
  | [.int i] => if decide (i.natAbs.log2 < 1920) = true then some (.str (toString i)) else none
  | [.str x] => some (.str x)
  | _ => none
theorem CallR.or {g : Value} {r1 r2 : List V → Hp → VK → Prop} (h1 : CallR X g r1) (h2 : CallR X g r2) : CallR X g (fun xs H Q => r1 xs H Q ∨ r2 xs H Q) := fun pins s σ H xs us Q I r q => q.elim (h1 pins s σ H xs us Q I r) (h2 pins s σ H xs us Q I r)
theorem cd_str : CallD X k (.type "str") strD := ⟨_, CallR.or call_str_int SkE.call_str_str, fun g S H vs ds z Q wd r hz hq => by
  unfold strD at hz
  split at hz
  · split at hz
    · rename_i hl
      cases hz
      obtain ⟨v, rfl, r0⟩ := r.one
      cases RB.int r0
      exact .inl ⟨_, rfl, of_decide_eq_true hl, q_same wd (fun g => .str _) hq⟩
    · cases hz
  · cases hz
    obtain ⟨v, rfl, r0⟩ := r.one
    cases RB.str r0
    exact .inr ⟨_, rfl, q_same wd (fun g => .str _) hq⟩
  · cases hz⟩
theorem ds_setBoxA {o ix : Expr} {fo fi : Env → M D} {p : Pos} (hv : DE .P X E e f) (ho : DE .P X E o fo) (hi : DE .B X E ix fi) (hs : swapsWithSole [.Subscript o ix p] e pos.line X.env = pure false := by rfl) (hw : swappedStores [.Subscript o ix p] e X.env = pure none := by rfl)
    (h1 : (assignEach [.Subscript o ix p] X.env).map (·.2) = [assign (.Subscript o ix p) X.env] := by rfl)
    (ha : ∀ v, assign (.Subscript o ix p) X.env v = (do
      let ov ← holding [v] (eval o X.env)
      let iv ← holding [v, ov] (eval ix X.env)
      standAt p
      holding [v, ov, iv] (setItem ov iv v)
      release [v, ov, iv] []) := by intro _; rfl) : DS X E (.Assign [.Subscript o ix p] e pos) (sSetBox fo fi f) :=
  ds_setBox hv ho hi (ps_asg hv (pg_sub ho hi set_list ha) hs hw h1)
end
section
variable {P : Program} {w : World} {K : PySem.W.Frag} {mg : Str → Option Value} {base : Heap} {x : Str} {st : Stmt} {N ps : List Str} {k : Nat} {body : Env → M Fl} {sc : Scope} {B : List Stmt}
theorem FnD.mk2 (T : FnT K mg x st ps) (hs : defScope st = sc) (hB : defBody st = B) (S : FnScope N ps sc)
    (hbody : ∀ (f : Addr) (cdv : Value) (A : Around) (outer : List PySem.Env) (s : Shared) (H : Hp) (E : XK), Room k (A.deeper (envOfC x sc s.heap.objs.size f cdv)) →
      DSs (cxOf (L2.CX P w) P w K mg base N x sc f cdv A outer s H E) E B body) : FnD P w K mg base x (k + 1) ps.length (runFn N.length body) := by
  subst hs hB
  exact FnD.mk T S hbody
theorem FnD.none2 (T : FnT K mg x st ps) (hs : defScope st = sc) (S : FnScope N ps sc) : FnD P w K mg base x (k + 1) ps.length fun _ => stk := by
  subst hs
  exact FnD.none T S
end
theorem bt_isinstance : bootBuiltins "isinstance" = some (.builtin "isinstance") := by decide +kernel
theorem bt_len : bootBuiltins "len" = some (.builtin "len") := by decide +kernel
theorem bt_sum : bootBuiltins "sum" = some (.builtin "sum") := by decide +kernel
theorem bt_max : bootBuiltins "max" = some (.builtin "max") := by decide +kernel
theorem bt_min : bootBuiltins "min" = some (.builtin "min") := by decide +kernel
theorem bt_abs : bootBuiltins "abs" = some (.builtin "abs") := by decide +kernel
theorem bt_all : bootBuiltins "all" = some (.builtin "all") := by decide +kernel
theorem bt_any : bootBuiltins "any" = some (.builtin "any") := by decide +kernel
theorem bt_sorted : bootBuiltins "sorted" = some (.builtin "sorted") := by decide +kernel
theorem bt_repr : bootBuiltins "repr" = some (.builtin "repr") := by decide +kernel
theorem bt_int : bootBuiltins "int" = some (.type "int") := by decide +kernel
theorem bt_bool : bootBuiltins "bool" = some (.type "bool") := by decide +kernel
theorem bt_str : bootBuiltins "str" = some (.type "str") := by decide +kernel
theorem bt_tuple : bootBuiltins "tuple" = some (.type "tuple") := by decide +kernel
theorem bt_list : bootBuiltins "list" = some (.type "list") := by decide +kernel
theorem bt_dict : bootBuiltins "dict" = some (.type "dict") := by decide +kernel
theorem bt_set : bootBuiltins "set" = some (.type "set") := by decide +kernel
end Dl

set_option Elab.async false
set_option linter.all false
set_option maxRecDepth 100000
set_option autoImplicit false
namespace Dl
open PySem PySem.Spec L2
open PyProof.Rows hiding St
/-! ### what the written part says -/
section
variable {K : PySem.W.Frag} {mg : Str → Option Value} {h : Heap} {x : Str}
theorem con_int (X : K.In h) (G : h.Ns mainGlobals mg) {n : Int} {t : Tok} (a : PySem.W.nsIn K mainGlobals x = some (some (.int n t))) : Con K mg x (.int n) := ⟨.int n, _, PySem.W.mg_of X G a, ⟨t, rfl⟩, fun g => .int n⟩
theorem con_str (X : K.In h) (G : h.Ns mainGlobals mg) {n : Str} {t : Tok} (a : PySem.W.nsIn K mainGlobals x = some (some (.str n t))) : Con K mg x (.str n) := ⟨.str n, _, PySem.W.mg_of X G a, ⟨t, rfl⟩, fun g => .str n⟩
/-- a value of the written part is the datum -/
def KV (K : PySem.W.Frag) (u : Value) (d : D) : Prop := ∃ v, RelV v u ∧ ∀ (mg : Str → Option Value) (g : Gw), Rp K mg g v d
inductive KVs (K : PySem.W.Frag) : List Value → List D → Prop
  | nil : KVs K [] []
  | cons {u : Value} {us : List Value} {d : D} {ds : List D} : KV K u d → KVs K us ds → KVs K (u :: us) (d :: ds)
theorem kv_int {n : Int} {t : Tok} : KV K (.int n t) (.int n) := ⟨.int n, ⟨t, rfl⟩, fun mg g => .int n⟩
theorem kv_str {n : Str} {t : Tok} : KV K (.str n t) (.str n) := ⟨.str n, ⟨t, rfl⟩, fun mg g => .str n⟩
theorem KVs.all {us : List Value} {ds : List D} (r : KVs K us ds) : ∃ vs, Vals vs us ∧ ∀ (mg : Str → Option Value) (g : Gw), RpAll K mg g vs ds := by
  induction r with
  | nil => exact ⟨[], .nil, fun mg g => .nil⟩
  | cons h _ ih =>
    obtain ⟨v, h1, h2⟩ := h
    obtain ⟨vs, h3, h4⟩ := ih
    exact ⟨v :: vs, .cons h1 h3, fun mg g => .cons (h2 mg g) (h4 mg g)⟩
theorem kv_tup {a : Addr} {od : Option Addr} {us : List Value} {n : Nat} {sl : Array (Option Value)} {ds : List D} (l : K.lookup a = some ⟨.type "tuple", od, .seq us.toArray n, sl⟩) (hn : us.length ≤ sizeLine) (r : KVs K us ds) : KV K (.ref a) (.tup ds) := by
  obtain ⟨vs, h1, h2⟩ := r.all
  exact ⟨.ref a, rfl, fun mg g => .tup (.inr ⟨_, us.toArray, n, l, rfl, rfl, by simpa using hn, by simpa using h1⟩) (h2 mg g)⟩
theorem con_kv (X : K.In h) (G : h.Ns mainGlobals mg) {u : Value} {d : D} (a : PySem.W.nsIn K mainGlobals x = some (some u)) (r : KV K u d) : Con K mg x d := by
  obtain ⟨v, h1, h2⟩ := r
  exact ⟨v, u, PySem.W.mg_of X G a, h1, fun g => h2 mg g⟩
theorem exc_mk (X : K.In h) (G : h.Ns mainGlobals mg) {C : Addr} {bmB : List Value} {B newId initId : String} (F : ExcBaseFacts B newId initId bmB) (a : PySem.W.nsIn K mainGlobals x = some (some (.ref C))) (q : PySem.W.excIn K C bmB newId = true) (kC : PySem.W.keepIn K (.ref C) = true)
    (b : PySem.W.subIn K (.ref C) (.type "BaseException") = some true) (t : PySem.W.typeIn K (.ref C) = some (.type "type")) : ExcT K mg x :=
  ⟨C, bmB, PySem.W.mg_of X G a, kC, ⟨B, newId, initId, F, q⟩, b, t⟩
theorem fnT_mk {st : Stmt} {ps : List Str} (X : K.In h) (G : h.Ns mainGlobals mg) {f : Addr} {od an : Option Addr} {sl : Array (Option Value)} {oc kV dc pm cd ct : Value}
    (a : PySem.W.nsIn K mainGlobals x = some (some (.ref f))) (l : K.lookup f = some ⟨oc, od, .func (PySem.W.fnOf x x (defArgs st) (defBody st) (defScope st) .none kV dc pm an cd ct), sl⟩) (c : PySem.W.codeIn K cd x = true) (k : PySem.W.keepIn K (.ref f) = true)
    (hb : ∀ F : Fun K x x st f (PySem.W.fnOf x x (defArgs st) (defBody st) (defScope st) .none kV dc pm an cd ct), Binds K (PySem.W.fnOf x x (defArgs st) (defBody st) (defScope st) .none kV dc pm an cd ct) ps []) : FnT K mg x st ps :=
  ⟨f, _, fun_mk l c k, PySem.W.mg_of X G a, hb (fun_mk l c k)⟩
theorem kcut {T : PySem.W.Frag → Prop} {R : Prop} (X : K.In h) (a : T K) (b : T K → R) : R := b a
/-- the law -/
def LawT (K : PySem.W.Frag) (mg : Str → Option Value) (st : Stmt) : Prop := ∃ (f : Addr) (fd : FuncData), Fun K "law" "law" st f fd ∧ mg "law" = some (.ref f) ∧ ∀ u : Value, bindArgs fd ⟨[u], []⟩ = pure [(("script" : Str), u)]
theorem lawT_mk {st : Stmt} (X : K.In h) (G : h.Ns mainGlobals mg) {f : Addr} {od an : Option Addr} {sl : Array (Option Value)} {oc kV dc pm cd ct : Value}
    (a : PySem.W.nsIn K mainGlobals "law" = some (some (.ref f))) (l : K.lookup f = some ⟨oc, od, .func (PySem.W.fnOf "law" "law" (defArgs st) (defBody st) (defScope st) .none kV dc pm an cd ct), sl⟩) (c : PySem.W.codeIn K cd "law" = true) (k : PySem.W.keepIn K (.ref f) = true)
    (hb : ∀ u : Value, bindArgs (PySem.W.fnOf "law" "law" (defArgs st) (defBody st) (defScope st) .none kV dc pm an cd ct) ⟨[u], []⟩ = pure [(("script" : Str), u)]) : LawT K mg st :=
  ⟨f, _, fun_mk l c k, PySem.W.mg_of X G a, hb⟩
def spLaw (K : PySem.W.Frag) (n : Nat) : Sp := fun vs H Q _ => ∃ (a : Addr) (ns : List Int), vs = [.ref a] ∧ Only H ∧ SqL K H a (ns.map V.int) ∧ ns.length ≤ n ∧ ∀ H', Q (.bl true) H'
theorem law_ok {P : Program} {w : World} {base : Heap} {st : Stmt} {f : Addr} {fd : FuncData} {N ps : List Str} {k n : Nat} {body : Env → M Fl} {sc : Scope} {B : List Stmt} (F : Fun K x x st f fd) (hs : defScope st = sc) (hB : defBody st = B) (S : FnScope N ps sc) (hp : ps.length = 1)
    (hbody : ∀ (cdv : Value) (A : Around) (outer : List PySem.Env) (s : Shared) (H : Hp) (E : XK), Room k (A.deeper (envOfC x sc s.heap.objs.size f cdv)) →
      DSs (cxOf (L2.CX P w) P w K mg base N x sc f cdv A outer s H E) E B body)
    (hl : ∀ ns : List Int, ns.length ≤ n → ∃ S', runFn N.length body [.scr ns] [] = .ok (.bl true) S') : FnOk P w K mg base (L2.CX P w) (k + 1) f fd ps (spLaw K n) := by
  subst hs hB
  refine F.okX S (fun vs H Q E h => ?_) fun cdv A outer s H vs Q E hr h => ?_
  · obtain ⟨a, ns, rfl, _⟩ := h; exact hp.symm
  obtain ⟨a, ns, rfl, hO, hS, hn, hq⟩ := h
  obtain ⟨S', hs⟩ := hl ns hn
  have wd : Wd K mg ⟨[], fun b => if b = a then H a else none⟩ [] H := ⟨fun b o e => (by
    dsimp only at e
    split at e
    · rename_i hb; rw [hb]; exact e
    · cases e), List.nodup_nil, rfl, fun b hb => (by cases hb), fun i b x hb => (by simp at hb)⟩
  have r : RpAll K mg ⟨[], fun b => if b = a then H a else none⟩ [.ref a] [.scr ns] := .cons (.scr (by
    rcases hS with hS | hS
    · refine .inl ?_
      rcases hS with hS | ⟨o, hS⟩
      · rcases hO a with z | ⟨o, xs, z⟩
        · rw [hS] at z; cases z
        · rw [hS] at z; cases z
      · exact ⟨o, by dsimp only; rw [if_pos rfl]; exact hS⟩
    · exact .inr hS)) .nil
  refine ⟨_, hbody cdv A outer s H E hr, _, H, _, [], startE N.length [.scr ns], Ext.refl, wd, start_rp r, ?_⟩
  have hs' : (body (startE N.length [.scr ns]) []).next (fun fl => match fl with | .rt d => ret d | .nx _ => ret .non | _ => stk) = .ok (.bl true) S' := hs
  cases hb : body (startE N.length [.scr ns]) [] with
  | ok fl S1 =>
    rw [hb] at hs'
    cases fl with
    | nx ρ' => cases hs'
    | rt d =>
      cases hs'
      intro g' H' v _ _ _ r
      cases r
      exact hq H'
    | bk ρ' => cases hs'
    | ct ρ' => cases hs'
  | exc c fs S1 => rw [hb] at hs'; cases hs'
  | stuck => rw [hb] at hs'; cases hs'
theorem law_F {l : PySem.W.OpenLaw} {w : World} {fa : Addr} {st : Stmt} {k n : Nat} (T : LawT K mg st) (hfa : mg "law" = some (.ref fa))
    (F : ∀ (f : Addr) (fd : FuncData), Fun K "law" "law" st f fd → ∀ base : Heap, FnOk l.prog w K mg base (L2.CX l.prog w) k f fd ["script"] (spLaw K n)) :
    ∃ fd : FuncData, (∀ (s : Shared) (u : Value), BindsTo s fd ⟨[u], []⟩ [("script", u)]) ∧ ∀ base : Heap, K.In base → base.Ns mainGlobals mg → FnOk l.prog w K mg base (L2.CX l.prog w) k fa fd ["script"] (spLaw K n) := by
  obtain ⟨f, fd, T1, T2, T3⟩ := T
  have e := T2.symm.trans hfa
  cases e
  exact ⟨fd, fun s u => .of_eq (T3 u), fun base _ _ => F _ fd T1 base⟩
end
end Dl

set_option Elab.async false
set_option linter.all false
set_option maxRecDepth 100000
set_option autoImplicit false
namespace Dl
open PySem PySem.Spec L2
open PyProof.Rows hiding St

/-! ### what a run does with the cup -/
def Cup (S : Store) : Prop := ∃ c0 c1 : Int, S = [.lst [.int c0, .int c1]]
def Ok {α : Type} (m : M α) (Q : α → Prop) : Prop := ∀ S, Cup S → ∃ a S', m S = .ok a S' ∧ Cup S' ∧ Q a
theorem Ok.ret {α : Type} {a : α} {Q : α → Prop} (h : Q a) : Ok (Dl.ret a) Q := fun S c => ⟨a, S, rfl, c, h⟩
theorem Ok.bnd {α β : Type} {m : M α} {k : α → M β} {Q : α → Prop} {R : β → Prop} (h : Ok m Q) (hk : ∀ a, Q a → Ok (k a) R) : Ok (Dl.bnd m k) R := fun S c => by
  obtain ⟨a, S1, h1, c1, q⟩ := h S c
  obtain ⟨b, S2, h2, c2, r⟩ := hk a q S1 c1
  exact ⟨b, S2, by unfold Dl.bnd; rw [h1]; exact h2, c2, r⟩
theorem Ok.imp {α : Type} {m : M α} {Q R : α → Prop} (h : Ok m Q) (i : ∀ a, Q a → R a) : Ok m R := fun S c => by
  obtain ⟨a, S1, h1, c1, q⟩ := h S c
  exact ⟨a, S1, h1, c1, i a q⟩
theorem Ok.eq {α : Type} {m m' : M α} {Q : α → Prop} (e : m = m') (h : Ok m' Q) : Ok m Q := e ▸ h
/-- a loop -/
theorem Ok.forL {fg : D → Env → Option Env} {cl : List Nat} {fb : Env → M Fl} (I : Nat → Env → Prop) : ∀ (ds : List D) (i : Nat) (ρ : Env), I i ρ →
    (∀ (j : Nat) (d : D) (ρ : Env), ds[j]? = some d → I (i + j) ρ → ∃ ρ1, fg d ρ = some ρ1 ∧ Ok (fb ρ1) fun fl => ∃ ρ2, fl = .nx ρ2 ∧ I (i + j + 1) (clr cl ρ2)) →
    Ok (forL fg cl fb ds ρ) fun fl => ∃ ρ', fl = .nx ρ' ∧ I (i + ds.length) ρ'
  | [], i, ρ, h, _ => Ok.ret ⟨ρ, rfl, h⟩
  | d :: ds, i, ρ, h, st => by
    obtain ⟨ρ1, e1, h1⟩ := st 0 d ρ rfl h
    unfold Dl.forL
    rw [e1, opt_some, bnd_ret]
    refine Ok.bnd h1 fun fl ⟨ρ2, e2, h2⟩ => ?_
    subst e2
    have := Ok.forL I ds (i + 1) (clr cl ρ2) h2 fun j d ρ hd hI => by
      have := st (j + 1) d ρ hd (by rw [← Nat.add_assoc, Nat.add_right_comm]; exact hI)
      rw [show i + (j + 1) + 1 = i + 1 + j + 1 by omega] at this
      exact this
    refine this.imp fun fl ⟨ρ', e, h⟩ => ⟨ρ', e, ?_⟩
    rw [List.length_cons, show i + (ds.length + 1) = i + 1 + ds.length by omega]
    exact h
/-- a loop that draws nothing -/
theorem forL_ret {α β : Type} {fg : D → Env → Option Env} {cl : List Nat} {fb : Env → M Fl} (g : α → Env) (toD : β → D) (st : α → β → α) (I : α → Prop) : ∀ (l : List β) (a : α), I a → (∀ a b, b ∈ l → I a → I (st a b)) →
    (∀ a b, b ∈ l → I a → ∃ ρ1 ρ2, fg (toD b) (g a) = some ρ1 ∧ fb ρ1 = ret (.nx ρ2) ∧ clr cl ρ2 = g (st a b)) → forL fg cl fb (l.map toD) (g a) = ret (.nx (g (l.foldl st a)))
  | [], a, _, _, _ => rfl
  | b :: l, a, ha, hI, h => by
    obtain ⟨ρ1, ρ2, e1, e2, e3⟩ := h a b List.mem_cons_self ha
    rw [List.map_cons]
    unfold Dl.forL
    rw [e1, opt_some, bnd_ret, e2, bnd_ret]
    dsimp only
    rw [e3]
    exact forL_ret g toD st I l (st a b) (hI a b List.mem_cons_self ha) (fun a b hb => hI a b (List.mem_cons_of_mem _ hb)) fun a b hb => h a b (List.mem_cons_of_mem _ hb)
/-- a loop by what it has walked -/
theorem forL_pre {β : Type} {fg : D → Env → Option Env} {cl : List Nat} {fb : Env → M Fl} (g : List β → Env) (toD : β → D) (l : List β)
    (h : ∀ m b r, l = m ++ b :: r → ∃ ρ1 ρ2, fg (toD b) (g m) = some ρ1 ∧ fb ρ1 = ret (.nx ρ2) ∧ clr cl ρ2 = g (m ++ [b])) : forL fg cl fb (l.map toD) (g []) = ret (.nx (g l)) := by
  have key : ∀ (r m : List β), l = m ++ r → forL fg cl fb (r.map toD) (g m) = ret (.nx (g l)) := by
    intro r
    induction r with
    | nil => intro m e; rw [e, List.append_nil]; rfl
    | cons b r ih =>
      intro m e
      obtain ⟨ρ1, ρ2, e1, e2, e3⟩ := h m b r e
      rw [List.map_cons]
      unfold Dl.forL
      rw [e1, opt_some, bnd_ret, e2, bnd_ret]
      dsimp only
      rw [e3]
      exact ih (m ++ [b]) (by rw [e, List.append_assoc]; rfl)
  exact key l [] rfl
/-- comprehensions that draw nothing -/
theorem noX_ret {α : Type} (a : α) : noX (ret a) = ret a := rfl
theorem lcL_ret {β : Type} {t : D → M (Option D)} (toD : β → D) (g : β → Option D) : ∀ (l : List β), (∀ b ∈ l, t (toD b) = ret (g b)) → lcL t (l.map toD) = ret (l.filterMap g)
  | [], _ => rfl
  | b :: l, h => by
    rw [List.map_cons]
    unfold lcL
    rw [h b List.mem_cons_self, bnd_ret, lcL_ret toD g l fun b hb => h b (List.mem_cons_of_mem _ hb), bnd_ret]
    cases e : g b with
    | none => rw [List.filterMap_cons_none e]; rfl
    | some d => rw [List.filterMap_cons_some e]; rfl
theorem lcL_map {β : Type} {t : D → M (Option D)} (toD : β → D) (g : β → D) (l : List β) (h : ∀ b ∈ l, t (toD b) = ret (some (g b))) : lcL t (l.map toD) = ret (l.map g) := by
  rw [lcL_ret toD (fun b => some (g b)) l h]
  congr 1
  induction l with
  | nil => rfl
  | cons b l ih => simp
theorem rng_map (n : Nat) : rng 0 (n : Int) = (List.range n).map fun i => D.int (i : Nat) := by
  unfold rng
  simp
end Dl

set_option Elab.async false
set_option linter.all false
set_option maxRecDepth 100000
set_option autoImplicit false
namespace Dl
open PySem PySem.Spec L2
open PyProof.Rows hiding St
section
variable {ρ ρ' : Env} {f h l : Env → M D} {fa : Env → M (List D)} {fs hs : Env → M Fl} {t u : Env → M Bool} {d d' z : D} {ds : List D} {n i j : Nat} {body : Env → M Fl} {sem : D → D → Option D}
theorem run_rt (e : body (startE n ds) = ret (.rt d)) : runFn n body ds = ret d := by unfold runFn; rw [e]; rfl
theorem run_nx (e : body (startE n ds) = ret (.nx ρ')) : runFn n body ds = ret .non := by unfold runFn; rw [e]; rfl
theorem sSeq_nx (e : fs ρ = ret (.nx ρ')) : sSeq fs hs ρ = hs ρ' := by unfold sSeq; rw [e, bnd_ret]
theorem sSeq_rt (e : fs ρ = ret (.rt d)) : sSeq fs hs ρ = ret (.rt d) := by unfold sSeq; rw [e, bnd_ret]
theorem sIf_t (e : t ρ = ret true) : sIf t fs hs ρ = fs ρ := by unfold sIf; rw [e, bnd_ret, if_pos rfl]
theorem sIf_f (e : t ρ = ret false) : sIf t fs hs ρ = hs ρ := by unfold sIf; rw [e, bnd_ret, if_neg Bool.false_ne_true]
theorem sFor_eq {fi : Env → M (List D)} {fg : D → Env → Option Env} {cl : List Nat} (e : fi ρ = ret ds) : sFor fi fg cl fs ρ = forL fg cl fs ds ρ := by unfold sFor; rw [e, bnd_ret]
theorem sSet_eq (e : f ρ = ret d) : sSet i f ρ = ret (.nx (ρ.set i (.dat d))) := by unfold sSet; rw [e, bnd_ret]
theorem sOwn_eq (e : f ρ = ret (.lst ds)) : sOwn i f ρ = ret (.nx (ρ.set i (.own (.lst ds)))) := by unfold sOwn; rw [e, bnd_ret]; rfl
theorem sRet_eq (e : f ρ = ret d) : sRet f ρ = ret (.rt d) := by unfold sRet; rw [e, bnd_ret]
theorem sDrop_eq (e : f ρ = ret d) : sDrop f ρ = ret (.nx ρ) := by unfold sDrop; rw [e, bnd_ret]
theorem sPar_eq {k1 k2 : Kd} (e1 : f ρ = ret d) (e2 : h ρ = ret d') : sPar k1 k2 i j f h ρ = ret (.nx ((ρ.set i (mkS k1 d)).set j (mkS k2 d'))) := by unfold sPar; rw [e1, bnd_ret, e2, bnd_ret]
theorem sAsg_eq {fg : D → Env → Option Env} (e : f ρ = ret d) (g : fg d ρ = some ρ') : sAsg f fg ρ = ret (.nx ρ') := by unfold sAsg; rw [e, bnd_ret, g]; rfl
theorem aNil_eq : (fun _ : Env => (ret [] : M (List D))) ρ = ret [] := rfl
theorem aCons_eq (e1 : f ρ = ret d) (e2 : fa ρ = ret ds) : aCons f fa ρ = ret (d :: ds) := by unfold aCons; rw [e1, bnd_ret, e2, bnd_ret]
theorem a1 (e1 : f ρ = ret d) : aCons f (fun _ => ret []) ρ = ret [d] := aCons_eq e1 rfl
theorem a2 (e1 : f ρ = ret d) (e2 : h ρ = ret d') : aCons f (aCons h (fun _ => ret [])) ρ = ret [d, d'] := aCons_eq e1 (a1 e2)
theorem a3 (e1 : f ρ = ret d) (e2 : h ρ = ret d') (e3 : l ρ = ret z) : aCons f (aCons h (aCons l (fun _ => ret []))) ρ = ret [d, d', z] := aCons_eq e1 (a2 e2 e3)
theorem eFn_eq {s : List D → M D} (e : fa ρ = ret ds) (hs : s ds = ret d) (hl : ds.length = n := by rfl) : eFn n s fa ρ = ret d := by unfold eFn callS; rw [e, bnd_ret, if_pos hl, hs]
theorem e2_eq (e1 : f ρ = ret d) (e2 : h ρ = ret d') (hz : sem d d' = some z) : Dl.e2 sem f h ρ = ret z := by unfold Dl.e2; rw [e1, bnd_ret, e2, bnd_ret, hz]; rfl
theorem eCall_eq {s : List D → Option D} (e : fa ρ = ret ds) (hz : s ds = some z) : eCall s fa ρ = ret z := by unfold eCall; rw [e, bnd_ret, hz]; rfl
theorem eT_eq (e : fa ρ = ret ds) (hl : ds.length ≤ 1000000 := by exact Nat.le_of_ble_eq_true rfl) : eT fa ρ = ret (.tup ds) := by unfold eT; rw [e, bnd_ret, mkT_ok (Nat.le_trans hl (by decide))]
theorem eL_eq (e : fa ρ = ret ds) (hl : ds.length ≤ 1000000 := by exact Nat.le_of_ble_eq_true rfl) : eL fa ρ = ret (.lst ds) := by unfold eL; rw [e, bnd_ret, mkL_ok (Nat.le_trans hl (by decide))]
theorem tV_eq {b : Bool} (e : f ρ = ret (.bl b)) : tV f ρ = ret b := by unfold tV; rw [e, bnd_ret]; rfl
theorem tN_eq {b : Bool} (e : t ρ = ret b) : tN t ρ = ret (!b) := by unfold tN; rw [e, bnd_ret]
theorem tA_f (e : t ρ = ret false) : tA t u ρ = ret false := by unfold tA; rw [e, bnd_ret]; rfl
theorem tA_t (e : t ρ = ret true) : tA t u ρ = u ρ := by unfold tA; rw [e, bnd_ret]; rfl
theorem tO_t (e : t ρ = ret true) : tO t u ρ = ret true := by unfold tO; rw [e, bnd_ret]; rfl
theorem tO_f (e : t ρ = ret false) : tO t u ρ = u ρ := by unfold tO; rw [e, bnd_ret]; rfl
theorem eA_t (e : f ρ = ret (.bl true)) : eA f h ρ = h ρ := by unfold eA; rw [e, bnd_ret]; rfl
theorem eA_f (e : f ρ = ret (.bl false)) : eA f h ρ = ret (.bl false) := by unfold eA; rw [e, bnd_ret]; rfl
theorem eA_bl {a b : Bool} (e1 : f ρ = ret (.bl a)) (e2 : h ρ = ret (.bl b)) : eA f h ρ = ret (.bl (a && b)) := by cases a; exact eA_f e1; exact (eA_t e1).trans e2
theorem eO_t (e : f ρ = ret (.bl true)) : eO f h ρ = ret (.bl true) := by unfold eO; rw [e, bnd_ret]; rfl
theorem eO_f (e : f ρ = ret (.bl false)) : eO f h ρ = h ρ := by unfold eO; rw [e, bnd_ret]; rfl
theorem eN_eq {b : Bool} (e : f ρ = ret (.bl b)) : eN f ρ = ret (.bl (!b)) := by unfold eN; rw [e, bnd_ret]; rfl
theorem eNeg_eq {x : Int} (e : f ρ = ret (.int x)) : eNeg f ρ = ret (.int (-x)) := by unfold eNeg; rw [e, bnd_ret]
theorem eIf_t (e : t ρ = ret true) : eIf t f h ρ = f ρ := by unfold eIf; rw [e, bnd_ret]; rfl
theorem eIf_f (e : t ρ = ret false) : eIf t f h ρ = h ρ := by unfold eIf; rw [e, bnd_ret]; rfl
theorem eChain_eq {s1 s2 : D → D → Option D} {a b c : D} {x y : Bool} (e1 : f ρ = ret a) (e2 : h ρ = ret b) (e3 : l ρ = ret c) (h1 : s1 a b = some (.bl x)) (h2 : s2 b c = some (.bl y)) : eChain s1 s2 f h l ρ = ret (.bl (x && y)) := by
  unfold eChain; rw [e1, bnd_ret, e2, bnd_ret, h1, opt_some, bnd_ret]
  cases x
  · rfl
  · show bnd (l ρ) _ = _
    rw [e3, bnd_ret, h2]; rfl
theorem iAny_l (e : f ρ = ret (.lst ds)) : iAny f ρ = ret ds := by unfold iAny; rw [e, bnd_ret]
theorem iAny_t (e : f ρ = ret (.tup ds)) : iAny f ρ = ret ds := by unfold iAny; rw [e, bnd_ret]
theorem iAny_s {x : Str} (e : f ρ = ret (.str x)) : iAny f ρ = ret (Dl.signs x) := by unfold iAny; rw [e, bnd_ret]
theorem iR1_eq {k : Nat} (e : fa ρ = ret [.int (k : Int)]) (hk : k < 2 ^ 62) : iR1 fa ρ = ret ((List.range k).map fun i : Nat => D.int (i : Int)) := by
  unfold iR1; rw [e, bnd_ret]
  have ok : okR (k : Int) = true := by
    unfold okR
    simp only [Bool.and_eq_true, decide_eq_true_eq]
    omega
  simp only [if_pos ok, rng_map]
theorem rng_map2 (a n : Nat) : rng (a : Int) ((a + n : Nat) : Int) = (List.range n).map fun i => D.int ((a + i : Nat) : Int) := by
  unfold rng
  rw [show (((a + n : Nat) : Int) - (a : Int)).toNat = n by omega]
  apply List.map_congr_left
  intro i _
  congr 1
theorem iR2_eq {a k : Nat} (e : fa ρ = ret [.int (a : Int), .int ((a + k : Nat) : Int)]) (hk : a + k < 2 ^ 62) : iR2 fa ρ = ret ((List.range k).map fun i : Nat => D.int ((a + i : Nat) : Int)) := by
  unfold iR2; rw [e, bnd_ret]
  have ok : okR (a : Int) = true ∧ okR ((a + k : Nat) : Int) = true := by
    unfold okR
    simp only [Bool.and_eq_true, decide_eq_true_eq]
    omega
  simp only [if_pos ok, rng_map2]
/-- comprehensions -/
theorem eLc_eq {β : Type} {vs : List Nat} {fi : Env → M (List D)} {fg : D → Env → Option Env} {ft : Env → M Bool} {fe : Env → M D} (toD : β → D) (g : β → Option D) {xs : List β} (e : fi ρ = ret (xs.map toD)) (hl : xs.length ≤ 1000000)
    (h : ∀ b ∈ xs, ∃ ρ1, fg (toD b) (clr vs ρ) = some ρ1 ∧ ((ft ρ1 = ret true ∧ ∃ y, g b = some y ∧ fe ρ1 = ret y) ∨ (ft ρ1 = ret false ∧ g b = none))) : eLc vs fi fg ft fe ρ = ret (.lst (xs.filterMap g)) := by
  unfold eLc
  rw [e, bnd_ret, lcL_ret toD g xs fun b hb => ?_, bnd_ret, mkL_ok]
  · exact Nat.le_trans (Nat.le_trans (List.length_filterMap_le ..) hl) (by decide)
  · obtain ⟨ρ1, h1, h2⟩ := h b hb
    unfold lcT
    rw [h1, opt_some, bnd_ret]
    rcases h2 with ⟨h2, y, h3, h4⟩ | ⟨h2, h3⟩
    · rw [h2, bnd_ret, if_pos rfl, h4, bnd_ret, h3]; rfl
    · rw [h2, bnd_ret, if_neg Bool.false_ne_true, h3]; rfl
/-- .. that take all -/
theorem eLc_map {β : Type} {vs : List Nat} {fi : Env → M (List D)} {fg : D → Env → Option Env} {fe : Env → M D} (toD g : β → D) {xs : List β} (e : fi ρ = ret (xs.map toD)) (hl : xs.length ≤ 1000000)
    (h : ∀ b ∈ xs, ∃ ρ1, fg (toD b) (clr vs ρ) = some ρ1 ∧ fe ρ1 = ret (g b)) : eLc vs fi fg tYs fe ρ = ret (.lst (xs.map g)) := by
  rw [eLc_eq toD (fun b => some (g b)) e hl fun b hb => ?_]
  · rw [List.filterMap_eq_map']
  · obtain ⟨ρ1, h1, h2⟩ := h b hb
    exact ⟨ρ1, h1, .inl ⟨rfl, g b, rfl, h2⟩⟩
/-- .. with a test -/
theorem eLc_filter {β : Type} {vs : List Nat} {fi : Env → M (List D)} {fg : D → Env → Option Env} {ft : Env → M Bool} {fe : Env → M D} (toD : β → D) (c : β → Bool) {xs : List β} (e : fi ρ = ret (xs.map toD)) (hl : xs.length ≤ 1000000)
    (h : ∀ b ∈ xs, ∃ ρ1, fg (toD b) (clr vs ρ) = some ρ1 ∧ ft ρ1 = ret (c b) ∧ fe ρ1 = ret (toD b)) : eLc vs fi fg ft fe ρ = ret (.lst ((xs.filter c).map toD)) := by
  rw [eLc_eq toD (fun b => if c b = true then some (toD b) else none) e hl fun b hb => ?_]
  · congr 2
    clear e hl h
    induction xs with
    | nil => rfl
    | cons b xs ih =>
      rw [List.filterMap_cons, List.filter_cons]
      cases c b
      · simpa using ih
      · simpa using ih
  · obtain ⟨ρ1, h1, h2, h3⟩ := h b hb
    refine ⟨ρ1, h1, ?_⟩
    cases hc : c b
    · exact .inr ⟨by rw [h2, hc], rfl⟩
    · exact .inl ⟨by rw [h2, hc], toD b, rfl, h3⟩
theorem lcA_map {β : Type} {vs1 : List Nat} {fg1 : D → Env → Option Env} {fe : Env → M D} {ρ1 : Env} (toD g : β → D) : ∀ (ys : List β) (acc : List D), acc.length + ys.length ≤ 1000000 →
    (∀ c ∈ ys, ∃ ρ2, fg1 (toD c) (clr vs1 ρ1) = some ρ2 ∧ fe ρ2 = ret (g c)) → lcA vs1 fg1 tYs fe ρ1 (ys.map toD) acc = ret (acc ++ ys.map g)
  | [], acc, _, _ => by rw [List.map_nil, List.map_nil, List.append_nil]; rfl
  | c :: ys, acc, hl, h => by
    obtain ⟨ρ2, h1, h2⟩ := h c List.mem_cons_self
    rw [List.map_cons]
    unfold lcA lcT
    rw [h1, opt_some, bnd_ret]
    show bnd (noX (bnd (ret true) _)) _ = _
    rw [bnd_ret, if_pos rfl, h2, bnd_ret]
    show bnd (ret (some (g c))) _ = _
    rw [bnd_ret]
    dsimp only
    rw [if_pos (Nat.lt_of_lt_of_le (show acc.length < 1000001 by omega) (by decide)), lcA_map toD g ys (acc ++ [g c]) (by simp at hl ⊢; omega) fun c hc => h c (List.mem_cons_of_mem _ hc)]
    rw [List.append_assoc]
    rfl
theorem lc2A_map {β : Type} {hd : D → M (Option (Env × List D))} {inn : Env → List D → List D → M (List D)} (toD : β → D) (out : β → List D) : ∀ (xs : List β) (acc : List D), acc.length + (xs.flatMap out).length ≤ 1000000 →
    (∀ b ∈ xs, ∃ p, hd (toD b) = ret (some p) ∧ ∀ acc : List D, acc.length + (out b).length ≤ 1000000 → inn p.1 p.2 acc = ret (acc ++ out b)) → lc2A hd inn (xs.map toD) acc = ret (acc ++ xs.flatMap out)
  | [], acc, _, _ => by rw [List.map_nil, List.flatMap_nil, List.append_nil]; rfl
  | b :: xs, acc, hl, h => by
    obtain ⟨p, h1, h2⟩ := h b List.mem_cons_self
    rw [List.flatMap_cons, List.length_append] at hl
    rw [List.map_cons]
    unfold lc2A
    rw [h1, bnd_ret]
    dsimp only
    rw [h2 acc (by omega), bnd_ret, lc2A_map toD out xs (acc ++ out b) (by rw [List.length_append]; omega) fun b hb => h b (List.mem_cons_of_mem _ hb), List.flatMap_cons, List.append_assoc]
/-! ### max -/
def mx : List Int → Int
  | [] => 0
  | a :: r => imax a r
theorem mx_mem {xs : List Int} (h : xs ≠ []) : mx xs ∈ xs ∧ ∀ y ∈ xs, y ≤ mx xs := by
  cases xs with
  | nil => exact absurd rfl h
  | cons a r => exact imax_mem a r
theorem maxI_eq {xs : List Int} (h : xs ≠ []) : maxI [.lst (xs.map D.int)] = some (.int (mx xs)) := by
  cases xs with
  | nil => exact absurd rfl h
  | cons a r =>
    unfold maxI
    dsimp only
    rw [intsOf_map]
    rfl
theorem mx_eq {xs ys : List Int} (hx : xs ≠ []) (h : ∀ y, y ∈ xs ↔ y ∈ ys) : mx xs = mx ys := by
  have hy : ys ≠ [] := by
    rintro rfl
    cases xs with
    | nil => exact hx rfl
    | cons a r => have := (h a).mp List.mem_cons_self; cases this
  have a := mx_mem hx
  have b := mx_mem hy
  have c := b.2 _ ((h _).mp a.1)
  have d := a.2 _ ((h _).mpr b.1)
  omega
/-! ### data that can be compared -/
theorem okD_lst_ints (ns : List Int) : okD (.lst (ns.map D.int)) = true := by
  have h1 : plainAll (ns.map D.int) = true := by
    induction ns with
    | nil => rfl
    | cons a r ih => show (plain (.int a) && plainAll (r.map D.int)) = true; rw [ih]; rfl
  have h2 : PyData.canLayAll0 (toPyAll (ns.map D.int)) = true := by
    clear h1
    induction ns with
    | nil => rfl
    | cons a r ih => show (PyData.canLay0 (.int a) && PyData.canLayAll0 (toPyAll (r.map D.int))) = true; rw [ih]; rfl
  have h3 : PyData.depthAll (toPyAll (ns.map D.int)) = 0 := by
    clear h1 h2
    induction ns with
    | nil => rfl
    | cons a r ih => show max (PyData.depth (.int a)) (PyData.depthAll (toPyAll (r.map D.int))) = 0; rw [ih]; rfl
  show (plainAll (ns.map D.int) && (PyData.canLayAll0 (toPyAll (ns.map D.int)) && decide (PyData.depthAll (toPyAll (ns.map D.int)) + 1 ≤ 64))) = true
  rw [h1, h2, h3]
  rfl
theorem ne_nil_ints (ns : List Int) : neD (.lst (ns.map D.int)) (.lst []) = some (.bl (decide (ns ≠ []))) := by
  unfold neD
  rw [okD_lst_ints]
  cases ns <;> rfl
theorem eq_nil_ints (ns : List Int) : eqD (.lst (ns.map D.int)) (.lst []) = some (.bl (decide (ns = []))) := by
  unfold eqD
  rw [okD_lst_ints]
  cases ns <;> rfl
/-! ### with draws -/
theorem Ok.seq {I : Env → Prop} {Q : Fl → Prop} (h1 : Ok (fs ρ) fun fl => ∃ ρ', fl = .nx ρ' ∧ I ρ') (h2 : ∀ ρ', I ρ' → Ok (hs ρ') Q) : Ok (sSeq fs hs ρ) Q := by
  unfold sSeq
  exact Ok.bnd h1 fun fl ⟨ρ', e, hI⟩ => by subst e; exact h2 ρ' hI
theorem Ok.set {P : D → Prop} (h1 : Ok (f ρ) P) : Ok (sSet i f ρ) fun fl => ∃ ρ', fl = .nx ρ' ∧ ∃ d, P d ∧ ρ' = ρ.set i (.dat d) := by
  unfold sSet
  exact Ok.bnd h1 fun d hd => Ok.ret ⟨_, rfl, d, hd, rfl⟩
theorem Ok.ret' {P : D → Prop} (h1 : Ok (f ρ) P) : Ok (sRet f ρ) fun fl => ∃ d, fl = .rt d ∧ P d := by
  unfold sRet
  exact Ok.bnd h1 fun d hd => Ok.ret ⟨d, rfl, hd⟩
theorem Ok.run {P : D → Prop} (h1 : Ok (body (startE n ds)) fun fl => ∃ d, fl = .rt d ∧ P d) : Ok (runFn n body ds) P := by
  unfold runFn
  exact Ok.bnd h1 fun fl ⟨d, e, hd⟩ => by subst e; exact Ok.ret hd
theorem Ok.for' {fi : Env → M (List D)} {fg : D → Env → Option Env} {cl : List Nat} {R : List D → Prop} {Q : Fl → Prop} (h1 : Ok (fi ρ) R) (h2 : ∀ ds, R ds → Ok (Dl.forL fg cl fs ds ρ) Q) : Ok (sFor fi fg cl fs ρ) Q := by
  unfold sFor
  exact Ok.bnd h1 h2
theorem Ok.e2 {P1 P2 : D → Prop} {Q : D → Prop} (h1 : Ok (f ρ) P1) (h2 : Ok (h ρ) P2) (h3 : ∀ a b, P1 a → P2 b → ∃ z, sem a b = some z ∧ Q z) : Ok (Dl.e2 sem f h ρ) Q := by
  unfold Dl.e2
  refine Ok.bnd h1 fun a ha => Ok.bnd h2 fun b hb => ?_
  obtain ⟨z, e, hq⟩ := h3 a b ha hb
  rw [e]
  exact Ok.ret hq
theorem Ok.is (e : f ρ = Dl.ret d) : Ok (f ρ) (· = d) := by rw [e]; exact Ok.ret rfl
theorem Ok.isL (e : fa ρ = Dl.ret ds) : Ok (fa ρ) (· = ds) := by rw [e]; exact Ok.ret rfl
theorem Ok.fn {s : List D → M D} {R : List D → Prop} {Q : D → Prop} (h1 : Ok (fa ρ) R) (h2 : ∀ ds, R ds → ds.length = n ∧ Ok (s ds) Q) : Ok (eFn n s fa ρ) Q := by
  unfold eFn
  refine Ok.bnd h1 fun ds hd => ?_
  obtain ⟨e, h⟩ := h2 ds hd
  unfold callS
  rw [if_pos e]
  exact h
theorem Ok.cons {P : D → Prop} {R : List D → Prop} (h1 : Ok (f ρ) P) (h2 : Ok (fa ρ) R) : Ok (aCons f fa ρ) fun l => ∃ d ds, l = d :: ds ∧ P d ∧ R ds := by
  unfold aCons
  exact Ok.bnd h1 fun d hd => Ok.bnd h2 fun ds hds => Ok.ret ⟨d, ds, rfl, hd, hds⟩
end
end Dl

set_option Elab.async false
set_option linter.all false
set_option maxRecDepth 100000
set_option autoImplicit false
namespace G48
open PySem PySem.Spec L2 Dl
open PyProof.Rows hiding St
/-! ### the text -/
def topS (i : Nat) : Stmt := PySem.Challenge.pw_highground_k48_whole_tellings_again_and.main.body.getD i (.Pass ⟨0, 0, 0, 0⟩)
def B__law_cup : { B : List Stmt // defBody (topS 29) = B } := by
  refine ⟨?B, ?h⟩
  case h => conv => (lhs; whnf)
def S__law_cup : { B : Scope // defScope (topS 29) = B } := by
  refine ⟨?B, ?h⟩
  case h => conv => (lhs; whnf)
abbrev N__law_cup : List Str := ["script", "cell"]
theorem sc__law_cup : FnScope N__law_cup ["script"] S__law_cup.1 := ⟨rfl, rfl, rfl, by decide +kernel, rfl, by decide +kernel, by decide +kernel⟩
def B__law_same : { B : List Stmt // defBody (topS 32) = B } := by
  refine ⟨?B, ?h⟩
  case h => conv => (lhs; whnf)
def S__law_same : { B : Scope // defScope (topS 32) = B } := by
  refine ⟨?B, ?h⟩
  case h => conv => (lhs; whnf)
abbrev N__law_same : List Str := ["told", "due", "at"]
theorem sc__law_same : FnScope N__law_same ["told", "due"] S__law_same.1 := ⟨rfl, rfl, rfl, by decide +kernel, rfl, by decide +kernel, by decide +kernel⟩
def B__law_roll : { B : List Stmt // defBody (topS 30) = B } := by
  refine ⟨?B, ?h⟩
  case h => conv => (lhs; whnf)
def S__law_roll : { B : Scope // defScope (topS 30) = B } := by
  refine ⟨?B, ?h⟩
  case h => conv => (lhs; whnf)
abbrev N__law_roll : List Str := ["cup", "many", "found", "deep"]
theorem sc__law_roll : FnScope N__law_roll ["cup", "many"] S__law_roll.1 := ⟨rfl, rfl, rfl, by decide +kernel, rfl, by decide +kernel, by decide +kernel⟩
def B_fits_telling : { B : List Stmt // defBody (topS 14) = B } := by
  refine ⟨?B, ?h⟩
  case h => conv => (lhs; whnf)
def S_fits_telling : { B : Scope // defScope (topS 14) = B } := by
  refine ⟨?B, ?h⟩
  case h => conv => (lhs; whnf)
abbrev N_fits_telling : List Str := ["value", "sign"]
theorem sc_fits_telling : FnScope N_fits_telling ["value"] S_fits_telling.1 := ⟨rfl, rfl, rfl, by decide +kernel, rfl, by decide +kernel, by decide +kernel⟩
def B_need_telling : { B : List Stmt // defBody (topS 15) = B } := by
  refine ⟨?B, ?h⟩
  case h => conv => (lhs; whnf)
def S_need_telling : { B : Scope // defScope (topS 15) = B } := by
  refine ⟨?B, ?h⟩
  case h => conv => (lhs; whnf)
abbrev N_need_telling : List Str := ["telling"]
theorem sc_need_telling : FnScope N_need_telling ["telling"] S_need_telling.1 := ⟨rfl, rfl, rfl, by decide +kernel, rfl, by decide +kernel, by decide +kernel⟩
def B_stepped : { B : List Stmt // defBody (topS 18) = B } := by
  refine ⟨?B, ?h⟩
  case h => conv => (lhs; whnf)
def S_stepped : { B : Scope // defScope (topS 18) = B } := by
  refine ⟨?B, ?h⟩
  case h => conv => (lhs; whnf)
abbrev N_stepped : List Str := ["pose", "sign", "east", "north", "way"]
theorem sc_stepped : FnScope N_stepped ["pose", "sign"] S_stepped.1 := ⟨rfl, rfl, rfl, by decide +kernel, rfl, by decide +kernel, by decide +kernel⟩
def B_poses_of : { B : List Stmt // defBody (topS 19) = B } := by
  refine ⟨?B, ?h⟩
  case h => conv => (lhs; whnf)
def S_poses_of : { B : Scope // defScope (topS 19) = B } := by
  refine ⟨?B, ?h⟩
  case h => conv => (lhs; whnf)
abbrev N_poses_of : List Str := ["telling", "found", "sign"]
theorem sc_poses_of : FnScope N_poses_of ["telling"] S_poses_of.1 := ⟨rfl, rfl, rfl, by decide +kernel, rfl, by decide +kernel, by decide +kernel⟩
def B_turned : { B : List Stmt // defBody (topS 20) = B } := by
  refine ⟨?B, ?h⟩
  case h => conv => (lhs; whnf)
def S_turned : { B : Scope // defScope (topS 20) = B } := by
  refine ⟨?B, ?h⟩
  case h => conv => (lhs; whnf)
abbrev N_turned : List Str := ["vector", "way", "east", "north", "turn"]
theorem sc_turned : FnScope N_turned ["vector", "way"] S_turned.1 := ⟨rfl, rfl, rfl, by decide +kernel, rfl, by decide +kernel, by decide +kernel⟩
def B_then : { B : List Stmt // defBody (topS 21) = B } := by
  refine ⟨?B, ?h⟩
  case h => conv => (lhs; whnf)
def S_then : { B : Scope // defScope (topS 21) = B } := by
  refine ⟨?B, ?h⟩
  case h => conv => (lhs; whnf)
abbrev N_then : List Str := ["pose", "other", "east", "north"]
theorem sc_then : FnScope N_then ["pose", "other"] S_then.1 := ⟨rfl, rfl, rfl, by decide +kernel, rfl, by decide +kernel, by decide +kernel⟩
def B_again : { B : List Stmt // defBody (topS 22) = B } := by
  refine ⟨?B, ?h⟩
  case h => conv => (lhs; whnf)
def S_again : { B : Scope // defScope (topS 22) = B } := by
  refine ⟨?B, ?h⟩
  case h => conv => (lhs; whnf)
abbrev N_again : List Str := ["pose", "many", "found", "turn"]
theorem sc_again : FnScope N_again ["pose", "many"] S_again.1 := ⟨rfl, rfl, rfl, by decide +kernel, rfl, by decide +kernel, by decide +kernel⟩
def B_rounds_of : { B : List Stmt // defBody (topS 26) = B } := by
  refine ⟨?B, ?h⟩
  case h => conv => (lhs; whnf)
def S_rounds_of : { B : Scope // defScope (topS 26) = B } := by
  refine ⟨?B, ?h⟩
  case h => conv => (lhs; whnf)
abbrev N_rounds_of : List Str := ["telling", "pose", "good", "many"]
theorem sc_rounds_of : FnScope N_rounds_of ["telling"] S_rounds_of.1 := ⟨rfl, rfl, rfl, by decide +kernel, rfl, by decide +kernel, by decide +kernel⟩
def B_farthest : { B : List Stmt // defBody (topS 27) = B } := by
  refine ⟨?B, ?h⟩
  case h => conv => (lhs; whnf)
def S_farthest : { B : Scope // defScope (topS 27) = B } := by
  refine ⟨?B, ?h⟩
  case h => conv => (lhs; whnf)
abbrev N_farthest : List Str := ["telling", "rows", "found", "turn", "pose", "east", "north", "way"]
theorem sc_farthest : FnScope N_farthest ["telling"] S_farthest.1 := ⟨rfl, rfl, rfl, by decide +kernel, rfl, by decide +kernel, by decide +kernel⟩
def B__law_some : { B : List Stmt // defBody (topS 31) = B } := by
  refine ⟨?B, ?h⟩
  case h => conv => (lhs; whnf)
def S__law_some : { B : Scope // defScope (topS 31) = B } := by
  refine ⟨?B, ?h⟩
  case h => conv => (lhs; whnf)
abbrev N__law_some : List Str := ["cup", "things"]
theorem sc__law_some : FnScope N__law_some ["cup", "things"] S__law_some.1 := ⟨rfl, rfl, rfl, by decide +kernel, rfl, by decide +kernel, by decide +kernel⟩
def B__law_telling : { B : List Stmt // defBody (topS 33) = B } := by
  refine ⟨?B, ?h⟩
  case h => conv => (lhs; whnf)
def S__law_telling : { B : Scope // defScope (topS 33) = B } := by
  refine ⟨?B, ?h⟩
  case h => conv => (lhs; whnf)
abbrev N__law_telling : List Str := ["cup", "most", "found", "turn"]
theorem sc__law_telling : FnScope N__law_telling ["cup", "most"] S__law_telling.1 := ⟨rfl, rfl, rfl, by decide +kernel, rfl, by decide +kernel, by decide +kernel⟩
def B__law_poses : { B : List Stmt // defBody (topS 34) = B } := by
  refine ⟨?B, ?h⟩
  case h => conv => (lhs; whnf)
def S__law_poses : { B : Scope // defScope (topS 34) = B } := by
  refine ⟨?B, ?h⟩
  case h => conv => (lhs; whnf)
abbrev N__law_poses : List Str := ["telling", "east", "north", "way", "found", "sign"]
theorem sc__law_poses : FnScope N__law_poses ["telling"] S__law_poses.1 := ⟨rfl, rfl, rfl, by decide +kernel, rfl, by decide +kernel, by decide +kernel⟩
def B_pose_of : { B : List Stmt // defBody (topS 23) = B } := by
  refine ⟨?B, ?h⟩
  case h => conv => (lhs; whnf)
def S_pose_of : { B : Scope // defScope (topS 23) = B } := by
  refine ⟨?B, ?h⟩
  case h => conv => (lhs; whnf)
abbrev N_pose_of : List Str := ["telling"]
theorem sc_pose_of : FnScope N_pose_of ["telling"] S_pose_of.1 := ⟨rfl, rfl, rfl, by decide +kernel, rfl, by decide +kernel, by decide +kernel⟩
def B_is_whole : { B : List Stmt // defBody (topS 5) = B } := by
  refine ⟨?B, ?h⟩
  case h => conv => (lhs; whnf)
def S_is_whole : { B : Scope // defScope (topS 5) = B } := by
  refine ⟨?B, ?h⟩
  case h => conv => (lhs; whnf)
abbrev N_is_whole : List Str := ["value", "low", "high"]
theorem sc_is_whole : FnScope N_is_whole ["value", "low", "high"] S_is_whole.1 := ⟨rfl, rfl, rfl, by decide +kernel, rfl, by decide +kernel, by decide +kernel⟩
def B_pose_behind : { B : List Stmt // defBody (topS 25) = B } := by
  refine ⟨?B, ?h⟩
  case h => conv => (lhs; whnf)
def S_pose_behind : { B : Scope // defScope (topS 25) = B } := by
  refine ⟨?B, ?h⟩
  case h => conv => (lhs; whnf)
abbrev N_pose_behind : List Str := ["telling", "many"]
theorem sc_pose_behind : FnScope N_pose_behind ["telling", "many"] S_pose_behind.1 := ⟨rfl, rfl, rfl, by decide +kernel, rfl, by decide +kernel, by decide +kernel⟩
def B_is_tuple_of : { B : List Stmt // defBody (topS 6) = B } := by
  refine ⟨?B, ?h⟩
  case h => conv => (lhs; whnf)
def S_is_tuple_of : { B : Scope // defScope (topS 6) = B } := by
  refine ⟨?B, ?h⟩
  case h => conv => (lhs; whnf)
abbrev N_is_tuple_of : List Str := ["value", "low", "high"]
theorem sc_is_tuple_of : FnScope N_is_tuple_of ["value", "low", "high"] S_is_tuple_of.1 := ⟨rfl, rfl, rfl, by decide +kernel, rfl, by decide +kernel, by decide +kernel⟩
def B_fits_pose : { B : List Stmt // defBody (topS 16) = B } := by
  refine ⟨?B, ?h⟩
  case h => conv => (lhs; whnf)
def S_fits_pose : { B : Scope // defScope (topS 16) = B } := by
  refine ⟨?B, ?h⟩
  case h => conv => (lhs; whnf)
abbrev N_fits_pose : List Str := ["value", "one"]
theorem sc_fits_pose : FnScope N_fits_pose ["value"] S_fits_pose.1 := ⟨rfl, rfl, rfl, by decide +kernel, rfl, by decide +kernel, by decide +kernel⟩
def B_need_pose : { B : List Stmt // defBody (topS 17) = B } := by
  refine ⟨?B, ?h⟩
  case h => conv => (lhs; whnf)
def S_need_pose : { B : Scope // defScope (topS 17) = B } := by
  refine ⟨?B, ?h⟩
  case h => conv => (lhs; whnf)
abbrev N_need_pose : List Str := ["pose"]
theorem sc_need_pose : FnScope N_need_pose ["pose"] S_need_pose.1 := ⟨rfl, rfl, rfl, by decide +kernel, rfl, by decide +kernel, by decide +kernel⟩
def B_joined : { B : List Stmt // defBody (topS 24) = B } := by
  refine ⟨?B, ?h⟩
  case h => conv => (lhs; whnf)
def S_joined : { B : Scope // defScope (topS 24) = B } := by
  refine ⟨?B, ?h⟩
  case h => conv => (lhs; whnf)
abbrev N_joined : List Str := ["pose", "other"]
theorem sc_joined : FnScope N_joined ["pose", "other"] S_joined.1 := ⟨rfl, rfl, rfl, by decide +kernel, rfl, by decide +kernel, by decide +kernel⟩
def B__law_right : { B : List Stmt // defBody (topS 35) = B } := by
  refine ⟨?B, ?h⟩
  case h => conv => (lhs; whnf)
def S__law_right : { B : Scope // defScope (topS 35) = B } := by
  refine ⟨?B, ?h⟩
  case h => conv => (lhs; whnf)
abbrev N__law_right : List Str := ["cup", "telling", "rows", "size", "many", "home", "far", "near", "more", "east", "north", "way", "due"]
theorem sc__law_right : FnScope N__law_right ["cup"] S__law_right.1 := ⟨rfl, rfl, rfl, by decide +kernel, rfl, by decide +kernel, by decide +kernel⟩
def B_law : { B : List Stmt // defBody (topS 36) = B } := by
  refine ⟨?B, ?h⟩
  case h => conv => (lhs; whnf)
def S_law : { B : Scope // defScope (topS 36) = B } := by
  refine ⟨?B, ?h⟩
  case h => conv => (lhs; whnf)
abbrev N_law : List Str := ["script", "cup", "turn", "side", "many", "steps", "told"]
theorem sc_law : FnScope N_law ["script"] S_law.1 := ⟨rfl, rfl, rfl, by decide +kernel, rfl, by decide +kernel, by decide +kernel⟩
/-! ### what each def computes -/
def b__law_cup : Dl.Env → M Fl :=
  (sSeq (sSet 1 (eCall absI (aCons (e2 ixD (e2 addA (eCall listD (aCons (eV 0) (fun _ => ret []))) (eL (aCons (eC (.int 0)) (fun _ => ret [])))) (eC (.int 0))) (fun _ => ret []))))
    (sRetBox (eL (aCons (eIf (tV (e2 geI (eV 1) (e2 powI (eC (.int 10)) (eC (.int 18))))) (e2 divI (eV 1) (eC (.int 71))) (eC (.int 0))) (aCons (e2 addA (e2 modI (eCall intI (aCons (e2 addA (e2 mulA (eV 1) (eC (.int 307))) (eC (.int 4013))) (fun _ => ret []))) (eC (.int 2077503103))) (eC (.int 151))) (fun _ => ret []))))))
def f__law_cup : List D → M D := runFn N__law_cup.length b__law_cup
def b__law_same (self : List D → M D) : Dl.Env → M Fl :=
  (sSeq (sIf (tV (eCall isiD (aCons (eV 1) (aCons (eC (.ty "tuple")) (fun _ => ret []))))) (sSeq (sIf (tO (tN (tV (eCall isiD (aCons (eV 0) (aCons (eC (.ty "tuple")) (fun _ => ret [])))))) (tV (e2 neD (eCall lenD (aCons (eV 0) (fun _ => ret []))) (eCall lenD (aCons (eV 1) (fun _ => ret [])))))) (sRet (eC (.bl false))) sNil)
    (sRet (eCall allD (aCons (eLc [2] (iR1 (aCons (eCall lenD (aCons (eV 1) (fun _ => ret []))) (fun _ => ret []))) (gN 2) tYs (eFn 2 self (aCons (e2 ixD (eV 0) (eV 2)) (aCons (e2 ixD (eV 1) (eV 2)) (fun _ => ret []))))) (fun _ => ret []))))) sNil)
    (sSeq (sIf (tV (e2 isN (eV 1) (eC .non))) (sRet (e2 isN (eV 0) (eC .non))) sNil)
    (sSeq (sIf (tV (eCall isiD (aCons (eV 1) (aCons (eC (.ty "bool")) (fun _ => ret []))))) (sRet (eIf (tV (eV 1)) (e2 isB (eV 0) (eC (.bl true))) (e2 isB (eV 0) (eC (.bl false))))) sNil)
    (sSeq (sIf (tV (eCall isiD (aCons (eV 1) (aCons (eC (.ty "int")) (fun _ => ret []))))) (sRet (eA (eCall isiD (aCons (eV 0) (aCons (eC (.ty "int")) (fun _ => ret [])))) (eA (eN (eCall isiD (aCons (eV 0) (aCons (eC (.ty "bool")) (fun _ => ret []))))) (e2 eqD (eCall intI (aCons (eV 0) (fun _ => ret []))) (eV 1))))) sNil)
    (sRet (eA (eCall isiD (aCons (eV 0) (aCons (eC (.ty "str")) (fun _ => ret [])))) (e2 eqD (eCall strD (aCons (eV 0) (fun _ => ret []))) (eV 1))))))))
def f__law_same : Nat → List D → M D
  | 0 => fun _ => stk
  | n + 1 => runFn N__law_same.length (b__law_same (f__law_same n))
def b__law_roll : Dl.Env → M Fl :=
  (sSeq (sIf (tV (e2 gtI (eIxBox (eV 0) (eC (.int 0))) (eC (.int 0)))) (sSeq (sSet 2 (e2 modI (eCall intI (aCons (eIxBox (eV 0) (eC (.int 0))) (fun _ => ret []))) (eV 1)))
    (sSeq (sSetBox (eV 0) (eC (.int 0)) (e2 divI (eIxBox (eV 0) (eC (.int 0))) (eV 1)))
    (sRet (eV 2)))) sNil)
    (sSeq (sSetBox (eV 0) (eC (.int 1)) (e2 modI (eCall intI (aCons (e2 addA (e2 mulA (eIxBox (eV 0) (eC (.int 1))) (eC (.int 30871))) (eC (.int 7873))) (fun _ => ret []))) (eC (.int 2147483399))))
    (sSeq (sSet 3 (e2 modI (eCall intI (aCons (e2 mulA (eIxBox (eV 0) (eC (.int 1))) (e2 addA (eIxBox (eV 0) (eC (.int 1))) (eC (.int 227)))) (fun _ => ret []))) (eC (.int 2147483563))))
    (sRet (e2 modI (eCall intI (aCons (e2 divI (eV 3) (eC (.int 809))) (fun _ => ret []))) (eV 1))))))
def f__law_roll : List D → M D := runFn N__law_roll.length b__law_roll
def b_fits_telling : Dl.Env → M Fl :=
  (sRet (eA (eCall isiD (aCons (eV 0) (aCons (eC (.ty "str")) (fun _ => ret [])))) (eA (e2 leI (eCall lenD (aCons (eV 0) (fun _ => ret []))) (eC (.int 60))) (eCall allD (aCons (eLc [1] (iAny (eV 0)) (gN 1) tYs (e2 inA (eV 1) (eC (.str "flr")))) (fun _ => ret []))))))
def f_fits_telling : List D → M D := runFn N_fits_telling.length b_fits_telling
def b_need_telling : Dl.Env → M Fl :=
  (sIf (tN (tV (eFn 1 f_fits_telling (aCons (eV 0) (fun _ => ret []))))) (sRaise "InvalidTelling") sNil)
def f_need_telling : List D → M D := runFn N_need_telling.length b_need_telling
def b_stepped : Dl.Env → M Fl :=
  (sSeq (sAsg (eV 0) (gT 3 (gsC (gN 2) (gsC (gN 3) (gsC (gN 4) gsN)))))
    (sSeq (sIf (tV (e2 eqD (eV 1) (eC (.str "l")))) (sRet (eT (aCons (eV 2) (aCons (eV 3) (aCons (e2 modI (e2 addA (eV 4) (eC (.int 3))) (eC (.int 4))) (fun _ => ret [])))))) sNil)
    (sSeq (sIf (tV (e2 eqD (eV 1) (eC (.str "r")))) (sRet (eT (aCons (eV 2) (aCons (eV 3) (aCons (e2 modI (e2 addA (eV 4) (eC (.int 1))) (eC (.int 4))) (fun _ => ret [])))))) sNil)
    (sRet (eT (aCons (e2 addA (eV 2) (e2 ixD (e2 ixD (eC (.tup [(.tup [(.int 0), (.int 1)]), (.tup [(.int 1), (.int 0)]), (.tup [(.int 0), (.int (-1))]), (.tup [(.int (-1)), (.int 0)])])) (eV 4)) (eC (.int 0)))) (aCons (e2 addA (eV 3) (e2 ixD (e2 ixD (eC (.tup [(.tup [(.int 0), (.int 1)]), (.tup [(.int 1), (.int 0)]), (.tup [(.int 0), (.int (-1))]), (.tup [(.int (-1)), (.int 0)])])) (eV 4)) (eC (.int 1)))) (aCons (eV 4) (fun _ => ret [])))))))))
def f_stepped : List D → M D := runFn N_stepped.length b_stepped
def b_poses_of : Dl.Env → M Fl :=
  (sSeq (sOwn 1 (eL (aCons (eC (.tup [(.int 0), (.int 0), (.int 0)])) (fun _ => ret []))))
    (sSeq (sFor (iAny (eV 0)) (gN 2) [2] (sApp 1 (aCons (eFn 2 f_stepped (aCons (e2 ixD (eB 1) (eNeg (eC (.int 1)))) (aCons (eV 2) (fun _ => ret [])))) (fun _ => ret []))))
    (sFz 1 (sRet (eV 1)))))
def f_poses_of : List D → M D := runFn N_poses_of.length b_poses_of
def b_turned : Dl.Env → M Fl :=
  (sSeq (sAsg (eV 0) (gT 2 (gsC (gN 2) (gsC (gN 3) gsN))))
    (sSeq (sFor (iR1 (aCons (eV 1) (fun _ => ret []))) (gN 4) [4] (sPar .P .P 2 3 (eV 3) (eNeg (eV 2))))
    (sRet (eT (aCons (eV 2) (aCons (eV 3) (fun _ => ret [])))))))
def f_turned : List D → M D := runFn N_turned.length b_turned
def b_then : Dl.Env → M Fl :=
  (sSeq (sAsg (eFn 2 f_turned (aCons (eSl (eV 1) oNone (oSome (eC (.int 2)))) (aCons (e2 ixD (eV 0) (eC (.int 2))) (fun _ => ret [])))) (gT 2 (gsC (gN 2) (gsC (gN 3) gsN))))
    (sRet (eT (aCons (e2 addA (e2 ixD (eV 0) (eC (.int 0))) (eV 2)) (aCons (e2 addA (e2 ixD (eV 0) (eC (.int 1))) (eV 3)) (aCons (e2 modI (e2 addA (e2 ixD (eV 0) (eC (.int 2))) (e2 ixD (eV 1) (eC (.int 2)))) (eC (.int 4))) (fun _ => ret [])))))))
def f_then : List D → M D := runFn N_then.length b_then
def b_again : Dl.Env → M Fl :=
  (sSeq (sIf (tV (e2 eqD (e2 ixD (eV 0) (eC (.int 2))) (eC (.int 0)))) (sRet (eT (aCons (e2 mulA (e2 ixD (eV 0) (eC (.int 0))) (eV 1)) (aCons (e2 mulA (e2 ixD (eV 0) (eC (.int 1))) (eV 1)) (aCons (eC (.int 0)) (fun _ => ret [])))))) sNil)
    (sSeq (sSet 2 (eC (.tup [(.int 0), (.int 0), (.int 0)])))
    (sSeq (sFor (iR1 (aCons (e2 modI (eV 1) (eC (.int 4))) (fun _ => ret []))) (gN 3) [3] (sSet 2 (eFn 2 f_then (aCons (eV 2) (aCons (eV 0) (fun _ => ret []))))))
    (sRet (eV 2)))))
def f_again : List D → M D := runFn N_again.length b_again
def b_rounds_of : Dl.Env → M Fl :=
  (sSeq (sDrop (eFn 1 f_need_telling (aCons (eV 0) (fun _ => ret []))))
    (sSeq (sSet 1 (e2 ixD (eFn 1 f_poses_of (aCons (eV 0) (fun _ => ret []))) (eNeg (eC (.int 1)))))
    (sSeq (sSet 2 (eLc [3] (iAny (eT (aCons (eC (.int 1)) (aCons (eC (.int 2)) (aCons (eC (.int 4)) (fun _ => ret [])))))) (gN 3) (tV (e2 eqD (eFn 2 f_again (aCons (eV 1) (aCons (eV 3) (fun _ => ret [])))) (eC (.tup [(.int 0), (.int 0), (.int 0)])))) (eV 3)))
    (sRet (eIf (tV (e2 neD (eV 2) (eL (fun _ => ret [])))) (e2 ixD (eV 2) (eC (.int 0))) (eC .non))))))
def f_rounds_of : List D → M D := runFn N_rounds_of.length b_rounds_of
def b_farthest : Dl.Env → M Fl :=
  (sSeq (sDrop (eFn 1 f_need_telling (aCons (eV 0) (fun _ => ret []))))
    (sSeq (sSet 1 (eFn 1 f_poses_of (aCons (eV 0) (fun _ => ret []))))
    (sSeq (sIf (tV (e2 neD (eFn 2 f_again (aCons (e2 ixD (eV 1) (eNeg (eC (.int 1)))) (aCons (eC (.int 4)) (fun _ => ret [])))) (eC (.tup [(.int 0), (.int 0), (.int 0)])))) (sRet (eC .non)) sNil)
    (sSeq (sSet 2 (eLc2 [3, 4] [4] (iR1 (aCons (eC (.int 4)) (fun _ => ret []))) (gN 3) tYs (iAny (eV 1)) (gN 4) tYs (eFn 2 f_then (aCons (eFn 2 f_again (aCons (e2 ixD (eV 1) (eNeg (eC (.int 1)))) (aCons (eV 3) (fun _ => ret [])))) (aCons (eV 4) (fun _ => ret []))))))
    (sRet (eCall maxI (aCons (eLc [5, 6, 7] (iAny (eV 2)) (gT 3 (gsC (gN 5) (gsC (gN 6) (gsC (gN 7) gsN)))) tYs (e2 addA (eCall absI (aCons (eV 5) (fun _ => ret []))) (eCall absI (aCons (eV 6) (fun _ => ret []))))) (fun _ => ret []))))))))
def f_farthest : List D → M D := runFn N_farthest.length b_farthest
def b__law_some : Dl.Env → M Fl :=
  (sRet (e2 ixD (eV 1) (eFn 2 f__law_roll (aCons (eV 0) (aCons (eCall lenD (aCons (eV 1) (fun _ => ret []))) (fun _ => ret []))))))
def f__law_some : List D → M D := runFn N__law_some.length b__law_some
def b__law_telling : Dl.Env → M Fl :=
  (sSeq (sSet 2 (eC (.str "")))
    (sSeq (sFor (iR1 (aCons (eFn 2 f__law_roll (aCons (eV 0) (aCons (e2 addA (eV 1) (eC (.int 1))) (fun _ => ret [])))) (fun _ => ret []))) (gN 3) [3] (sSet 2 (e2 addA (eV 2) (eFn 2 f__law_some (aCons (eV 0) (aCons (eL (aCons (eC (.str "f")) (aCons (eC (.str "f")) (aCons (eC (.str "l")) (aCons (eC (.str "r")) (fun _ => ret [])))))) (fun _ => ret [])))))))
    (sRet (eV 2))))
def f__law_telling : List D → M D := runFn N__law_telling.length b__law_telling
def b__law_poses : Dl.Env → M Fl :=
  (sSeq (sTup4 1 2 3 4 (eC (.int 0)) (eC (.int 0)) (eC (.int 0)) (eL (aCons (eT (aCons (eC (.int 0)) (aCons (eC (.int 0)) (aCons (eC (.int 0)) (fun _ => ret []))))) (fun _ => ret []))))
    (sSeq (sFor (iAny (eV 0)) (gN 5) [5] (sSeq (sIf (tV (e2 eqD (eV 5) (eC (.str "f")))) (sPar .P .P 1 2 (e2 addA (eV 1) (e2 ixD (eL (aCons (eC (.int 0)) (aCons (eC (.int 1)) (aCons (eC (.int 0)) (aCons (eNeg (eC (.int 1))) (fun _ => ret [])))))) (eV 3))) (e2 addA (eV 2) (e2 ixD (eL (aCons (eC (.int 1)) (aCons (eC (.int 0)) (aCons (eNeg (eC (.int 1))) (aCons (eC (.int 0)) (fun _ => ret [])))))) (eV 3)))) sNil)
    (sSeq (sSet 3 (e2 modI (eCall intI (aCons (e2 addA (eV 3) (eIf (tV (e2 eqD (eV 5) (eC (.str "r")))) (eC (.int 1)) (eIf (tV (e2 eqD (eV 5) (eC (.str "l")))) (eC (.int 3)) (eC (.int 0))))) (fun _ => ret []))) (eC (.int 4))))
    (sApp 4 (aCons (eT (aCons (eV 1) (aCons (eV 2) (aCons (eV 3) (fun _ => ret []))))) (fun _ => ret []))))))
    (sFz 4 (sRet (eV 4)))))
def f__law_poses : List D → M D := runFn N__law_poses.length b__law_poses
def b_pose_of : Dl.Env → M Fl :=
  (sSeq (sDrop (eFn 1 f_need_telling (aCons (eV 0) (fun _ => ret []))))
    (sRet (e2 ixD (eFn 1 f_poses_of (aCons (eV 0) (fun _ => ret []))) (eNeg (eC (.int 1))))))
def f_pose_of : List D → M D := runFn N_pose_of.length b_pose_of
def b_is_whole : Dl.Env → M Fl :=
  (sRet (eA (eCall isiD (aCons (eV 0) (aCons (eC (.ty "int")) (fun _ => ret [])))) (eA (eN (eCall isiD (aCons (eV 0) (aCons (eC (.ty "bool")) (fun _ => ret []))))) (eChain leI leI (eV 1) (eV 0) (eV 2)))))
def f_is_whole : List D → M D := runFn N_is_whole.length b_is_whole
def b_pose_behind : Dl.Env → M Fl :=
  (sSeq (sDrop (eFn 1 f_need_telling (aCons (eV 0) (fun _ => ret []))))
    (sSeq (sIf (tN (tV (eFn 3 f_is_whole (aCons (eV 1) (aCons (eC (.int 0)) (aCons (eC (.int 1000000000000)) (fun _ => ret []))))))) (sRaise "InvalidNumber") sNil)
    (sRet (eFn 2 f_again (aCons (e2 ixD (eFn 1 f_poses_of (aCons (eV 0) (fun _ => ret []))) (eNeg (eC (.int 1)))) (aCons (eV 1) (fun _ => ret [])))))))
def f_pose_behind : List D → M D := runFn N_pose_behind.length b_pose_behind
def b_is_tuple_of : Dl.Env → M Fl :=
  (sRet (eA (eCall isiD (aCons (eV 0) (aCons (eC (.ty "tuple")) (fun _ => ret [])))) (eChain leI leI (eV 1) (eCall lenD (aCons (eV 0) (fun _ => ret []))) (eV 2))))
def f_is_tuple_of : List D → M D := runFn N_is_tuple_of.length b_is_tuple_of
def b_fits_pose : Dl.Env → M Fl :=
  (sSeq (sIf (tO (tN (tV (eFn 3 f_is_tuple_of (aCons (eV 0) (aCons (eC (.int 3)) (aCons (eC (.int 3)) (fun _ => ret []))))))) (tN (tV (eCall allD (aCons (eLc [1] (iAny (eSl (eV 0) oNone (oSome (eC (.int 2))))) (gN 1) tYs (eFn 3 f_is_whole (aCons (eV 1) (aCons (eNeg (eC (.int 1000))) (aCons (eC (.int 1000)) (fun _ => ret [])))))) (fun _ => ret [])))))) (sRet (eC (.bl false))) sNil)
    (sRet (eFn 3 f_is_whole (aCons (e2 ixD (eV 0) (eC (.int 2))) (aCons (eC (.int 0)) (aCons (eC (.int 3)) (fun _ => ret [])))))))
def f_fits_pose : List D → M D := runFn N_fits_pose.length b_fits_pose
def b_need_pose : Dl.Env → M Fl :=
  (sIf (tN (tV (eFn 1 f_fits_pose (aCons (eV 0) (fun _ => ret []))))) (sRaise "InvalidTelling") sNil)
def f_need_pose : List D → M D := runFn N_need_pose.length b_need_pose
def b_joined : Dl.Env → M Fl :=
  (sSeq (sDrop (eFn 1 f_need_pose (aCons (eV 0) (fun _ => ret []))))
    (sSeq (sDrop (eFn 1 f_need_pose (aCons (eV 1) (fun _ => ret []))))
    (sRet (eFn 2 f_then (aCons (eV 0) (aCons (eV 1) (fun _ => ret [])))))))
def f_joined : List D → M D := runFn N_joined.length b_joined
def b__law_right : Dl.Env → M Fl :=
  (sSeq (sSet 1 (eFn 2 f__law_telling (aCons (eV 0) (aCons (eC (.int 12)) (fun _ => ret [])))))
    (sSeq (sSet 2 (eFn 1 f__law_poses (aCons (e2 mulA (eV 1) (eC (.int 8))) (fun _ => ret []))))
    (sSeq (sSet 3 (eCall lenD (aCons (eV 1) (fun _ => ret []))))
    (sSeq (sFor (iR1 (aCons (eC (.int 9)) (fun _ => ret []))) (gN 4) [4] (sIf (tN (tV (eFn 2 (f__law_same 8) (aCons (eFn 2 f_pose_behind (aCons (eV 1) (aCons (eV 4) (fun _ => ret [])))) (aCons (e2 ixD (eV 2) (e2 mulA (eV 4) (eV 3))) (fun _ => ret [])))))) (sRet (eC (.bl false))) sNil))
    (sSeq (sSet 5 (eLc [4] (iR2 (aCons (eC (.int 1)) (aCons (eC (.int 9)) (fun _ => ret [])))) (gN 4) (tV (e2 eqD (e2 ixD (eV 2) (e2 mulA (eV 4) (eV 3))) (eT (aCons (eC (.int 0)) (aCons (eC (.int 0)) (aCons (eC (.int 0)) (fun _ => ret []))))))) (eV 4)))
    (sSeq (sSet 6 (eCall maxI (aCons (eLc [9, 10, 11] (iAny (eV 2)) (gT 3 (gsC (gN 9) (gsC (gN 10) (gsC (gN 11) gsN)))) tYs (e2 addA (eCall absI (aCons (eV 9) (fun _ => ret []))) (eCall absI (aCons (eV 10) (fun _ => ret []))))) (fun _ => ret []))))
    (sSeq (sSet 7 (eCall maxI (aCons (eLc [9, 10, 11] (iAny (eSl (eV 2) oNone (oSome (e2 addA (e2 mulA (eC (.int 4)) (eV 3)) (eC (.int 1)))))) (gT 3 (gsC (gN 9) (gsC (gN 10) (gsC (gN 11) gsN)))) tYs (e2 addA (eCall absI (aCons (eV 9) (fun _ => ret []))) (eCall absI (aCons (eV 10) (fun _ => ret []))))) (fun _ => ret []))))
    (sSeq (sIf (tN (tV (eFn 2 (f__law_same 8) (aCons (eT (aCons (eFn 1 f_rounds_of (aCons (eV 1) (fun _ => ret []))) (aCons (eFn 1 f_farthest (aCons (eV 1) (fun _ => ret []))) (fun _ => ret [])))) (aCons (eT (aCons (eIf (tV (e2 neD (eV 5) (eL (fun _ => ret [])))) (e2 ixD (eV 5) (eC (.int 0))) (eC .non)) (aCons (eIf (tV (e2 neD (eV 5) (eL (fun _ => ret [])))) (eV 7) (eC .non)) (fun _ => ret [])))) (fun _ => ret [])))))) (sRet (eC (.bl false))) sNil)
    (sSeq (sIf (tO (tA (tV (e2 neD (eV 5) (eL (fun _ => ret [])))) (tO (tV (e2 neD (eV 6) (eV 7))) (tV (e2 notInA (e2 ixD (eV 5) (eC (.int 0))) (eT (aCons (eC (.int 1)) (aCons (eC (.int 2)) (aCons (eC (.int 4)) (fun _ => ret []))))))))) (tA (tV (e2 eqD (eV 5) (eL (fun _ => ret [])))) (tV (e2 leI (eV 6) (eV 7))))) (sRet (eC (.bl false))) sNil)
    (sSeq (sPar .P .P 4 8 (eFn 2 f__law_roll (aCons (eV 0) (aCons (e2 powI (eC (.int 10)) (eC (.int 12))) (fun _ => ret [])))) (eFn 2 f__law_roll (aCons (eV 0) (aCons (eC (.int 1000)) (fun _ => ret [])))))
    (sSeq (sAsg (eFn 1 f_pose_of (aCons (eV 1) (fun _ => ret []))) (gT 3 (gsC (gN 9) (gsC (gN 10) (gsC (gN 11) gsN)))))
    (sSeq (sSet 12 (eIf (tV (e2 neD (eV 5) (eL (fun _ => ret [])))) (e2 ixD (eV 2) (e2 mulA (e2 modI (eCall intI (aCons (eV 4) (fun _ => ret []))) (e2 ixD (eV 5) (eC (.int 0)))) (eV 3))) (eT (aCons (e2 mulA (eV 9) (eV 4)) (aCons (e2 mulA (eV 10) (eV 4)) (aCons (eC (.int 0)) (fun _ => ret [])))))))
    (sSeq (sIf (tO (tN (tV (eFn 2 (f__law_same 8) (aCons (eFn 2 f_pose_behind (aCons (eV 1) (aCons (eV 4) (fun _ => ret [])))) (aCons (eV 12) (fun _ => ret [])))))) (tA (tV (e2 eqD (eV 5) (eL (fun _ => ret [])))) (tV (e2 neD (eV 11) (eC (.int 0)))))) (sRet (eC (.bl false))) sNil)
    (sSeq (sIf (tA (tV (e2 neD (eV 5) (eL (fun _ => ret [])))) (tV (e2 neD (eFn 2 f_pose_behind (aCons (eV 1) (aCons (eV 4) (fun _ => ret [])))) (eFn 2 f_joined (aCons (eFn 2 f_pose_behind (aCons (eV 1) (aCons (e2 modI (eCall intI (aCons (eV 4) (fun _ => ret []))) (eC (.int 4))) (fun _ => ret [])))) (aCons (eT (aCons (eC (.int 0)) (aCons (eC (.int 0)) (aCons (eC (.int 0)) (fun _ => ret []))))) (fun _ => ret []))))))) (sRet (eC (.bl false))) sNil)
    (sRet (eA (e2 eqD (eFn 2 f_pose_behind (aCons (e2 addA (eV 1) (eV 1)) (aCons (eV 8) (fun _ => ret [])))) (eFn 2 f_pose_behind (aCons (eV 1) (aCons (e2 mulA (eC (.int 2)) (eV 8)) (fun _ => ret []))))) (e2 eqD (eFn 2 f_pose_behind (aCons (eV 1) (aCons (eC (.int 0)) (fun _ => ret [])))) (eT (aCons (eC (.int 0)) (aCons (eC (.int 0)) (aCons (eC (.int 0)) (fun _ => ret []))))))))))))))))))))))
def f__law_right : List D → M D := runFn N__law_right.length b__law_right
def b_law : Dl.Env → M Fl :=
  (sSeq (sSet 1 (eFn 1 f__law_cup (aCons (eV 0) (fun _ => ret []))))
    (sSeq (sFor (iR1 (aCons (eC (.int 8)) (fun _ => ret []))) (gN 2) [2] (sIf (tN (tV (eFn 1 f__law_right (aCons (eV 1) (fun _ => ret []))))) (sRet (eC (.bl false))) sNil))
    (sSeq (sPar .P .P 3 4 (e2 addA (eC (.int 1)) (eFn 2 f__law_roll (aCons (eV 1) (aCons (eC (.int 50)) (fun _ => ret []))))) (eFn 2 f__law_roll (aCons (eV 1) (aCons (e2 addA (e2 powI (eC (.int 10)) (eC (.int 12))) (eC (.int 1))) (fun _ => ret [])))))
    (sSeq (sSet 5 (e2 mulA (eC (.str "f")) (eV 3)))
    (sSeq (sSet 6 (eT (aCons (eFn 1 f_rounds_of (aCons (e2 addA (eV 5) (eC (.str "r"))) (fun _ => ret []))) (aCons (eFn 1 f_farthest (aCons (e2 addA (eV 5) (eC (.str "r"))) (fun _ => ret []))) (aCons (eFn 1 f_rounds_of (aCons (e2 addA (eV 5) (eC (.str "ll"))) (fun _ => ret []))) (aCons (eFn 1 f_farthest (aCons (e2 addA (eV 5) (eC (.str "ll"))) (fun _ => ret []))) (aCons (eFn 1 f_rounds_of (aCons (e2 addA (eV 5) (eC (.str "lr"))) (fun _ => ret []))) (fun _ => ret []))))))))
    (sSeq (sIf (tN (tV (eFn 2 (f__law_same 8) (aCons (eV 6) (aCons (eT (aCons (eC (.int 4)) (aCons (e2 mulA (eC (.int 2)) (eV 3)) (aCons (eC (.int 2)) (aCons (eV 3) (aCons (eC .non) (fun _ => ret []))))))) (fun _ => ret [])))))) (sRet (eC (.bl false))) sNil)
    (sRet (eFn 2 (f__law_same 8) (aCons (eT (aCons (eFn 1 f_farthest (aCons (eV 5) (fun _ => ret []))) (aCons (eFn 2 f_pose_behind (aCons (eV 5) (aCons (eV 4) (fun _ => ret [])))) (aCons (eFn 1 f_rounds_of (aCons (eC (.str "l")) (fun _ => ret []))) (aCons (eFn 1 f_farthest (aCons (eC (.str "lr")) (fun _ => ret []))) (fun _ => ret [])))))) (aCons (eT (aCons (eC .non) (aCons (eT (aCons (eC (.int 0)) (aCons (e2 mulA (eV 3) (eV 4)) (aCons (eC (.int 0)) (fun _ => ret []))))) (aCons (eC (.int 4)) (aCons (eC (.int 0)) (fun _ => ret [])))))) (fun _ => ret [])))))))))))
def f_law : List D → M D := runFn N_law.length b_law
/-! ### what is known of the module -/
structure Facts (K : PySem.W.Frag) (mg : Str → Option Value) : Prop where
  b_abs : mg "abs" = none
  b_list : mg "list" = none
  b_int : mg "int" = none
  b_isinstance : mg "isinstance" = none
  b_tuple : mg "tuple" = none
  b_len : mg "len" = none
  b_all : mg "all" = none
  b_range : mg "range" = none
  b_bool : mg "bool" = none
  b_str : mg "str" = none
  b_max : mg "max" = none
  c_LONG : Con K mg "LONG" (.int 60)
  c_SIGNS : Con K mg "SIGNS" (.str "flr")
  c_WAYS : Con K mg "WAYS" (.tup [(.tup [(.int 0), (.int 1)]), (.tup [(.int 1), (.int 0)]), (.tup [(.int 0), (.int (-1))]), (.tup [(.int (-1)), (.int 0)])])
  c_HOME : Con K mg "HOME" (.tup [(.int 0), (.int 0), (.int 0)])
  c_TIMES : Con K mg "TIMES" (.int 1000000000000)
  c_FAR : Con K mg "FAR" (.int 1000)
  e_InvalidTelling : ExcT K mg "InvalidTelling"
  e_InvalidNumber : ExcT K mg "InvalidNumber"
  t__law_cup : FnT K mg "_law_cup" (topS 29) ["script"]
  t__law_same : FnT K mg "_law_same" (topS 32) ["told", "due"]
  t__law_roll : FnT K mg "_law_roll" (topS 30) ["cup", "many"]
  t_fits_telling : FnT K mg "fits_telling" (topS 14) ["value"]
  t_need_telling : FnT K mg "need_telling" (topS 15) ["telling"]
  t_stepped : FnT K mg "stepped" (topS 18) ["pose", "sign"]
  t_poses_of : FnT K mg "poses_of" (topS 19) ["telling"]
  t_turned : FnT K mg "turned" (topS 20) ["vector", "way"]
  t_then : FnT K mg "then" (topS 21) ["pose", "other"]
  t_again : FnT K mg "again" (topS 22) ["pose", "many"]
  t_rounds_of : FnT K mg "rounds_of" (topS 26) ["telling"]
  t_farthest : FnT K mg "farthest" (topS 27) ["telling"]
  t__law_some : FnT K mg "_law_some" (topS 31) ["cup", "things"]
  t__law_telling : FnT K mg "_law_telling" (topS 33) ["cup", "most"]
  t__law_poses : FnT K mg "_law_poses" (topS 34) ["telling"]
  t_pose_of : FnT K mg "pose_of" (topS 23) ["telling"]
  t_is_whole : FnT K mg "is_whole" (topS 5) ["value", "low", "high"]
  t_pose_behind : FnT K mg "pose_behind" (topS 25) ["telling", "many"]
  t_is_tuple_of : FnT K mg "is_tuple_of" (topS 6) ["value", "low", "high"]
  t_fits_pose : FnT K mg "fits_pose" (topS 16) ["value"]
  t_need_pose : FnT K mg "need_pose" (topS 17) ["pose"]
  t_joined : FnT K mg "joined" (topS 24) ["pose", "other"]
  t__law_right : FnT K mg "_law_right" (topS 35) ["cup"]
section
variable {P : Program} {w : World} {K : PySem.W.Frag} {mg : Str → Option Value} {base : Heap} (Fc : Facts K mg)
include Fc
theorem ok__law_cup : FnD P w K mg base "_law_cup" 1 1 f__law_cup :=
  FnD.mk2 (k := 0) (N := N__law_cup) (ps := ["script"]) (body := b__law_cup) Fc.t__law_cup S__law_cup.2 B__law_cup.2 sc__law_cup fun f cdv A outer s H E hr => (dss_cons (ds_set 1 sc__law_cup.nd (de_callB cd_abs (by rfl) Fc.b_abs bt_abs (da_consB (de_ix ixd_seq (DE.toB (de_op od_addA (DE.toB (de_callTy cd_list (by rfl) Fc.b_list bt_list (da_consB (de_var 0) da_nil))) (DE.toB (de_lst (da_consP de_int da_nil))))) de_int (fun _ _ => rfl)) da_nil)))
    (dss_one (ds_retBox (de_lst (da_consP (de_if (dt_cmp od_geI (de_var 1) (de_op od_powI de_int de_int) (nomark _)) (de_op od_divI (de_var 1) de_int) de_int) (da_consP (DE.fz (de_op od_addA (de_op od_modI (de_callTy cd_int (by rfl) Fc.b_int bt_int (da_consB (DE.toB (de_op od_addA (DE.toB (de_op od_mulA (de_var 1) de_int)) de_int)) da_nil)) de_int) de_int)) da_nil))))))
theorem ok__law_same : ∀ n : Nat, FnD P w K mg base "_law_same" (1 + n) 2 (f__law_same n)
  | 0 => FnD.none2 (k := 1 - 1) (N := N__law_same) (ps := ["told", "due"]) Fc.t__law_same S__law_same.2 sc__law_same
  | n + 1 => by
    have ih : FnD P w K mg base "_law_same" (1 + n) 2 (f__law_same n) := ok__law_same n
    exact FnD.mk2 (k := 1 + n) (N := N__law_same) (ps := ["told", "due"]) (body := b__law_same (f__law_same n)) Fc.t__law_same S__law_same.2 B__law_same.2 sc__law_same fun f cdv A outer s H E hr => (dss_cons (ds_if (dt_val (de_callB cd_isi (by rfl) Fc.b_isinstance bt_isinstance (da_consB (de_var 1) (da_consB (de_ty (by rfl) Fc.b_tuple bt_tuple) da_nil)))) (dss_cons (ds_if (DW.dt (dw_or (dt_not (dt_val (de_callB cd_isi (by rfl) Fc.b_isinstance bt_isinstance (da_consB (de_var 0) (da_consB (de_ty (by rfl) Fc.b_tuple bt_tuple) da_nil))))) (dw_or1 (dt_cmp (od_neD hr.units) (de_callB cd_len (by rfl) Fc.b_len bt_len (da_consB (de_var 0) da_nil)) (de_callB cd_len (by rfl) Fc.b_len bt_len (da_consB (de_var 1) da_nil)) (nomark _))))) (dss_one (ds_ret de_bl)) dss_nil)
    (dss_one (ds_ret (de_callB (cd_all rfl) (by rfl) Fc.b_all bt_all (da_consB (DE.toB (de_lc (own := [("at", 2)]) rfl sc__law_same.nd (di_range1 (by rfl) Fc.b_range (da_consB (de_callB cd_len (by rfl) Fc.b_len bt_len (da_consB (de_var 1) da_nil)) da_nil)) (blkOk_by (N := N__law_same) (sc := S__law_same.1) (by decide +kernel)) (fun _ _ _ _ _ => (dg_name 2 sc__law_same.nd)) (fun _ _ _ _ _ => dts_nil) (fun _ _ _ _ _ => (de_fn ih hr (by rfl) Dl.takes0 (da_consP (de_ix ixd_seq (de_var 0) (de_var 2) (fun _ _ => rfl)) (da_consP (de_ix ixd_seq (de_var 1) (de_var 2) (fun _ _ => rfl)) da_nil)))) (by decide))) da_nil))))) dss_nil)
    (dss_cons (ds_if (dt_cmp od_isN (de_var 1) de_non (nomark _)) (dss_one (ds_ret (de_cmp od_isN (de_var 0) de_non (nomark _)))) dss_nil)
    (dss_cons (ds_if (dt_val (de_callB cd_isi (by rfl) Fc.b_isinstance bt_isinstance (da_consB (de_var 1) (da_consB (de_ty (by rfl) Fc.b_bool bt_bool) da_nil)))) (dss_one (ds_ret (de_if (dt_val (de_var 1)) (de_cmp od_isB (de_var 0) de_bl (nomark _)) (de_cmp od_isB (de_var 0) de_bl (nomark _))))) dss_nil)
    (dss_cons (ds_if (dt_val (de_callB cd_isi (by rfl) Fc.b_isinstance bt_isinstance (da_consB (de_var 1) (da_consB (de_ty (by rfl) Fc.b_int bt_int) da_nil)))) (dss_one (ds_ret (de_and (de_callB cd_isi (by rfl) Fc.b_isinstance bt_isinstance (da_consB (de_var 0) (da_consB (de_ty (by rfl) Fc.b_int bt_int) da_nil))) (de_and (de_not (de_callB cd_isi (by rfl) Fc.b_isinstance bt_isinstance (da_consB (de_var 0) (da_consB (de_ty (by rfl) Fc.b_bool bt_bool) da_nil)))) (de_one (de_cmp (od_eqD hr.units) (de_callTy cd_int (by rfl) Fc.b_int bt_int (da_consB (de_var 0) da_nil)) (de_var 1) (nomark _))))))) dss_nil)
    (dss_one (ds_ret (de_and (de_callB cd_isi (by rfl) Fc.b_isinstance bt_isinstance (da_consB (de_var 0) (da_consB (de_ty (by rfl) Fc.b_str bt_str) da_nil))) (de_one (de_cmp (od_eqD hr.units) (de_callTy cd_str (by rfl) Fc.b_str bt_str (da_consB (de_var 0) da_nil)) (de_var 1) (nomark _))))))))))
theorem ok__law_roll : FnD P w K mg base "_law_roll" 1 2 f__law_roll :=
  FnD.mk2 (k := 0) (N := N__law_roll) (ps := ["cup", "many"]) (body := b__law_roll) Fc.t__law_roll S__law_roll.2 B__law_roll.2 sc__law_roll fun f cdv A outer s H E hr => (dss_cons (ds_if (dt_cmp od_gtI (de_ixBox (de_var 0) de_int (fun _ _ => rfl)) de_int (nomark _)) (dss_cons (ds_set 2 sc__law_roll.nd (de_op od_modI (de_callTy cd_int (by rfl) Fc.b_int bt_int (da_consB (de_ixBox (de_var 0) de_int (fun _ _ => rfl)) da_nil)) (de_var 1)))
    (dss_cons (ds_setBoxA (de_op od_divI (de_ixBox (de_var 0) de_int (fun _ _ => rfl)) (de_var 1)) (de_var 0) de_int)
    (dss_one (ds_ret (de_var 2))))) dss_nil)
    (dss_cons (ds_setBoxA (de_op od_modI (de_callTy cd_int (by rfl) Fc.b_int bt_int (da_consB (DE.toB (de_op od_addA (DE.toB (de_op od_mulA (de_ixBox (de_var 0) de_int (fun _ _ => rfl)) de_int)) de_int)) da_nil)) de_int) (de_var 0) de_int)
    (dss_cons (ds_set 3 sc__law_roll.nd (de_op od_modI (de_callTy cd_int (by rfl) Fc.b_int bt_int (da_consB (DE.toB (de_op od_mulA (de_ixBox (de_var 0) de_int (fun _ _ => rfl)) (DE.toB (de_op od_addA (de_ixBox (de_var 0) de_int (fun _ _ => rfl)) de_int)))) da_nil)) de_int))
    (dss_one (ds_ret (de_op od_modI (de_callTy cd_int (by rfl) Fc.b_int bt_int (da_consB (de_op od_divI (de_var 3) de_int) da_nil)) (de_var 1)))))))
theorem ok_fits_telling : FnD P w K mg base "fits_telling" 1 1 f_fits_telling :=
  FnD.mk2 (k := 0) (N := N_fits_telling) (ps := ["value"]) (body := b_fits_telling) Fc.t_fits_telling S_fits_telling.2 B_fits_telling.2 sc_fits_telling fun f cdv A outer s H E hr => (dss_one (ds_ret (de_and (de_callB cd_isi (by rfl) Fc.b_isinstance bt_isinstance (da_consB (de_var 0) (da_consB (de_ty (by rfl) Fc.b_str bt_str) da_nil))) (de_and (de_cmp od_leI (de_callB cd_len (by rfl) Fc.b_len bt_len (da_consB (de_var 0) da_nil)) (de_con Fc.c_LONG (by rfl)) (nomark _)) (de_one (de_callB (cd_all rfl) (by rfl) Fc.b_all bt_all (da_consB (DE.toB (de_lc (own := [("sign", 1)]) rfl sc_fits_telling.nd (di_any (de_var 0)) (blkOk_by (N := N_fits_telling) (sc := S_fits_telling.1) (by decide +kernel)) (fun _ _ _ _ _ => (dg_name 1 sc_fits_telling.nd)) (fun _ _ _ _ _ => dts_nil) (fun _ _ _ _ _ => (de_cmp (od_inA (u65 hr)) (de_var 1) (de_con Fc.c_SIGNS (by rfl)) (by rfl))) (by decide))) da_nil)))))))
theorem ok_need_telling : FnD P w K mg base "need_telling" 2 1 f_need_telling :=
  FnD.mk2 (k := 1) (N := N_need_telling) (ps := ["telling"]) (body := b_need_telling) Fc.t_need_telling S_need_telling.2 B_need_telling.2 sc_need_telling fun f cdv A outer s H E hr => (dss_one (ds_if (dt_not (dt_val (de_fn (ok_fits_telling Fc) (hr.mono (by omega)) (by rfl) (takes_of rfl rfl rfl rfl) (da_consP (de_var 0) da_nil)))) (dss_one (ds_raiseOwn Fc.e_InvalidTelling rfl (takes_of rfl rfl rfl rfl) (by rfl))) dss_nil))
theorem ok_stepped : FnD P w K mg base "stepped" 1 2 f_stepped :=
  FnD.mk2 (k := 0) (N := N_stepped) (ps := ["pose", "sign"]) (body := b_stepped) Fc.t_stepped S_stepped.2 B_stepped.2 sc_stepped fun f cdv A outer s H E hr => (dss_cons (ds_asg (de_var 0) (dg_tup rfl (dgs_cons (dg_name 2 sc_stepped.nd) (dgs_cons (dg_name 3 sc_stepped.nd) (dgs_cons (dg_name 4 sc_stepped.nd) dgs_nil)))))
    (dss_cons (ds_if (dt_cmp (od_eqD hr.units) (de_var 1) de_str (nomark _)) (dss_one (ds_ret (de_tup (da_consP (de_var 2) (da_consP (de_var 3) (da_consP (de_op od_modI (DE.toB (de_op od_addA (de_var 4) de_int)) de_int) da_nil)))))) dss_nil)
    (dss_cons (ds_if (dt_cmp (od_eqD hr.units) (de_var 1) de_str (nomark _)) (dss_one (ds_ret (de_tup (da_consP (de_var 2) (da_consP (de_var 3) (da_consP (de_op od_modI (DE.toB (de_op od_addA (de_var 4) de_int)) de_int) da_nil)))))) dss_nil)
    (dss_one (ds_ret (de_tup (da_consP (DE.fz (de_op od_addA (de_var 2) (de_ix ixd_seq (de_ix ixd_seq (de_con Fc.c_WAYS (by rfl)) (de_var 4) (fun _ _ => rfl)) de_int (fun _ _ => rfl)))) (da_consP (DE.fz (de_op od_addA (de_var 3) (de_ix ixd_seq (de_ix ixd_seq (de_con Fc.c_WAYS (by rfl)) (de_var 4) (fun _ _ => rfl)) de_int (fun _ _ => rfl)))) (da_consP (de_var 4) da_nil)))))))))
theorem ok_poses_of : FnD P w K mg base "poses_of" 2 1 f_poses_of :=
  FnD.mk2 (k := 1) (N := N_poses_of) (ps := ["telling"]) (body := b_poses_of) Fc.t_poses_of S_poses_of.2 B_poses_of.2 sc_poses_of fun f cdv A outer s H E hr => (dss_cons (ds_own 1 sc_poses_of.nd (de_lst (da_consP (de_con Fc.c_HOME (by rfl)) da_nil)))
    (dss_cons (ds_for (cl := [2]) (passes_of rfl) rfl (di_any (de_var 0)) (dg_name 2 sc_poses_of.nd) (dss_one (ds_append 1 (da_consP (de_fn (ok_stepped Fc) (hr.mono (by omega)) (by rfl) (takes_of rfl rfl rfl rfl) (da_consP (de_ix ixd_seq (de_varB 1) (de_neg de_int) (fun _ _ => rfl)) (da_consP (de_var 2) da_nil))) da_nil) (fun h => pe_bm PySem.F.plainAttrs_list PySem.F.slot_list_append PySem.F.type_list_append mt_append (pv 1) h))))
    (dss_fz 1 (dss_one (ds_ret (de_var 1))))))
theorem ok_turned : FnD P w K mg base "turned" 1 2 f_turned :=
  FnD.mk2 (k := 0) (N := N_turned) (ps := ["vector", "way"]) (body := b_turned) Fc.t_turned S_turned.2 B_turned.2 sc_turned fun f cdv A outer s H E hr => (dss_cons (ds_asg (de_var 0) (dg_tup rfl (dgs_cons (dg_name 2 sc_turned.nd) (dgs_cons (dg_name 3 sc_turned.nd) dgs_nil))))
    (dss_cons (ds_for (cl := [4]) (passes_of rfl) rfl (di_range1 (by rfl) Fc.b_range (da_consB (de_var 1) da_nil)) (dg_name 4 sc_turned.nd) (dss_one (ds_par 2 3 (by decide) (by decide) (de_var 3) (de_neg (de_var 2)) (fun a b => ps_par rfl sc_turned.nd rfl rfl (by decide) rfl rfl (pa_cons a (pa_cons b pa_nil)) rfl))))
    (dss_one (ds_ret (de_tup (da_consP (de_var 2) (da_consP (de_var 3) da_nil)))))))
theorem ok_then : FnD P w K mg base "then" 2 2 f_then :=
  FnD.mk2 (k := 1) (N := N_then) (ps := ["pose", "other"]) (body := b_then) Fc.t_then S_then.2 B_then.2 sc_then fun f cdv A outer s H E hr => (dss_cons (ds_asg (de_fn (ok_turned Fc) (hr.mono (by omega)) (by rfl) (takes_of rfl rfl rfl rfl) (da_consP (DE.fz (de_slice (de_var 1) do_none (do_some de_int))) (da_consP (de_ix ixd_seq (de_var 0) de_int (fun _ _ => rfl)) da_nil))) (dg_tup rfl (dgs_cons (dg_name 2 sc_then.nd) (dgs_cons (dg_name 3 sc_then.nd) dgs_nil))))
    (dss_one (ds_ret (de_tup (da_consP (DE.fz (de_op od_addA (de_ix ixd_seq (de_var 0) de_int (fun _ _ => rfl)) (de_var 2))) (da_consP (DE.fz (de_op od_addA (de_ix ixd_seq (de_var 0) de_int (fun _ _ => rfl)) (de_var 3))) (da_consP (de_op od_modI (DE.toB (de_op od_addA (de_ix ixd_seq (de_var 0) de_int (fun _ _ => rfl)) (de_ix ixd_seq (de_var 1) de_int (fun _ _ => rfl)))) de_int) da_nil)))))))
theorem ok_again : FnD P w K mg base "again" 3 2 f_again :=
  FnD.mk2 (k := 2) (N := N_again) (ps := ["pose", "many"]) (body := b_again) Fc.t_again S_again.2 B_again.2 sc_again fun f cdv A outer s H E hr => (dss_cons (ds_if (dt_cmp (od_eqD hr.units) (de_ix ixd_seq (de_var 0) de_int (fun _ _ => rfl)) de_int (nomark _)) (dss_one (ds_ret (de_tup (da_consP (DE.fz (de_op od_mulA (de_ix ixd_seq (de_var 0) de_int (fun _ _ => rfl)) (de_var 1))) (da_consP (DE.fz (de_op od_mulA (de_ix ixd_seq (de_var 0) de_int (fun _ _ => rfl)) (de_var 1))) (da_consP de_int da_nil)))))) dss_nil)
    (dss_cons (ds_set 2 sc_again.nd (de_con Fc.c_HOME (by rfl)))
    (dss_cons (ds_for (cl := [3]) (passes_of rfl) rfl (di_range1 (by rfl) Fc.b_range (da_consB (de_op od_modI (de_var 1) de_int) da_nil)) (dg_name 3 sc_again.nd) (dss_one (ds_set 2 sc_again.nd (de_fn (ok_then Fc) (hr.mono (by omega)) (by rfl) (takes_of rfl rfl rfl rfl) (da_consP (de_var 2) (da_consP (de_var 0) da_nil))))))
    (dss_one (ds_ret (de_var 2))))))
theorem ok_rounds_of : FnD P w K mg base "rounds_of" 4 1 f_rounds_of :=
  FnD.mk2 (k := 3) (N := N_rounds_of) (ps := ["telling"]) (body := b_rounds_of) Fc.t_rounds_of S_rounds_of.2 B_rounds_of.2 sc_rounds_of fun f cdv A outer s H E hr => (dss_cons (ds_expr (de_fn (ok_need_telling Fc) (hr.mono (by omega)) (by rfl) (takes_of rfl rfl rfl rfl) (da_consP (de_var 0) da_nil)))
    (dss_cons (ds_set 1 sc_rounds_of.nd (de_ix ixd_seq (de_fn (ok_poses_of Fc) (hr.mono (by omega)) (by rfl) (takes_of rfl rfl rfl rfl) (da_consP (de_var 0) da_nil)) (de_neg de_int) (fun _ _ => rfl)))
    (dss_cons (ds_setLc (ps_lc (i := 2) (own := [("many", 3)]) rfl sc_rounds_of.nd (di_any (de_tup (da_consP de_int (da_consP de_int (da_consP de_int da_nil))))) (blkOk_by (N := N_rounds_of) (sc := S_rounds_of.1) (by decide +kernel)) (fun _ _ _ _ _ => (dg_name 3 sc_rounds_of.nd)) (fun _ _ _ _ _ => (dts_one (dt_cmp (od_eqD hr.units) (de_fn (ok_again Fc) (hr.mono (by omega)) (by rfl) Dl.takes0 (da_consP (de_var 1) (da_consP (de_var 3) da_nil))) (de_con Fc.c_HOME (by rfl)) (nomark _)))) (fun _ _ _ _ _ => (de_var 3)) (by decide)))
    (dss_one (ds_ret (de_if (dt_cmp (od_neD hr.units) (de_var 2) (DE.toB (de_lst da_nil)) (nomark _)) (de_ix ixd_seq (de_var 2) de_int (fun _ _ => rfl)) de_non))))))
theorem ok_farthest : FnD P w K mg base "farthest" 4 1 f_farthest :=
  FnD.mk2 (k := 3) (N := N_farthest) (ps := ["telling"]) (body := b_farthest) Fc.t_farthest S_farthest.2 B_farthest.2 sc_farthest fun f cdv A outer s H E hr => (dss_cons (ds_expr (de_fn (ok_need_telling Fc) (hr.mono (by omega)) (by rfl) (takes_of rfl rfl rfl rfl) (da_consP (de_var 0) da_nil)))
    (dss_cons (ds_set 1 sc_farthest.nd (de_fn (ok_poses_of Fc) (hr.mono (by omega)) (by rfl) (takes_of rfl rfl rfl rfl) (da_consP (de_var 0) da_nil)))
    (dss_cons (ds_if (dt_cmp (od_neD hr.units) (de_fn (ok_again Fc) (hr.mono (by omega)) (by rfl) (takes_of rfl rfl rfl rfl) (da_consP (de_ix ixd_seq (de_var 1) (de_neg de_int) (fun _ _ => rfl)) (da_consP de_int da_nil))) (de_con Fc.c_HOME (by rfl)) (nomark _)) (dss_one (ds_ret de_non)) dss_nil)
    (dss_cons (ds_setLc (ps_lc2 (i := 2) (own := [("turn", 3), ("pose", 4)]) (vs1 := [4]) rfl sc_farthest.nd (di_range1 (by rfl) Fc.b_range (da_consB de_int da_nil)) (blkOk_by (N := N_farthest) (sc := S_farthest.1) (by decide +kernel)) (by decide) (fun _ _ _ _ _ => (dg_name 3 sc_farthest.nd)) (fun _ _ _ _ _ => dts_nil) (fun _ _ _ _ _ => (di_any (de_var 1))) (fun _ _ _ _ _ => (dg_name 4 sc_farthest.nd)) (fun _ _ _ _ _ => dts_nil) (fun _ _ _ _ _ => (de_fn (ok_then Fc) (hr.mono (by omega)) (by rfl) Dl.takes0 (da_consP (de_fn (ok_again Fc) (hr.mono (by omega)) (by rfl) Dl.takes0 (da_consP (de_ix ixd_seq (de_var 1) (de_neg de_int) (fun _ _ => rfl)) (da_consP (de_var 3) da_nil))) (da_consP (de_var 4) da_nil)))) (by decide) (by decide)))
    (dss_one (ds_ret (de_callB (cd_maxI rfl) (by rfl) Fc.b_max bt_max (da_consB (DE.toB (de_lc (own := [("east", 5), ("north", 6), ("way", 7)]) rfl sc_farthest.nd (di_any (de_var 2)) (blkOk_by (N := N_farthest) (sc := S_farthest.1) (by decide +kernel)) (fun _ _ _ _ _ => (dg_tup rfl (dgs_cons (dg_name 5 sc_farthest.nd) (dgs_cons (dg_name 6 sc_farthest.nd) (dgs_cons (dg_name 7 sc_farthest.nd) dgs_nil))))) (fun _ _ _ _ _ => dts_nil) (fun _ _ _ _ _ => (DE.fz (de_op od_addA (de_callB cd_abs (by rfl) Fc.b_abs bt_abs (da_consB (de_var 5) da_nil)) (de_callB cd_abs (by rfl) Fc.b_abs bt_abs (da_consB (de_var 6) da_nil))))) (by decide))) da_nil))))))))
theorem ok__law_some : FnD P w K mg base "_law_some" 2 2 f__law_some :=
  FnD.mk2 (k := 1) (N := N__law_some) (ps := ["cup", "things"]) (body := b__law_some) Fc.t__law_some S__law_some.2 B__law_some.2 sc__law_some fun f cdv A outer s H E hr => (dss_one (ds_ret (de_ix ixd_seq (de_var 1) (de_fn (ok__law_roll Fc) (hr.mono (by omega)) (by rfl) (takes_of rfl rfl rfl rfl) (da_consP (de_var 0) (da_consP (de_callB cd_len (by rfl) Fc.b_len bt_len (da_consB (de_var 1) da_nil)) da_nil))) (fun _ _ => rfl))))
theorem ok__law_telling : FnD P w K mg base "_law_telling" 3 2 f__law_telling :=
  FnD.mk2 (k := 2) (N := N__law_telling) (ps := ["cup", "most"]) (body := b__law_telling) Fc.t__law_telling S__law_telling.2 B__law_telling.2 sc__law_telling fun f cdv A outer s H E hr => (dss_cons (ds_set 2 sc__law_telling.nd de_str)
    (dss_cons (ds_for (cl := [3]) (passes_of rfl) rfl (di_range1 (by rfl) Fc.b_range (da_consB (de_fn (ok__law_roll Fc) (hr.mono (by omega)) (by rfl) (takes_of rfl rfl rfl rfl) (da_consP (de_var 0) (da_consP (DE.fz (de_op od_addA (de_var 1) de_int)) da_nil))) da_nil)) (dg_name 3 sc__law_telling.nd) (dss_one (ds_set 2 sc__law_telling.nd (DE.fz (de_op od_addA (de_var 2) (de_fn (ok__law_some Fc) (hr.mono (by omega)) (by rfl) (takes_of rfl rfl rfl rfl) (da_consP (de_var 0) (da_consP (DE.fz (de_lst (da_consP de_str (da_consP de_str (da_consP de_str (da_consP de_str da_nil)))))) da_nil))))))))
    (dss_one (ds_ret (de_var 2)))))
theorem ok__law_poses : FnD P w K mg base "_law_poses" 1 1 f__law_poses :=
  FnD.mk2 (k := 0) (N := N__law_poses) (ps := ["telling"]) (body := b__law_poses) Fc.t__law_poses S__law_poses.2 B__law_poses.2 sc__law_poses fun f cdv A outer s H E hr => (dss_cons (ds_tup4 1 2 3 4 de_int de_int de_int (de_lst (da_consP (de_tup (da_consP de_int (da_consP de_int (da_consP de_int da_nil)))) da_nil)) (hP := fun a b c d => ps_asg (pe_tup (pa_cons a (pa_cons b (pa_cons c (pa_cons d pa_nil))))) (pg_tup rfl (pgs_cons (pg_name (i := 1) sc__law_poses.nd rfl (by first | exact .inl rfl | exact .inr rfl)) (pgs_cons (pg_name (i := 2) sc__law_poses.nd rfl (by first | exact .inl rfl | exact .inr rfl)) (pgs_cons (pg_name (i := 3) sc__law_poses.nd rfl (by first | exact .inl rfl | exact .inr rfl)) (pgs_cons (pg_name (i := 4) sc__law_poses.nd rfl (by first | exact .inl rfl | exact .inr rfl)) pgs_nil)))))))
    (dss_cons (ds_for (cl := [5]) (passes_of rfl) rfl (di_any (de_var 0)) (dg_name 5 sc__law_poses.nd) (dss_cons (ds_if (dt_cmp (od_eqD hr.units) (de_var 5) de_str (nomark _)) (dss_one (ds_par 1 2 (by decide) (by decide) (DE.fz (de_op od_addA (de_var 1) (de_ix ixd_seq (DE.toB (de_lst (da_consP de_int (da_consP de_int (da_consP de_int (da_consP (de_neg de_int) da_nil)))))) (de_var 3) (fun _ _ => rfl)))) (DE.fz (de_op od_addA (de_var 2) (de_ix ixd_seq (DE.toB (de_lst (da_consP de_int (da_consP de_int (da_consP (de_neg de_int) (da_consP de_int da_nil)))))) (de_var 3) (fun _ _ => rfl)))) (fun a b => ps_par rfl sc__law_poses.nd rfl rfl (by decide) rfl rfl (pa_cons a (pa_cons b pa_nil)) rfl))) dss_nil)
    (dss_cons (ds_set 3 sc__law_poses.nd (de_op od_modI (de_callTy cd_int (by rfl) Fc.b_int bt_int (da_consB (DE.toB (de_op od_addA (de_var 3) (de_if (dt_cmp (od_eqD hr.units) (de_var 5) de_str (nomark _)) de_int (de_if (dt_cmp (od_eqD hr.units) (de_var 5) de_str (nomark _)) de_int de_int)))) da_nil)) de_int))
    (dss_one (ds_append 4 (da_consP (de_tup (da_consP (de_var 1) (da_consP (de_var 2) (da_consP (de_var 3) da_nil)))) da_nil) (fun h => pe_bm PySem.F.plainAttrs_list PySem.F.slot_list_append PySem.F.type_list_append mt_append (pv 4) h))))))
    (dss_fz 4 (dss_one (ds_ret (de_var 4))))))
theorem ok_pose_of : FnD P w K mg base "pose_of" 3 1 f_pose_of :=
  FnD.mk2 (k := 2) (N := N_pose_of) (ps := ["telling"]) (body := b_pose_of) Fc.t_pose_of S_pose_of.2 B_pose_of.2 sc_pose_of fun f cdv A outer s H E hr => (dss_cons (ds_expr (de_fn (ok_need_telling Fc) (hr.mono (by omega)) (by rfl) (takes_of rfl rfl rfl rfl) (da_consP (de_var 0) da_nil)))
    (dss_one (ds_ret (de_ix ixd_seq (de_fn (ok_poses_of Fc) (hr.mono (by omega)) (by rfl) (takes_of rfl rfl rfl rfl) (da_consP (de_var 0) da_nil)) (de_neg de_int) (fun _ _ => rfl)))))
theorem ok_is_whole : FnD P w K mg base "is_whole" 1 3 f_is_whole :=
  FnD.mk2 (k := 0) (N := N_is_whole) (ps := ["value", "low", "high"]) (body := b_is_whole) Fc.t_is_whole S_is_whole.2 B_is_whole.2 sc_is_whole fun f cdv A outer s H E hr => (dss_one (ds_ret (de_and (de_callB cd_isi (by rfl) Fc.b_isinstance bt_isinstance (da_consB (de_var 0) (da_consB (de_ty (by rfl) Fc.b_int bt_int) da_nil))) (de_and (de_not (de_callB cd_isi (by rfl) Fc.b_isinstance bt_isinstance (da_consB (de_var 0) (da_consB (de_ty (by rfl) Fc.b_bool bt_bool) da_nil)))) (de_one (de_chain od_leI od_leI (de_var 1) (de_var 0) (de_var 2)))))))
theorem ok_pose_behind : FnD P w K mg base "pose_behind" 4 2 f_pose_behind :=
  FnD.mk2 (k := 3) (N := N_pose_behind) (ps := ["telling", "many"]) (body := b_pose_behind) Fc.t_pose_behind S_pose_behind.2 B_pose_behind.2 sc_pose_behind fun f cdv A outer s H E hr => (dss_cons (ds_expr (de_fn (ok_need_telling Fc) (hr.mono (by omega)) (by rfl) (takes_of rfl rfl rfl rfl) (da_consP (de_var 0) da_nil)))
    (dss_cons (ds_if (dt_not (dt_val (de_fn (ok_is_whole Fc) (hr.mono (by omega)) (by rfl) (takes_of rfl rfl rfl rfl) (da_consP (de_var 1) (da_consP de_int (da_consP (de_con Fc.c_TIMES (by rfl)) da_nil)))))) (dss_one (ds_raiseOwn Fc.e_InvalidNumber rfl (takes_of rfl rfl rfl rfl) (by rfl))) dss_nil)
    (dss_one (ds_ret (de_fn (ok_again Fc) (hr.mono (by omega)) (by rfl) (takes_of rfl rfl rfl rfl) (da_consP (de_ix ixd_seq (de_fn (ok_poses_of Fc) (hr.mono (by omega)) (by rfl) (takes_of rfl rfl rfl rfl) (da_consP (de_var 0) da_nil)) (de_neg de_int) (fun _ _ => rfl)) (da_consP (de_var 1) da_nil)))))))
theorem ok_is_tuple_of : FnD P w K mg base "is_tuple_of" 1 3 f_is_tuple_of :=
  FnD.mk2 (k := 0) (N := N_is_tuple_of) (ps := ["value", "low", "high"]) (body := b_is_tuple_of) Fc.t_is_tuple_of S_is_tuple_of.2 B_is_tuple_of.2 sc_is_tuple_of fun f cdv A outer s H E hr => (dss_one (ds_ret (de_and (de_callB cd_isi (by rfl) Fc.b_isinstance bt_isinstance (da_consB (de_var 0) (da_consB (de_ty (by rfl) Fc.b_tuple bt_tuple) da_nil))) (de_one (de_chain od_leI od_leI (de_var 1) (de_callB cd_len (by rfl) Fc.b_len bt_len (da_consB (de_var 0) da_nil)) (de_var 2))))))
theorem ok_fits_pose : FnD P w K mg base "fits_pose" 2 1 f_fits_pose :=
  FnD.mk2 (k := 1) (N := N_fits_pose) (ps := ["value"]) (body := b_fits_pose) Fc.t_fits_pose S_fits_pose.2 B_fits_pose.2 sc_fits_pose fun f cdv A outer s H E hr => (dss_cons (ds_if (DW.dt (dw_or (dt_not (dt_val (de_fn (ok_is_tuple_of Fc) (hr.mono (by omega)) (by rfl) (takes_of rfl rfl rfl rfl) (da_consP (de_var 0) (da_consP de_int (da_consP de_int da_nil)))))) (dw_or1 (dt_not (dt_val (de_callB (cd_all rfl) (by rfl) Fc.b_all bt_all (da_consB (DE.toB (de_lc (own := [("one", 1)]) rfl sc_fits_pose.nd (di_any (DE.fz (de_slice (de_var 0) do_none (do_some de_int)))) (blkOk_by (N := N_fits_pose) (sc := S_fits_pose.1) (by decide +kernel)) (fun _ _ _ _ _ => (dg_name 1 sc_fits_pose.nd)) (fun _ _ _ _ _ => dts_nil) (fun _ _ _ _ _ => (de_fn (ok_is_whole Fc) (hr.mono (by omega)) (by rfl) Dl.takes0 (da_consP (de_var 1) (da_consP (de_neg (de_con Fc.c_FAR (by rfl))) (da_consP (de_con Fc.c_FAR (by rfl)) da_nil))))) (by decide))) da_nil))))))) (dss_one (ds_ret de_bl)) dss_nil)
    (dss_one (ds_ret (de_fn (ok_is_whole Fc) (hr.mono (by omega)) (by rfl) (takes_of rfl rfl rfl rfl) (da_consP (de_ix ixd_seq (de_var 0) de_int (fun _ _ => rfl)) (da_consP de_int (da_consP de_int da_nil)))))))
theorem ok_need_pose : FnD P w K mg base "need_pose" 3 1 f_need_pose :=
  FnD.mk2 (k := 2) (N := N_need_pose) (ps := ["pose"]) (body := b_need_pose) Fc.t_need_pose S_need_pose.2 B_need_pose.2 sc_need_pose fun f cdv A outer s H E hr => (dss_one (ds_if (dt_not (dt_val (de_fn (ok_fits_pose Fc) (hr.mono (by omega)) (by rfl) (takes_of rfl rfl rfl rfl) (da_consP (de_var 0) da_nil)))) (dss_one (ds_raiseOwn Fc.e_InvalidTelling rfl (takes_of rfl rfl rfl rfl) (by rfl))) dss_nil))
theorem ok_joined : FnD P w K mg base "joined" 4 2 f_joined :=
  FnD.mk2 (k := 3) (N := N_joined) (ps := ["pose", "other"]) (body := b_joined) Fc.t_joined S_joined.2 B_joined.2 sc_joined fun f cdv A outer s H E hr => (dss_cons (ds_expr (de_fn (ok_need_pose Fc) (hr.mono (by omega)) (by rfl) (takes_of rfl rfl rfl rfl) (da_consP (de_var 0) da_nil)))
    (dss_cons (ds_expr (de_fn (ok_need_pose Fc) (hr.mono (by omega)) (by rfl) (takes_of rfl rfl rfl rfl) (da_consP (de_var 1) da_nil)))
    (dss_one (ds_ret (de_fn (ok_then Fc) (hr.mono (by omega)) (by rfl) (takes_of rfl rfl rfl rfl) (da_consP (de_var 0) (da_consP (de_var 1) da_nil)))))))
theorem ok__law_right : FnD P w K mg base "_law_right" 10 1 f__law_right :=
  FnD.mk2 (k := 9) (N := N__law_right) (ps := ["cup"]) (body := b__law_right) Fc.t__law_right S__law_right.2 B__law_right.2 sc__law_right fun f cdv A outer s H E hr => (dss_cons (ds_set 1 sc__law_right.nd (de_fn (ok__law_telling Fc) (hr.mono (by omega)) (by rfl) (takes_of rfl rfl rfl rfl) (da_consP (de_var 0) (da_consP de_int da_nil))))
    (dss_cons (ds_set 2 sc__law_right.nd (de_fn (ok__law_poses Fc) (hr.mono (by omega)) (by rfl) (takes_of rfl rfl rfl rfl) (da_consP (DE.fz (de_op od_mulA (de_var 1) de_int)) da_nil)))
    (dss_cons (ds_set 3 sc__law_right.nd (de_callB cd_len (by rfl) Fc.b_len bt_len (da_consB (de_var 1) da_nil)))
    (dss_cons (ds_for (cl := [4]) (passes_of rfl) rfl (di_range1 (by rfl) Fc.b_range (da_consB de_int da_nil)) (dg_name 4 sc__law_right.nd) (dss_one (ds_if (dt_not (dt_val (de_fn (ok__law_same Fc 8) (hr.mono (by omega)) (by rfl) (takes_of rfl rfl rfl rfl) (da_consP (de_fn (ok_pose_behind Fc) (hr.mono (by omega)) (by rfl) (takes_of rfl rfl rfl rfl) (da_consP (de_var 1) (da_consP (de_var 4) da_nil))) (da_consP (de_ix ixd_seq (de_var 2) (DE.toB (de_op od_mulA (de_var 4) (de_var 3))) (fun _ _ => rfl)) da_nil))))) (dss_one (ds_ret de_bl)) dss_nil)))
    (dss_cons (ds_setLc (ps_lc (i := 5) (own := [("many", 4)]) rfl sc__law_right.nd (di_range2 (by rfl) Fc.b_range (da_consB de_int (da_consB de_int da_nil))) (blkOk_by (N := N__law_right) (sc := S__law_right.1) (by decide +kernel)) (fun _ _ _ _ _ => (dg_name 4 sc__law_right.nd)) (fun _ _ _ _ _ => (dts_one (dt_cmp (od_eqD hr.units) (de_ix ixd_seq (de_var 2) (DE.toB (de_op od_mulA (de_var 4) (de_var 3))) (fun _ _ => rfl)) (de_tup (da_consP de_int (da_consP de_int (da_consP de_int da_nil)))) (nomark _)))) (fun _ _ _ _ _ => (de_var 4)) (by decide)))
    (dss_cons (ds_set 6 sc__law_right.nd (de_callB (cd_maxI rfl) (by rfl) Fc.b_max bt_max (da_consB (DE.toB (de_lc (own := [("east", 9), ("north", 10), ("way", 11)]) rfl sc__law_right.nd (di_any (de_var 2)) (blkOk_by (N := N__law_right) (sc := S__law_right.1) (by decide +kernel)) (fun _ _ _ _ _ => (dg_tup rfl (dgs_cons (dg_name 9 sc__law_right.nd) (dgs_cons (dg_name 10 sc__law_right.nd) (dgs_cons (dg_name 11 sc__law_right.nd) dgs_nil))))) (fun _ _ _ _ _ => dts_nil) (fun _ _ _ _ _ => (DE.fz (de_op od_addA (de_callB cd_abs (by rfl) Fc.b_abs bt_abs (da_consB (de_var 9) da_nil)) (de_callB cd_abs (by rfl) Fc.b_abs bt_abs (da_consB (de_var 10) da_nil))))) (by decide))) da_nil)))
    (dss_cons (ds_set 7 sc__law_right.nd (de_callB (cd_maxI rfl) (by rfl) Fc.b_max bt_max (da_consB (DE.toB (de_lc (own := [("east", 9), ("north", 10), ("way", 11)]) rfl sc__law_right.nd (di_any (DE.fz (de_slice (de_var 2) do_none (do_some (DE.toB (de_op od_addA (DE.toB (de_op od_mulA de_int (de_var 3))) de_int)))))) (blkOk_by (N := N__law_right) (sc := S__law_right.1) (by decide +kernel)) (fun _ _ _ _ _ => (dg_tup rfl (dgs_cons (dg_name 9 sc__law_right.nd) (dgs_cons (dg_name 10 sc__law_right.nd) (dgs_cons (dg_name 11 sc__law_right.nd) dgs_nil))))) (fun _ _ _ _ _ => dts_nil) (fun _ _ _ _ _ => (DE.fz (de_op od_addA (de_callB cd_abs (by rfl) Fc.b_abs bt_abs (da_consB (de_var 9) da_nil)) (de_callB cd_abs (by rfl) Fc.b_abs bt_abs (da_consB (de_var 10) da_nil))))) (by decide))) da_nil)))
    (dss_cons (ds_if (dt_not (dt_val (de_fn (ok__law_same Fc 8) (hr.mono (by omega)) (by rfl) (takes_of rfl rfl rfl rfl) (da_consP (de_tup (da_consP (de_fn (ok_rounds_of Fc) (hr.mono (by omega)) (by rfl) (takes_of rfl rfl rfl rfl) (da_consP (de_var 1) da_nil)) (da_consP (de_fn (ok_farthest Fc) (hr.mono (by omega)) (by rfl) (takes_of rfl rfl rfl rfl) (da_consP (de_var 1) da_nil)) da_nil))) (da_consP (de_tup (da_consP (de_if (dt_cmp (od_neD hr.units) (de_var 5) (DE.toB (de_lst da_nil)) (nomark _)) (de_ix ixd_seq (de_var 5) de_int (fun _ _ => rfl)) de_non) (da_consP (de_if (dt_cmp (od_neD hr.units) (de_var 5) (DE.toB (de_lst da_nil)) (nomark _)) (de_var 7) de_non) da_nil))) da_nil))))) (dss_one (ds_ret de_bl)) dss_nil)
    (dss_cons (ds_if (DW.dt (dw_or (DW.dt (dw_and (dt_cmp (od_neD hr.units) (de_var 5) (DE.toB (de_lst da_nil)) (nomark _)) (dw_and1 (DW.dt (dw_or (dt_cmp (od_neD hr.units) (de_var 6) (de_var 7) (nomark _)) (dw_or1 (dt_cmp (od_notInA (u65 hr)) (de_ix ixd_seq (de_var 5) de_int (fun _ _ => rfl)) (de_tup (da_consP de_int (da_consP de_int (da_consP de_int da_nil)))) (by rfl)))))))) (dw_or1 (DW.dt (dw_and (dt_cmp (od_eqD hr.units) (de_var 5) (DE.toB (de_lst da_nil)) (nomark _)) (dw_and1 (dt_cmp od_leI (de_var 6) (de_var 7) (nomark _)))))))) (dss_one (ds_ret de_bl)) dss_nil)
    (dss_cons (ds_par 4 8 (by decide) (by decide) (de_fn (ok__law_roll Fc) (hr.mono (by omega)) (by rfl) (takes_of rfl rfl rfl rfl) (da_consP (de_var 0) (da_consP (de_op od_powI de_int de_int) da_nil))) (de_fn (ok__law_roll Fc) (hr.mono (by omega)) (by rfl) (takes_of rfl rfl rfl rfl) (da_consP (de_var 0) (da_consP de_int da_nil))) (fun a b => ps_par rfl sc__law_right.nd rfl rfl (by decide) rfl rfl (pa_cons a (pa_cons b pa_nil)) rfl))
    (dss_cons (ds_asg (de_fn (ok_pose_of Fc) (hr.mono (by omega)) (by rfl) (takes_of rfl rfl rfl rfl) (da_consP (de_var 1) da_nil)) (dg_tup rfl (dgs_cons (dg_name 9 sc__law_right.nd) (dgs_cons (dg_name 10 sc__law_right.nd) (dgs_cons (dg_name 11 sc__law_right.nd) dgs_nil)))))
    (dss_cons (ds_set 12 sc__law_right.nd (de_if (dt_cmp (od_neD hr.units) (de_var 5) (DE.toB (de_lst da_nil)) (nomark _)) (de_ix ixd_seq (de_var 2) (DE.toB (de_op od_mulA (de_op od_modI (de_callTy cd_int (by rfl) Fc.b_int bt_int (da_consB (de_var 4) da_nil)) (de_ix ixd_seq (de_var 5) de_int (fun _ _ => rfl))) (de_var 3))) (fun _ _ => rfl)) (de_tup (da_consP (DE.fz (de_op od_mulA (de_var 9) (de_var 4))) (da_consP (DE.fz (de_op od_mulA (de_var 10) (de_var 4))) (da_consP de_int da_nil))))))
    (dss_cons (ds_if (DW.dt (dw_or (dt_not (dt_val (de_fn (ok__law_same Fc 8) (hr.mono (by omega)) (by rfl) (takes_of rfl rfl rfl rfl) (da_consP (de_fn (ok_pose_behind Fc) (hr.mono (by omega)) (by rfl) (takes_of rfl rfl rfl rfl) (da_consP (de_var 1) (da_consP (de_var 4) da_nil))) (da_consP (de_var 12) da_nil))))) (dw_or1 (DW.dt (dw_and (dt_cmp (od_eqD hr.units) (de_var 5) (DE.toB (de_lst da_nil)) (nomark _)) (dw_and1 (dt_cmp (od_neD hr.units) (de_var 11) de_int (nomark _)))))))) (dss_one (ds_ret de_bl)) dss_nil)
    (dss_cons (ds_if (DW.dt (dw_and (dt_cmp (od_neD hr.units) (de_var 5) (DE.toB (de_lst da_nil)) (nomark _)) (dw_and1 (dt_cmp (od_neD hr.units) (de_fn (ok_pose_behind Fc) (hr.mono (by omega)) (by rfl) (takes_of rfl rfl rfl rfl) (da_consP (de_var 1) (da_consP (de_var 4) da_nil))) (de_fn (ok_joined Fc) (hr.mono (by omega)) (by rfl) (takes_of rfl rfl rfl rfl) (da_consP (de_fn (ok_pose_behind Fc) (hr.mono (by omega)) (by rfl) (takes_of rfl rfl rfl rfl) (da_consP (de_var 1) (da_consP (de_op od_modI (de_callTy cd_int (by rfl) Fc.b_int bt_int (da_consB (de_var 4) da_nil)) de_int) da_nil))) (da_consP (de_tup (da_consP de_int (da_consP de_int (da_consP de_int da_nil)))) da_nil))) (nomark _))))) (dss_one (ds_ret de_bl)) dss_nil)
    (dss_one (ds_ret (de_and (de_cmp (od_eqD hr.units) (de_fn (ok_pose_behind Fc) (hr.mono (by omega)) (by rfl) (takes_of rfl rfl rfl rfl) (da_consP (DE.fz (de_op od_addA (de_var 1) (de_var 1))) (da_consP (de_var 8) da_nil))) (de_fn (ok_pose_behind Fc) (hr.mono (by omega)) (by rfl) (takes_of rfl rfl rfl rfl) (da_consP (de_var 1) (da_consP (DE.fz (de_op od_mulA de_int (de_var 8))) da_nil))) (nomark _)) (de_one (de_cmp (od_eqD hr.units) (de_fn (ok_pose_behind Fc) (hr.mono (by omega)) (by rfl) (takes_of rfl rfl rfl rfl) (da_consP (de_var 1) (da_consP de_int da_nil))) (de_tup (da_consP de_int (da_consP de_int (da_consP de_int da_nil)))) (nomark _))))))))))))))))))))
theorem ok_law {f : Addr} {fd : FuncData} {n : Nat} (F : Fun K "law" "law" (topS 36) f fd) (hl : ∀ ns : List Int, ns.length ≤ n → ∃ S', f_law [.scr ns] [] = .ok (.bl true) S') : FnOk P w K mg base (L2.CX P w) 11 f fd ["script"] (spLaw K n) :=
  law_ok (k := 10) (N := N_law) (ps := ["script"]) (body := b_law) F S_law.2 B_law.2 sc_law rfl (fun cdv A outer s H E hr => (dss_cons (ds_set 1 sc_law.nd (de_fn (ok__law_cup Fc) (hr.mono (by omega)) (by rfl) (takes_of rfl rfl rfl rfl) (da_consP (de_var 0) da_nil)))
    (dss_cons (ds_for (cl := [2]) (passes_of rfl) rfl (di_range1 (by rfl) Fc.b_range (da_consB de_int da_nil)) (dg_name 2 sc_law.nd) (dss_one (ds_if (dt_not (dt_val (de_fn (ok__law_right Fc) (hr.mono (by omega)) (by rfl) (takes_of rfl rfl rfl rfl) (da_consP (de_var 1) da_nil)))) (dss_one (ds_ret de_bl)) dss_nil)))
    (dss_cons (ds_par 3 4 (by decide) (by decide) (DE.fz (de_op od_addA de_int (de_fn (ok__law_roll Fc) (hr.mono (by omega)) (by rfl) (takes_of rfl rfl rfl rfl) (da_consP (de_var 1) (da_consP de_int da_nil))))) (de_fn (ok__law_roll Fc) (hr.mono (by omega)) (by rfl) (takes_of rfl rfl rfl rfl) (da_consP (de_var 1) (da_consP (DE.fz (de_op od_addA (de_op od_powI de_int de_int) de_int)) da_nil))) (fun a b => ps_par rfl sc_law.nd rfl rfl (by decide) rfl rfl (pa_cons a (pa_cons b pa_nil)) rfl))
    (dss_cons (ds_set 5 sc_law.nd (DE.fz (de_op od_mulA de_str (de_var 3))))
    (dss_cons (ds_set 6 sc_law.nd (de_tup (da_consP (de_fn (ok_rounds_of Fc) (hr.mono (by omega)) (by rfl) (takes_of rfl rfl rfl rfl) (da_consP (DE.fz (de_op od_addA (de_var 5) de_str)) da_nil)) (da_consP (de_fn (ok_farthest Fc) (hr.mono (by omega)) (by rfl) (takes_of rfl rfl rfl rfl) (da_consP (DE.fz (de_op od_addA (de_var 5) de_str)) da_nil)) (da_consP (de_fn (ok_rounds_of Fc) (hr.mono (by omega)) (by rfl) (takes_of rfl rfl rfl rfl) (da_consP (DE.fz (de_op od_addA (de_var 5) de_str)) da_nil)) (da_consP (de_fn (ok_farthest Fc) (hr.mono (by omega)) (by rfl) (takes_of rfl rfl rfl rfl) (da_consP (DE.fz (de_op od_addA (de_var 5) de_str)) da_nil)) (da_consP (de_fn (ok_rounds_of Fc) (hr.mono (by omega)) (by rfl) (takes_of rfl rfl rfl rfl) (da_consP (DE.fz (de_op od_addA (de_var 5) de_str)) da_nil)) da_nil)))))))
    (dss_cons (ds_if (dt_not (dt_val (de_fn (ok__law_same Fc 8) (hr.mono (by omega)) (by rfl) (takes_of rfl rfl rfl rfl) (da_consP (de_var 6) (da_consP (de_tup (da_consP de_int (da_consP (DE.fz (de_op od_mulA de_int (de_var 3))) (da_consP de_int (da_consP (de_var 3) (da_consP de_non da_nil)))))) da_nil))))) (dss_one (ds_ret de_bl)) dss_nil)
    (dss_one (ds_ret (de_fn (ok__law_same Fc 8) (hr.mono (by omega)) (by rfl) (takes_of rfl rfl rfl rfl) (da_consP (de_tup (da_consP (de_fn (ok_farthest Fc) (hr.mono (by omega)) (by rfl) (takes_of rfl rfl rfl rfl) (da_consP (de_var 5) da_nil)) (da_consP (de_fn (ok_pose_behind Fc) (hr.mono (by omega)) (by rfl) (takes_of rfl rfl rfl rfl) (da_consP (de_var 5) (da_consP (de_var 4) da_nil))) (da_consP (de_fn (ok_rounds_of Fc) (hr.mono (by omega)) (by rfl) (takes_of rfl rfl rfl rfl) (da_consP de_str da_nil)) (da_consP (de_fn (ok_farthest Fc) (hr.mono (by omega)) (by rfl) (takes_of rfl rfl rfl rfl) (da_consP de_str da_nil)) da_nil))))) (da_consP (de_tup (da_consP de_non (da_consP (de_tup (da_consP de_int (da_consP (DE.fz (de_op od_mulA (de_var 3) (de_var 4))) (da_consP de_int da_nil)))) (da_consP de_int (da_consP de_int da_nil))))) da_nil)))))))))))) hl
end
end G48

set_option Elab.async false
set_option linter.all false
set_option maxRecDepth 100000
set_option autoImplicit false
namespace G48
open PySem PySem.Spec L2 Dl
open PyProof.Rows hiding St
/-! ### signs and poses -/
inductive Sg | f | l | r
  deriving DecidableEq
def Sg.code : Sg → Nat | .f => 102 | .l => 108 | .r => 114
def sgD (s : Sg) : D := .str ⟨#[s.code]⟩
def txt (l : List Sg) : Str := ⟨(l.map Sg.code).toArray⟩
structure P3 where
  e : Int
  n : Int
  w : Int
def pD (p : P3) : D := .tup [.int p.e, .int p.n, .int p.w]
def P3.ok (p : P3) : Prop := p.w = 0 ∨ p.w = 1 ∨ p.w = 2 ∨ p.w = 3
def rotE (w x y : Int) : Int := if w = 0 then x else if w = 1 then y else if w = 2 then -x else -y
def rotN (w x y : Int) : Int := if w = 0 then y else if w = 1 then -x else if w = 2 then -y else x
def comp (p q : P3) : P3 := ⟨p.e + rotE p.w q.e q.n, p.n + rotN p.w q.e q.n, (p.w + q.w) % 4⟩
def unit : Sg → P3 | .f => ⟨0, 1, 0⟩ | .l => ⟨0, 0, 3⟩ | .r => ⟨0, 0, 1⟩
def step (p : P3) (s : Sg) : P3 := comp p (unit s)
def home : P3 := ⟨0, 0, 0⟩
theorem P3.ext' {p q : P3} (h1 : p.e = q.e) (h2 : p.n = q.n) (h3 : p.w = q.w) : p = q := by cases p; cases q; simp_all
theorem home_ok : home.ok := .inl rfl
theorem unit_ok (s : Sg) : (unit s).ok := by cases s <;> simp [unit, P3.ok]
theorem comp_ok {p q : P3} (hp : p.ok) (hq : q.ok) : (comp p q).ok := by
  unfold P3.ok comp at *
  dsimp only
  omega
theorem step_ok {p : P3} (h : p.ok) (s : Sg) : (step p s).ok := comp_ok h (unit_ok s)
theorem comp_home {p : P3} (h : p.ok) : comp p home = p := by
  obtain ⟨e, n, w⟩ := p
  rcases h with h | h | h | h <;> (dsimp only at h; subst h; simp [comp, home, rotE, rotN])
theorem home_comp {p : P3} (h : p.ok) : comp home p = p := by
  obtain ⟨e, n, w⟩ := p
  rcases h with h | h | h | h <;> (dsimp only at h; subst h; simp [comp, home, rotE, rotN])
theorem comp_assoc {p q r : P3} (hp : p.ok) (hq : q.ok) (hr : r.ok) : comp (comp p q) r = comp p (comp q r) := by
  obtain ⟨e, n, w⟩ := p
  obtain ⟨e', n', w'⟩ := q
  obtain ⟨e'', n'', w''⟩ := r
  rcases hp with h | h | h | h <;> rcases hq with h' | h' | h' | h' <;> (dsimp only at h h'; subst h; subst h'; apply P3.ext' <;> simp [comp, rotE, rotN] <;> omega)
/-! ### walks -/
def walk (p : P3) (l : List Sg) : P3 := l.foldl step p
def scan (p : P3) : List Sg → List P3
  | [] => [p]
  | s :: l => p :: scan (step p s) l
theorem walk_ok : ∀ {l : List Sg} {p : P3}, p.ok → (walk p l).ok
  | [], p, h => h
  | s :: l, p, h => walk_ok (l := l) (step_ok h s)
theorem walk_append (p : P3) (l m : List Sg) : walk p (l ++ m) = walk (walk p l) m := List.foldl_append
theorem walk_comp : ∀ (l : List Sg) {p : P3}, p.ok → walk p l = comp p (walk home l)
  | [], p, h => (comp_home h).symm
  | s :: l, p, h => by
    show walk (step p s) l = comp p (walk (step home s) l)
    rw [walk_comp l (step_ok h s), walk_comp l (step_ok home_ok s), ← comp_assoc h (step_ok home_ok s) (walk_ok home_ok)]
    congr 1
    unfold step
    rw [home_comp (unit_ok s)]
theorem scan_len : ∀ (l : List Sg) (p : P3), (scan p l).length = l.length + 1
  | [], p => rfl
  | s :: l, p => by simp [scan, scan_len l]
theorem scan_get : ∀ (l : List Sg) (p : P3) (i : Nat), i ≤ l.length → (scan p l)[i]? = some (walk p (l.take i))
  | [], p, i, h => by
    have : i = 0 := by simpa using h
    subst this; rfl
  | s :: l, p, 0, h => rfl
  | s :: l, p, i + 1, h => by
    show (scan (step p s) l)[i]? = some (walk (step p s) (l.take i))
    exact scan_get l (step p s) i (by simpa using h)
theorem scan_mem {l : List Sg} {p q : P3} : q ∈ scan p l ↔ ∃ i, i ≤ l.length ∧ q = walk p (l.take i) := by
  constructor
  · intro h
    obtain ⟨i, hi, e⟩ := List.getElem_of_mem h
    rw [scan_len] at hi
    have := scan_get l p i (by omega)
    rw [List.getElem?_eq_getElem (by rw [scan_len]; omega), e] at this
    exact ⟨i, by omega, Option.some.inj this⟩
  · rintro ⟨i, hi, rfl⟩
    exact List.mem_of_getElem? (scan_get l p i hi)
theorem scan_ok {l : List Sg} {p q : P3} (hp : p.ok) (h : q ∈ scan p l) : q.ok := by
  obtain ⟨i, _, rfl⟩ := scan_mem.mp h
  exact walk_ok hp
/-! ### the same walk again and again -/
def pw (p : P3) : Nat → P3
  | 0 => home
  | n + 1 => comp (pw p n) p
theorem pw_ok {p : P3} (h : p.ok) : ∀ n, (pw p n).ok
  | 0 => home_ok
  | n + 1 => comp_ok (pw_ok h n) h
theorem pw_one {p : P3} (h : p.ok) : pw p 1 = p := home_comp h
theorem pw_add {p : P3} (h : p.ok) (m : Nat) : ∀ n, pw p (m + n) = comp (pw p m) (pw p n)
  | 0 => (comp_home (pw_ok h m)).symm
  | n + 1 => by
    show comp (pw p (m + n)) p = comp (pw p m) (comp (pw p n) p)
    rw [pw_add h m n, comp_assoc (pw_ok h m) (pw_ok h n) h]
theorem pw_mul {p : P3} (h : p.ok) (m : Nat) : ∀ n, pw (pw p m) n = pw p (m * n)
  | 0 => rfl
  | n + 1 => by
    show comp (pw (pw p m) n) (pw p m) = pw p (m * n + m)
    rw [pw_mul h m n, pw_add h]
theorem pw_home : ∀ n, pw home n = home
  | 0 => rfl
  | n + 1 => by show comp (pw home n) home = home; rw [pw_home n]; exact comp_home home_ok
theorem pw_w0 {p : P3} (h : p.w = 0) : ∀ n : Nat, pw p n = ⟨p.e * n, p.n * n, 0⟩
  | 0 => by simp [pw, home]
  | n + 1 => by
    show comp (pw p n) p = _
    rw [pw_w0 h n]
    apply P3.ext'
    · simp [comp, rotE, Int.mul_add]
    · simp [comp, rotN, Int.mul_add]
    · simp [comp, h]
theorem pw_four {p : P3} (h : p.ok) (h0 : p.w ≠ 0) : pw p 4 = home := by
  obtain ⟨e, n, w⟩ := p
  rcases h with h | h | h | h <;> (dsimp only at h h0; subst h)
  · exact absurd rfl h0
  all_goals (apply P3.ext' <;> simp [pw, comp, home, rotE, rotN] <;> omega)
theorem pw_per {p : P3} (h : p.ok) {k : Nat} (hk : pw p k = home) (n : Nat) : pw p n = pw p (n % k) := by
  have e : n = k * (n / k) + n % k := (Nat.div_add_mod n k).symm
  have : pw p n = comp (pw p (k * (n / k))) (pw p (n % k)) := by rw [← pw_add h, ← e]
  rw [this, ← pw_mul h, hk, pw_home, home_comp (pw_ok h _)]
def rep (l : List Sg) (n : Nat) : List Sg := (List.replicate n l).flatten
theorem rep_succ (l : List Sg) (n : Nat) : rep l (n + 1) = l ++ rep l n := by simp [rep, List.replicate_succ]
theorem rep_len (l : List Sg) (n : Nat) : (rep l n).length = n * l.length := by simp [rep]
theorem rep_add (l : List Sg) (m : Nat) : ∀ n, rep l (m + n) = rep l m ++ rep l n
  | 0 => by simp [rep]
  | n + 1 => by
    have : ∀ k, rep l (k + 1) = rep l k ++ l := fun k => by simp [rep, List.replicate_succ', List.flatten_append]
    rw [← Nat.add_assoc, this, this, rep_add l m n, List.append_assoc]
theorem walk_rep (l : List Sg) : ∀ n, walk home (rep l n) = pw (walk home l) n
  | 0 => rfl
  | n + 1 => by
    have : rep l (n + 1) = rep l n ++ l := by simp [rep, List.replicate_succ', List.flatten_append]
    rw [this, walk_append, walk_rep l n, walk_comp l (pw_ok (walk_ok home_ok) n)]
    rfl
/-- the walk's place within the n-fold way -/
theorem walk_rep_take (l : List Sg) {n t i : Nat} (ht : t < n) (hi : i ≤ l.length) : walk home ((rep l n).take (t * l.length + i)) = comp (pw (walk home l) t) (walk home (l.take i)) := by
  have e : rep l n = rep l t ++ (l ++ rep l (n - t - 1)) := by
    have : n = t + (1 + (n - t - 1)) := by omega
    conv => lhs; rw [this, rep_add, rep_add]
    simp [rep]
  rw [e, List.take_append, rep_len]
  have h1 : (rep l t).take (t * l.length + i) = rep l t := List.take_of_length_le (by rw [rep_len]; omega)
  rw [h1, Nat.add_sub_cancel_left, List.take_append_of_le_length hi, walk_append, walk_rep, walk_comp _ (pw_ok (walk_ok home_ok) t)]

/-! ### what the defs compute -/
set_option maxHeartbeats 0
theorem k_ii : kitB "int" "int" = true := by decide +kernel
theorem k_ib : kitB "int" "bool" = false := by decide +kernel
theorem v_is_whole (i lo hi : Int) : f_is_whole [.int i, .int lo, .int hi] = ret (D.bl (decide (lo ≤ i ∧ i ≤ hi))) := by
  by_cases h : lo ≤ i <;> by_cases h2 : i ≤ hi <;> simp [f_is_whole, runFn, b_is_whole, sRet, eA, eCall, aCons, eV, eC, isiD, tyD, eN, eChain, leI, i2, asB, bnd_ret, opt_some, startE, h, h2, k_ii, k_ib]
theorem v_stepped (p : P3) (s : Sg) (h : p.ok) : f_stepped [pD p, sgD s] = ret (pD (step p s)) := by
  obtain ⟨e, n, w⟩ := p
  cases s with
  | f => rcases h with h | h | h | h <;> (dsimp only at h; subst h; kernel_rfl)
  | l =>
    have : step ⟨e, n, w⟩ .l = ⟨e, n, (w + 3) % 4⟩ := by apply P3.ext' <;> simp [step, comp, unit, rotE, rotN]
    rw [this]
    rcases h with h | h | h | h <;> (dsimp only at h; subst h; kernel_rfl)
  | r =>
    have : step ⟨e, n, w⟩ .r = ⟨e, n, (w + 1) % 4⟩ := by apply P3.ext' <;> simp [step, comp, unit, rotE, rotN]
    rw [this]
    rcases h with h | h | h | h <;> (dsimp only at h; subst h; kernel_rfl)
theorem signs_txt (l : List Sg) : Dl.signs (txt l) = l.map sgD := by
  unfold Dl.signs txt
  simp only [List.toList_toArray, List.map_map]
  rfl
theorem txt_len (l : List Sg) : (txt l).length = l.length := by simp [txt, Str.length]
theorem scan_snoc : ∀ (l : List Sg) (p : P3) (s : Sg), scan p (l ++ [s]) = scan p l ++ [step (walk p l) s]
  | [], p, s => rfl
  | t :: l, p, s => by
    show p :: scan (step p t) (l ++ [s]) = _
    rw [scan_snoc l (step p t) s]
    rfl
theorem small {n : Nat} (h : n ≤ 1000000) : n < sizeLine := Nat.lt_of_le_of_lt h (by decide)
theorem atI_last' {α : Type} (xs : List α) (x : α) : atI (xs ++ [x]) (-1) = some x := atI_last xs x
theorem scan_last (m : List Sg) : ∃ pre, (scan home m) = pre ++ [walk home m] := by
  rcases List.eq_nil_or_concat m with rfl | ⟨m', s, rfl⟩
  · exact ⟨[], rfl⟩
  · exact ⟨scan home m', by rw [List.concat_eq_append, scan_snoc, walk_append]; rfl⟩
theorem ix_last (m : List Sg) : ixD (.lst ((scan home m).map pD)) (.int (-1)) = some (pD (walk home m)) := by
  obtain ⟨pre, e⟩ := scan_last m
  rw [e, List.map_append]
  exact atI_last' _ _
/-- poses_of -/
theorem v_poses_of (l : List Sg) (hl : l.length ≤ 1000) : f_poses_of [.str (txt l)] = ret (.lst ((scan home l).map pD)) := by
  have key := forL_pre (fg := gN 2) (cl := [2]) (fb := sApp 1 (aCons (eFn 2 f_stepped (aCons (e2 ixD (eB 1) (eNeg (eC (.int 1)))) (aCons (eV 2) (fun _ => ret [])))) (fun _ => ret [])))
    (fun m : List Sg => [.dat (.str (txt l)), .own (.lst ((scan home m).map pD)), .emp]) sgD l fun m s r hm => by
      refine ⟨[.dat (.str (txt l)), .own (.lst ((scan home m).map pD)), .dat (sgD s)], [.dat (.str (txt l)), .own (.lst ((scan home (m ++ [s])).map pD)), .dat (sgD s)], rfl, ?_, rfl⟩
      have e2' : callS 2 f_stepped [pD (walk home m), sgD s] = ret (pD (step (walk home m) s)) := v_stepped _ _ (walk_ok home_ok)
      have hlen : ((scan home m).map pD).length < sizeLine := by
        rw [List.length_map, scan_len]
        have : m.length ≤ l.length := by rw [hm]; simp
        exact small (by omega)
      rw [scan_snoc, List.map_append]
      simp only [sApp, atOwn, aCons, eFn, e2, eB, eNeg, eC, eV, bnd_ret, ix_last, opt_some, List.getElem?_cons_zero, List.getElem?_cons_succ, e2', if_pos hlen]
      rfl
  show bnd (bnd (forL (gN 2) [2] _ (Dl.signs (txt l)) ((fun m : List Sg => [.dat (.str (txt l)), .own (.lst ((scan home m).map pD)), .emp]) [])) _) _ = _
  rw [signs_txt, key]
  rfl
end G48

set_option Elab.async false
set_option linter.all false
set_option maxRecDepth 100000
set_option autoImplicit false
namespace G48
open PySem PySem.Spec L2 Dl
open PyProof.Rows hiding St
set_option maxHeartbeats 0
theorem step_l (p : P3) : step p .l = ⟨p.e, p.n, (p.w + 3) % 4⟩ := by obtain ⟨e, n, w⟩ := p; apply P3.ext' <;> simp [step, comp, unit, rotE, rotN]
theorem step_r (p : P3) : step p .r = ⟨p.e, p.n, (p.w + 1) % 4⟩ := by obtain ⟨e, n, w⟩ := p; apply P3.ext' <;> simp [step, comp, unit, rotE, rotN]
/-- _law_poses -/
theorem lp_A (x0 o : Slot) (p : P3) (s : Sg) (h : p.ok) :
    sSeq (sIf (tV (e2 eqD (eV 5) (eC (.str "f")))) (sPar .P .P 1 2 (e2 addA (eV 1) (e2 ixD (eL (aCons (eC (.int 0)) (aCons (eC (.int 1)) (aCons (eC (.int 0)) (aCons (eNeg (eC (.int 1))) (fun _ => ret [])))))) (eV 3))) (e2 addA (eV 2) (e2 ixD (eL (aCons (eC (.int 1)) (aCons (eC (.int 0)) (aCons (eNeg (eC (.int 1))) (aCons (eC (.int 0)) (fun _ => ret [])))))) (eV 3)))) sNil)
      (sSet 3 (e2 modI (eCall intI (aCons (e2 addA (eV 3) (eIf (tV (e2 eqD (eV 5) (eC (.str "r")))) (eC (.int 1)) (eIf (tV (e2 eqD (eV 5) (eC (.str "l")))) (eC (.int 3)) (eC (.int 0))))) (fun _ => ret []))) (eC (.int 4))))
      [x0, .dat (.int p.e), .dat (.int p.n), .dat (.int p.w), o, .dat (sgD s)] = ret (.nx [x0, .dat (.int (step p s).e), .dat (.int (step p s).n), .dat (.int (step p s).w), o, .dat (sgD s)]) := by
  cases s with
  | f => obtain ⟨e, n, w⟩ := p; rcases h with h | h | h | h <;> (dsimp only at h; subst h; kernel_rfl)
  | l => rw [step_l]; obtain ⟨e, n, w⟩ := p; rcases h with h | h | h | h <;> (dsimp only at h; subst h; kernel_rfl)
  | r => rw [step_r]; obtain ⟨e, n, w⟩ := p; rcases h with h | h | h | h <;> (dsimp only at h; subst h; kernel_rfl)
theorem sSeq_assoc (f g h : Dl.Env → M Fl) : sSeq f (sSeq g h) = sSeq (sSeq f g) h := by
  funext ρ
  unfold sSeq
  rw [bnd_assoc]
  congr 1
  funext fl
  cases fl <;> rfl
theorem v_law_poses (l : List Sg) (hl : l.length ≤ 1000) : f__law_poses [.str (txt l)] = ret (.lst ((scan home l).map pD)) := by
  have key := forL_pre (fg := gN 5) (cl := [5]) (fb := sSeq (sIf (tV (e2 eqD (eV 5) (eC (.str "f")))) (sPar .P .P 1 2 (e2 addA (eV 1) (e2 ixD (eL (aCons (eC (.int 0)) (aCons (eC (.int 1)) (aCons (eC (.int 0)) (aCons (eNeg (eC (.int 1))) (fun _ => ret [])))))) (eV 3))) (e2 addA (eV 2) (e2 ixD (eL (aCons (eC (.int 1)) (aCons (eC (.int 0)) (aCons (eNeg (eC (.int 1))) (aCons (eC (.int 0)) (fun _ => ret [])))))) (eV 3)))) sNil)
      (sSeq (sSet 3 (e2 modI (eCall intI (aCons (e2 addA (eV 3) (eIf (tV (e2 eqD (eV 5) (eC (.str "r")))) (eC (.int 1)) (eIf (tV (e2 eqD (eV 5) (eC (.str "l")))) (eC (.int 3)) (eC (.int 0))))) (fun _ => ret []))) (eC (.int 4))))
      (sApp 4 (aCons (eT (aCons (eV 1) (aCons (eV 2) (aCons (eV 3) (fun _ => ret []))))) (fun _ => ret [])))))
    (fun m : List Sg => [.dat (.str (txt l)), .dat (.int (walk home m).e), .dat (.int (walk home m).n), .dat (.int (walk home m).w), .own (.lst ((scan home m).map pD)), .emp]) sgD l fun m s r hm => by
      refine ⟨[.dat (.str (txt l)), .dat (.int (walk home m).e), .dat (.int (walk home m).n), .dat (.int (walk home m).w), .own (.lst ((scan home m).map pD)), .dat (sgD s)], [.dat (.str (txt l)), .dat (.int (walk home (m ++ [s])).e), .dat (.int (walk home (m ++ [s])).n), .dat (.int (walk home (m ++ [s])).w), .own (.lst ((scan home (m ++ [s])).map pD)), .dat (sgD s)], rfl, ?_, rfl⟩
      have hlen : ((scan home m).map pD).length < sizeLine := by
        rw [List.length_map, scan_len]
        have : m.length ≤ l.length := by rw [hm]; simp
        exact small (by omega)
      have hw : walk home (m ++ [s]) = step (walk home m) s := by rw [walk_append]; rfl
      rw [sSeq_assoc, sSeq_nx (lp_A _ _ _ _ (walk_ok home_ok)), scan_snoc, List.map_append, hw]
      simp only [sApp, atOwn, aCons, eT, eV, bnd_ret, List.getElem?_cons_zero, List.getElem?_cons_succ, if_pos hlen, mkT, List.length_cons, List.length_nil, if_pos (show 0 + 1 + 1 + 1 ≤ sizeLine by decide)]
      rfl
  show bnd (bnd (forL (gN 5) [5] _ (Dl.signs (txt l)) ((fun m : List Sg => [.dat (.str (txt l)), .dat (.int (walk home m).e), .dat (.int (walk home m).n), .dat (.int (walk home m).w), .own (.lst ((scan home m).map pD)), .emp]) [])) _) _ = _
  rw [signs_txt, key]
  rfl
/-- then -/
theorem v_then (p q : P3) (h : p.ok) : f_then [pD p, pD q] = ret (pD (comp p q)) := by
  obtain ⟨e, n, w⟩ := p
  obtain ⟨x, y, z⟩ := q
  rcases h with h | h | h | h <;> (dsimp only at h; subst h)
  · kernel_rfl
  · kernel_rfl
  · kernel_rfl
  · have : f_then [pD ⟨e, n, 3⟩, pD ⟨x, y, z⟩] = ret (pD ⟨e + -y, n + - -x, (3 + z) % 4⟩) := by kernel_rfl
    rw [this, Int.neg_neg]
    rfl
/-- again -/
theorem mulA_int {a b : Int} (h : b.natAbs < 2 ^ 64 ∨ a.natAbs < 2 ^ 64) : mulA (.int a) (.int b) = some (.int (a * b)) := by
  have : mulI (.int a) (.int b) = some (.int (a * b)) := by
    unfold mulI i2g
    dsimp only
    rw [if_pos]
    simp only [Bool.or_eq_true, Bool.and_eq_true, decide_eq_true_eq]
    omega
  unfold mulA orS
  rw [this]
theorem eqD_int (a b : Int) : eqD (.int a) (.int b) = some (.bl (a == b)) := by rfl
theorem modI_nat (n k : Nat) (hk : 0 < k) : modI (.int (n : Int)) (.int (k : Int)) = some (.int ((n % k : Nat) : Int)) := by
  unfold modI i2g
  dsimp only
  rw [if_pos (by simpa using hk)]
  rfl
theorem v_again (p : P3) (h : p.ok) (n : Nat) (hn : n < 2 ^ 62) : f_again [pD p, .int (n : Int)] = ret (pD (pw p n)) := by
  have iw : ixD (pD p) (.int 2) = some (.int p.w) := rfl
  have ie : ixD (pD p) (.int 0) = some (.int p.e) := rfl
  have ino : ixD (pD p) (.int 1) = some (.int p.n) := rfl
  have m1 : ∀ x : Int, mulA (.int x) (.int (n : Int)) = some (.int (x * n)) := fun x => mulA_int (.inl (by omega))
  by_cases h0 : p.w = 0
  · rw [pw_w0 h0]
    exact run_rt (sSeq_rt ((sIf_t (tV_eq (e2_eq (e2_eq rfl rfl iw) rfl (by rw [h0]; rfl)))).trans (sRet_eq (eT_eq (a3 (e2_eq (e2_eq rfl rfl ie) rfl (m1 _)) (e2_eq (e2_eq rfl rfl ino) rfl (m1 _)) rfl)))))
  · have key := forL_pre (fg := gN 3) (cl := [3]) (fb := sSet 2 (eFn 2 f_then (aCons (eV 2) (aCons (eV 0) (fun _ => ret [])))))
      (fun m : List Nat => [.dat (pD p), .dat (.int (n : Int)), .dat (pD (pw p m.length)), .emp]) (fun i : Nat => D.int (i : Int)) (List.range (n % 4)) fun m s r hm => by
        refine ⟨[.dat (pD p), .dat (.int (n : Int)), .dat (pD (pw p m.length)), .dat (.int (s : Int))], [.dat (pD p), .dat (.int (n : Int)), .dat (pD (pw p (m.length + 1))), .dat (.int (s : Int))], rfl, ?_, by rw [List.length_append]; rfl⟩
        exact sSet_eq (eFn_eq (a2 rfl rfl) (v_then _ _ (pw_ok h _)))
    have hper : pw p n = pw p (n % 4) := pw_per h (pw_four h h0) n
    have hne : (p.w == 0) = false := by simpa using h0
    refine run_rt (((sSeq_nx ((sIf_f (tV_eq (e2_eq (e2_eq rfl rfl iw) rfl (by rw [eqD_int, hne])))).trans rfl)).trans ((sSeq_nx (sSet_eq rfl)).trans ((sSeq_nx ((sFor_eq (iR1_eq (k := n % 4) (a1 (e2_eq rfl rfl (modI_nat n 4 (by decide)))) (by omega))).trans key)).trans (sRet_eq ?_)))))
    rw [List.length_range, ← hper]
    rfl
end G48

set_option Elab.async false
set_option linter.all false
set_option maxRecDepth 100000
set_option autoImplicit false
namespace G48
open PySem PySem.Spec L2 Dl
open PyProof.Rows hiding St
set_option maxHeartbeats 0
instance : DecidableEq P3 := fun p q => if h : p.e = q.e ∧ p.n = q.n ∧ p.w = q.w then isTrue (P3.ext' h.1 h.2.1 h.2.2) else isFalse fun e => h (e ▸ ⟨rfl, rfl, rfl⟩)
theorem pose_dec (p q : P3) : (p.e == q.e && (p.n == q.n && (p.w == q.w && true))) = decide (p = q) := by
  rw [Bool.eq_iff_iff]
  simp only [Bool.and_eq_true, beq_iff_eq, decide_eq_true_eq, and_true]
  exact ⟨fun h => P3.ext' h.1 h.2.1 h.2.2, fun h => h ▸ ⟨rfl, rfl, rfl⟩⟩
theorem eqD_pose (p q : P3) : eqD (pD p) (pD q) = some (.bl (decide (p = q))) := by
  rw [← pose_dec]
  kernel_rfl
theorem neD_pose (p q : P3) : neD (pD p) (pD q) = some (.bl (!decide (p = q))) := by
  rw [← pose_dec]
  kernel_rfl
theorem isi_str (x : Str) : isiD [.str x, .ty "str"] = some (.bl true) := by kernel_rfl
theorem isi_tup (ds : List D) : isiD [.tup ds, .ty "tuple"] = some (.bl true) := by kernel_rfl
theorem len_txt {l : List Sg} (h : l.length ≤ 1000) : lenD [.str (txt l)] = some (.int l.length) := by
  unfold lenD
  dsimp only
  rw [txt_len, if_pos (Nat.le_of_lt (small (by omega)))]
theorem inA_sg (s : Sg) : inA (sgD s) (.str "flr") = some (.bl true) := by cases s <;> kernel_rfl
theorem v_fits_telling (l : List Sg) (hl : l.length ≤ 60) : f_fits_telling [.str (txt l)] = ret (.bl true) := by
  have lc : eLc [1] (iAny (eV 0)) (gN 1) tYs (e2 inA (eV 1) (eC (.str "flr"))) [.dat (.str (txt l)), .emp] = ret (.lst (l.map fun _ => .bl true)) :=
    eLc_map sgD (fun _ => .bl true) (iAny_s rfl |>.trans (by rw [signs_txt])) (by omega) fun s _ => ⟨_, rfl, e2_eq rfl rfl (inA_sg s)⟩
  have al : allD [.lst (l.map fun _ => D.bl true)] = some (.bl true) := by
    have : l.map (fun _ => D.bl true) = (l.map fun _ => true).map D.bl := by rw [List.map_map]; rfl
    unfold allD
    dsimp only
    rw [this, blsOf_map, Option.map_some]
    congr 2
    simp
  exact run_rt (sRet_eq ((eA_t (eCall_eq (a2 rfl rfl) (isi_str _))).trans ((eA_t (e2_eq (eCall_eq (a1 rfl) (len_txt (by omega))) rfl (show leI (.int l.length) (.int 60) = some (.bl true) by
    show some (D.bl (decide _)) = _
    rw [decide_eq_true (by omega)]))).trans (eCall_eq (a1 lc) al))))
theorem v_need_telling (l : List Sg) (hl : l.length ≤ 60) : f_need_telling [.str (txt l)] = ret .non :=
  run_nx ((sIf_f (tN_eq (tV_eq (eFn_eq (a1 rfl) (v_fits_telling l hl))))).trans rfl)
def P (l : List Sg) : P3 := walk home l
theorem P_ok (l : List Sg) : (P l).ok := walk_ok home_ok
theorem v_pose_of (l : List Sg) (hl : l.length ≤ 60) : f_pose_of [.str (txt l)] = ret (pD (P l)) :=
  run_rt ((sSeq_nx (sDrop_eq (eFn_eq (a1 rfl) (v_need_telling l hl)))).trans (sRet_eq (e2_eq (eFn_eq (a1 rfl) (v_poses_of l (by omega))) (eNeg_eq rfl) (ix_last l))))
theorem v_pose_behind (l : List Sg) (hl : l.length ≤ 60) (n : Nat) (hn : n ≤ 1000000000000) : f_pose_behind [.str (txt l), .int (n : Int)] = ret (pD (pw (P l) n)) :=
  run_rt ((sSeq_nx (sDrop_eq (eFn_eq (a1 rfl) (v_need_telling l hl)))).trans ((sSeq_nx ((sIf_f (tN_eq (tV_eq (eFn_eq (a3 rfl rfl rfl) (show f_is_whole [.int (n : Int), .int 0, .int 1000000000000] = ret (.bl true) by rw [v_is_whole, decide_eq_true (by omega)]))))).trans rfl)).trans
    (sRet_eq (eFn_eq (a2 (e2_eq (eFn_eq (a1 rfl) (v_poses_of l (by omega))) (eNeg_eq rfl) (ix_last l)) rfl) (v_again _ (P_ok l) n (by omega))))))
/-- the first of the numbers, or None -/
def firstD : List Nat → D
  | [] => .non
  | a :: _ => .int (a : Int)
theorem firstD_eq {ρ : Dl.Env} {i : Nat} {xs : List Nat} (h : eV i ρ = ret (.lst (xs.map fun n : Nat => D.int (n : Int)))) : eIf (tV (e2 neD (eV i) (eL (fun _ => ret [])))) (e2 ixD (eV i) (eC (.int 0))) (eC .non) ρ = ret (firstD xs) := by
  have e : xs.map (fun n : Nat => D.int (n : Int)) = (xs.map fun n : Nat => (n : Int)).map D.int := by rw [List.map_map]; rfl
  rw [e] at h
  cases xs with
  | nil => exact (eIf_f (tV_eq (e2_eq h (eL_eq rfl) (ne_nil_ints _)))).trans rfl
  | cons a r => exact (eIf_t (tV_eq (e2_eq h (eL_eq rfl) ((ne_nil_ints _).trans rfl)))).trans (e2_eq h rfl (show atI _ (0 : Int) = _ from atI_nat (j := 0) rfl))
theorem v_rounds_of (l : List Sg) (hl : l.length ≤ 60) : f_rounds_of [.str (txt l)] = ret (firstD ([1, 2, 4].filter fun m => decide (pw (P l) m = home))) := by
  have lc : ∀ x2 x3 : Slot, eLc [3] (iAny (eT (aCons (eC (.int 1)) (aCons (eC (.int 2)) (aCons (eC (.int 4)) (fun _ => ret [])))))) (gN 3) (tV (e2 eqD (eFn 2 f_again (aCons (eV 1) (aCons (eV 3) (fun _ => ret [])))) (eC (.tup [(.int 0), (.int 0), (.int 0)])))) (eV 3) [.dat (.str (txt l)), .dat (pD (P l)), x2, x3]
      = ret (.lst (([1, 2, 4].filter fun m => decide (pw (P l) m = home)).map fun n : Nat => D.int (n : Int))) := fun x2 x3 =>
    eLc_filter (fun n : Nat => D.int (n : Int)) (fun m => decide (pw (P l) m = home)) (iAny_t (eT_eq (a3 rfl rfl rfl))) (by decide) fun m hm => by
      have hm4 : m ≤ 4 := by
        simp only [List.mem_cons, List.not_mem_nil, or_false] at hm
        omega
      exact ⟨_, rfl, tV_eq (e2_eq (eFn_eq (a2 rfl rfl) (v_again _ (P_ok l) m (by omega))) rfl (eqD_pose _ home)), rfl⟩
  exact run_rt ((sSeq_nx (sDrop_eq (eFn_eq (a1 rfl) (v_need_telling l hl)))).trans ((sSeq_nx (sSet_eq (e2_eq (eFn_eq (a1 rfl) (v_poses_of l (by omega))) (eNeg_eq rfl) (ix_last l)))).trans
    ((sSeq_nx (sSet_eq (lc _ _))).trans (sRet_eq (firstD_eq rfl)))))
end G48

set_option Elab.async false
set_option linter.all false
set_option maxRecDepth 100000
set_option autoImplicit false
namespace G48
open PySem PySem.Spec L2 Dl
open PyProof.Rows hiding St
set_option maxHeartbeats 0
def ab (x : Int) : Int := if x < 0 then -x else x
def nrm (p : P3) : Int := ab p.e + ab p.n
theorem abs_eq (x : Int) : absI [.int x] = some (.int (ab x)) := rfl
theorem addA_int (a b : Int) : addA (.int a) (.int b) = some (.int (a + b)) := rfl
def farL (l : List Sg) : List P3 := (List.range 4).flatMap fun t => (scan home l).map fun q => comp (pw (P l) t) q
theorem farL_len (l : List Sg) : (farL l).length = 4 * (l.length + 1) := by
  unfold farL
  simp only [List.length_flatMap, List.length_map, scan_len]
  simp [List.range_succ]
  omega
theorem v_farthest (l : List Sg) (hl : l.length ≤ 60) : f_farthest [.str (txt l)] = if pw (P l) 4 = home then ret (.int (mx ((farL l).map nrm))) else ret .non := by
  have hp : f_poses_of [.str (txt l)] = ret (.lst ((scan home l).map pD)) := v_poses_of l (by omega)
  have t1 : ∀ x2 x3 x4 x5 x6 x7 : Slot, tV (e2 neD (eFn 2 f_again (aCons (e2 ixD (eV 1) (eNeg (eC (.int 1)))) (aCons (eC (.int 4)) (fun _ => ret [])))) (eC (.tup [(.int 0), (.int 0), (.int 0)]))) [.dat (.str (txt l)), .dat (.lst ((scan home l).map pD)), x2, x3, x4, x5, x6, x7] = ret (!decide (pw (P l) 4 = home)) := fun x2 x3 x4 x5 x6 x7 =>
    tV_eq (e2_eq (eFn_eq (a2 (e2_eq rfl (eNeg_eq rfl) (ix_last l)) rfl) (v_again _ (P_ok l) 4 (by decide))) rfl (neD_pose _ home))
  by_cases h4 : pw (P l) 4 = home
  · rw [if_pos h4]
    have lc2 : eLc2 [3, 4] [4] (iR1 (aCons (eC (.int 4)) (fun _ => ret []))) (gN 3) tYs (iAny (eV 1)) (gN 4) tYs (eFn 2 f_then (aCons (eFn 2 f_again (aCons (e2 ixD (eV 1) (eNeg (eC (.int 1)))) (aCons (eV 3) (fun _ => ret [])))) (aCons (eV 4) (fun _ => ret [])))) [.dat (.str (txt l)), .dat (.lst ((scan home l).map pD)), .emp, .emp, .emp, .emp, .emp, .emp]
        = ret (.lst ((farL l).map pD)) := by
      unfold eLc2
      rw [iR1_eq (k := 4) (a1 rfl) (by decide), bnd_ret, lc2A_map (fun i : Nat => D.int (i : Int)) (fun t => (scan home l).map fun q => pD (comp (pw (P l) t) q)) (List.range 4) [] ?_ ?_, bnd_ret, List.nil_append]
      · congr 2
        unfold farL
        rw [List.map_flatMap]
        congr 1
        funext t
        rw [List.map_map]
        rfl
      · have := farL_len l
        simp only [List.length_flatMap, List.length_map, scan_len, List.length_nil]
        simp [List.range_succ]
        omega
      · intro t ht
        refine ⟨([.dat (.str (txt l)), .dat (.lst ((scan home l).map pD)), .emp, .dat (.int (t : Int)), .emp, .emp, .emp, .emp], (scan home l).map pD), rfl, fun acc hacc => ?_⟩
        exact lcA_map pD (fun q => pD (comp (pw (P l) t) q)) (scan home l) acc (by simpa using hacc) fun q hq => ⟨_, rfl, eFn_eq (a2 (eFn_eq (a2 (e2_eq rfl (eNeg_eq rfl) (ix_last l)) rfl) (v_again _ (P_ok l) t (by have := List.mem_range.mp ht; omega))) rfl) (v_then _ _ (pw_ok (P_ok l) t))⟩
    have lc : eLc [5, 6, 7] (iAny (eV 2)) (gT 3 (gsC (gN 5) (gsC (gN 6) (gsC (gN 7) gsN)))) tYs (e2 addA (eCall absI (aCons (eV 5) (fun _ => ret []))) (eCall absI (aCons (eV 6) (fun _ => ret [])))) [.dat (.str (txt l)), .dat (.lst ((scan home l).map pD)), .dat (.lst ((farL l).map pD)), .emp, .emp, .emp, .emp, .emp]
        = ret (.lst ((farL l).map fun q => D.int (nrm q))) :=
      eLc_map pD (fun q => D.int (nrm q)) (iAny_l rfl) (by rw [farL_len]; omega) fun q _ => ⟨_, rfl, e2_eq (eCall_eq (a1 rfl) (abs_eq _)) (eCall_eq (a1 rfl) (abs_eq _)) (addA_int _ _)⟩
    have hne : (farL l).map nrm ≠ [] := by
      intro z
      have := congrArg List.length z
      rw [List.length_map, farL_len] at this
      simp at this
    have e : (farL l).map (fun q => D.int (nrm q)) = ((farL l).map nrm).map D.int := by rw [List.map_map]; rfl
    rw [e] at lc
    exact run_rt ((sSeq_nx (sDrop_eq (eFn_eq (a1 rfl) (v_need_telling l hl)))).trans ((sSeq_nx (sSet_eq (eFn_eq (a1 rfl) hp))).trans ((sSeq_nx ((sIf_f ((t1 _ _ _ _ _ _).trans (by rw [decide_eq_true h4]; rfl))).trans rfl)).trans
      ((sSeq_nx (sSet_eq lc2)).trans (sRet_eq (eCall_eq (a1 lc) (maxI_eq hne)))))))
  · rw [if_neg h4]
    exact run_rt ((sSeq_nx (sDrop_eq (eFn_eq (a1 rfl) (v_need_telling l hl)))).trans ((sSeq_nx (sSet_eq (eFn_eq (a1 rfl) hp))).trans (sSeq_rt ((sIf_t ((t1 _ _ _ _ _ _).trans (by rw [decide_eq_false h4]; rfl))).trans (sRet_eq rfl)))))
/-! ### the law's comparison -/
inductive Sm : Nat → D → Prop
  | non (n : Nat) : Sm n .non
  | bl (n : Nat) (b : Bool) : Sm n (.bl b)
  | int (n : Nat) (i : Int) : Sm n (.int i)
  | tup (n : Nat) (ds : List D) : (∀ d ∈ ds, Sm n d) → ds.length ≤ 1000 → Sm (n + 1) (.tup ds)
theorem isi_tup_non (d : D) (h : match d with | .tup _ => False | .non | .bl _ | .int _ => True | _ => False) : isiD [d, .ty "tuple"] = some (.bl false) := by
  cases d <;> first | exact h.elim | kernel_rfl
theorem v_same : ∀ (n : Nat) (d : D), Sm n d → f__law_same (n + 1) [d, d] = ret (.bl true) := by
  intro n d h
  induction h with
  | non n => kernel_rfl
  | bl n b => cases b <;> kernel_rfl
  | int n i =>
    have : f__law_same (n + 1) [.int i, .int i] = ret (.bl (i == i)) := by kernel_rfl
    rw [this]
    simp
  | tup n ds hd hl ih =>
    have hlen : lenD [.tup ds] = some (.int (ds.length : Int)) := rfl
    have lc : ∀ x2 : Slot, eLc [2] (iR1 (aCons (eCall lenD (aCons (eV 1) (fun _ => ret []))) (fun _ => ret []))) (gN 2) tYs (eFn 2 (f__law_same (n + 1)) (aCons (e2 ixD (eV 0) (eV 2)) (aCons (e2 ixD (eV 1) (eV 2)) (fun _ => ret [])))) [.dat (.tup ds), .dat (.tup ds), x2] = ret (.lst ((List.range ds.length).map fun _ => D.bl true)) := fun x2 =>
      eLc_map (fun i : Nat => D.int (i : Int)) (fun _ => D.bl true) (iR1_eq (a1 (eCall_eq (a1 rfl) hlen)) (by omega)) (by rw [List.length_range]; omega) fun i hi => by
        have hi' := List.mem_range.mp hi
        have e : ixD (.tup ds) (.int (i : Int)) = some ds[i] := atI_nat (List.getElem?_eq_getElem hi')
        exact ⟨_, rfl, eFn_eq (a2 (e2_eq rfl rfl e) (e2_eq rfl rfl e)) (ih _ (List.getElem_mem hi'))⟩
    have al : allD [.lst ((List.range ds.length).map fun _ => D.bl true)] = some (.bl true) := by
      have : (List.range ds.length).map (fun _ => D.bl true) = ((List.range ds.length).map fun _ => true).map D.bl := by rw [List.map_map]; rfl
      unfold allD
      dsimp only
      rw [this, blsOf_map, Option.map_some]
      congr 2
      simp
    have hne : neD (.int (ds.length : Int)) (.int (ds.length : Int)) = some (.bl false) := by
      have : neD (.int (ds.length : Int)) (.int (ds.length : Int)) = some (.bl (!((ds.length : Int) == (ds.length : Int)))) := rfl
      rw [this]; simp
    exact run_rt (sSeq_rt ((sIf_t (tV_eq (eCall_eq (a2 rfl rfl) (isi_tup _)))).trans ((sSeq_nx ((sIf_f ((tO_f ((tN_eq (tV_eq (eCall_eq (a2 rfl rfl) (isi_tup _)))).trans rfl)).trans (tV_eq (e2_eq (eCall_eq (a1 rfl) hlen) (eCall_eq (a1 rfl) hlen) hne)))).trans rfl)).trans
      (sRet_eq (eCall_eq (a1 (lc _)) al)))))
theorem sm_pose (n : Nat) (p : P3) : Sm (n + 1) (pD p) := .tup n _ (fun d hd => by
  simp only [List.mem_cons, List.not_mem_nil, or_false] at hd
  rcases hd with rfl | rfl | rfl <;> exact .int _ _) (by simp)
theorem sm_first (n : Nat) (xs : List Nat) : Sm n (firstD xs) := by cases xs; exact .non _; exact .int _ _
theorem same_eq {ρ : Dl.Env} {fa : Dl.Env → M (List D)} {d : D} (e : fa ρ = ret [d, d]) (h : Sm 7 d) : tN (tV (eFn 2 (f__law_same 8) fa)) ρ = ret false := (tN_eq (tV_eq (eFn_eq e (v_same 7 d h)))).trans rfl
/-! ### joined -/
def small3 (p : P3) : Prop := -1000 ≤ p.e ∧ p.e ≤ 1000 ∧ -1000 ≤ p.n ∧ p.n ≤ 1000
theorem v_fits_pose (p : P3) (h : p.ok) (hs : small3 p) : f_fits_pose [pD p] = ret (.bl true) := by
  have v3 : f_is_tuple_of [pD p, .int 3, .int 3] = ret (.bl true) := by kernel_rfl
  have w1 : ∀ x : Int, -1000 ≤ x → x ≤ 1000 → f_is_whole [.int x, .int (-1000), .int 1000] = ret (.bl true) := fun x a b => by rw [v_is_whole, decide_eq_true (by omega)]
  have lc : ∀ x1 : Slot, eLc [1] (iAny (eSl (eV 0) oNone (oSome (eC (.int 2))))) (gN 1) tYs (eFn 3 f_is_whole (aCons (eV 1) (aCons (eNeg (eC (.int 1000))) (aCons (eC (.int 1000)) (fun _ => ret []))))) [.dat (pD p), x1] = ret (.lst ([p.e, p.n].map fun _ => .bl true)) := fun x1 =>
    eLc_map D.int (fun _ => D.bl true) (show iAny (eSl (eV 0) oNone (oSome (eC (.int 2)))) [.dat (pD p), x1] = ret ([p.e, p.n].map D.int) from rfl) (by simp) fun x hx => by
      simp only [List.mem_cons, List.not_mem_nil, or_false] at hx
      refine ⟨_, rfl, eFn_eq (a3 rfl (eNeg_eq rfl) rfl) (w1 x ?_ ?_)⟩ <;> rcases hx with rfl | rfl <;> (unfold small3 at hs; omega)
  have w2 : f_is_whole [.int p.w, .int 0, .int 3] = ret (.bl true) := by rw [v_is_whole, decide_eq_true (by unfold P3.ok at h; omega)]
  exact run_rt ((sSeq_nx ((sIf_f ((tO_f ((tN_eq (tV_eq (eFn_eq (a3 rfl rfl rfl) v3))).trans rfl)).trans ((tN_eq (tV_eq (eCall_eq (a1 (lc _)) rfl))).trans rfl))).trans rfl)).trans (sRet_eq (eFn_eq (a3 (e2_eq rfl rfl rfl) rfl rfl) w2)))
theorem v_need_pose (p : P3) (h : p.ok) (hs : small3 p) : f_need_pose [pD p] = ret .non := run_nx ((sIf_f ((tN_eq (tV_eq (eFn_eq (a1 rfl) (v_fits_pose p h hs)))).trans rfl)).trans rfl)
theorem v_joined (p q : P3) (h : p.ok) (hs : small3 p) (hq : q.ok) (hqs : small3 q) : f_joined [pD p, pD q] = ret (pD (comp p q)) :=
  run_rt ((sSeq_nx (sDrop_eq (eFn_eq (a1 rfl) (v_need_pose p h hs)))).trans ((sSeq_nx (sDrop_eq (eFn_eq (a1 rfl) (v_need_pose q hq hqs)))).trans (sRet_eq (eFn_eq (a2 rfl rfl) (v_then p q h)))))
end G48

set_option Elab.async false
set_option linter.all false
set_option maxRecDepth 100000
set_option autoImplicit false
namespace G48
open PySem PySem.Spec L2 Dl
open PyProof.Rows hiding St
set_option maxHeartbeats 0
/-! ### the cup -/
theorem bnd_ok {α β : Type} {m : M α} {k : α → M β} {S S' : Store} {a : α} (h : m S = .ok a S') : bnd m k S = k a S' := by unfold bnd; rw [h]; rfl
theorem v_cup (ns : List Int) (hl : ns.length ≤ 63) : ∃ c0 c1 : Int, f__law_cup [.scr ns] [] = .ok (.box 0) [.lst [.int c0, .int c1]] := by
  obtain ⟨c, hc⟩ : ∃ c : Int, e2 ixD (e2 addA (eCall listD (aCons (eV 0) (fun _ => ret []))) (eL (aCons (eC (.int 0)) (fun _ => ret [])))) (eC (.int 0)) [.dat (.scr ns), .emp] = ret (.int c) := by
    have e1 : addA (.lst (ns.map D.int)) (.lst [.int 0]) = some (.lst (ns.map D.int ++ [.int 0])) := by
      have : addL (.lst (ns.map D.int)) (.lst [.int 0]) = some (.lst (ns.map D.int ++ [.int 0])) := by
        unfold addL
        dsimp only
        rw [if_pos]
        exact Nat.le_of_lt (small (by simp; omega))
      exact this
    cases ns with
    | nil => exact ⟨0, e2_eq (e2_eq (eCall_eq (a1 rfl) rfl) (eL_eq (a1 rfl)) e1) rfl (show atI _ (0 : Int) = _ from atI_nat (j := 0) rfl)⟩
    | cons a r => exact ⟨a, e2_eq (e2_eq (eCall_eq (a1 rfl) rfl) (eL_eq (a1 rfl)) e1) rfl (show atI _ (0 : Int) = _ from atI_nat (j := 0) rfl)⟩
  have m1 : ∀ x : Int, mulA (.int x) (.int 307) = some (.int (x * 307)) := fun x => mulA_int (.inl (by decide))
  have l2 : eL (aCons (eIf (tV (e2 geI (eV 1) (e2 powI (eC (.int 10)) (eC (.int 18))))) (e2 divI (eV 1) (eC (.int 71))) (eC (.int 0))) (aCons (e2 addA (e2 modI (eCall intI (aCons (e2 addA (e2 mulA (eV 1) (eC (.int 307))) (eC (.int 4013))) (fun _ => ret []))) (eC (.int 2077503103))) (eC (.int 151))) (fun _ => ret []))) [.dat (.scr ns), .dat (.int (ab c))]
      = ret (.lst [.int (if decide (10 ^ 18 ≤ ab c) = true then ab c / 71 else 0), .int ((ab c * 307 + 4013) % 2077503103 + 151)]) := by
    refine eL_eq (a2 ?_ (e2_eq (e2_eq (eCall_eq (a1 (e2_eq (e2_eq rfl rfl (m1 _)) rfl (addA_int _ _))) rfl) rfl rfl) rfl (addA_int _ _)))
    have t : tV (e2 geI (eV 1) (e2 powI (eC (.int 10)) (eC (.int 18)))) [.dat (.scr ns), .dat (.int (ab c))] = ret (decide (10 ^ 18 ≤ ab c)) := tV_eq (e2_eq rfl (e2_eq rfl rfl rfl) rfl)
    by_cases h : (10 ^ 18 : Int) ≤ ab c
    · rw [decide_eq_true h] at t
      rw [decide_eq_true h, if_pos rfl]
      exact (eIf_t t).trans (e2_eq rfl rfl rfl)
    · rw [decide_eq_false h] at t
      rw [decide_eq_false h, if_neg Bool.false_ne_true]
      exact (eIf_f t).trans rfl
  refine ⟨if decide (10 ^ 18 ≤ ab c) = true then ab c / 71 else 0, (ab c * 307 + 4013) % 2077503103 + 151, ?_⟩
  · unfold f__law_cup runFn
    have e : b__law_cup (startE 2 [.scr ns]) = sRetBox _ [.dat (.scr ns), .dat (.int (ab c))] := sSeq_nx (sSet_eq (eCall_eq (a1 hc) (abs_eq c)))
    show bnd (b__law_cup (startE 2 [.scr ns])) _ [] = _
    rw [e]
    unfold sRetBox
    rw [l2, bnd_ret]
    rfl
/-- _law_roll -/
theorem v_roll (many : Int) (h0 : 0 < many) (h1 : many < 2 ^ 64) : Ok (f__law_roll [.box 0, .int many]) fun d => ∃ r : Int, d = .int r ∧ 0 ≤ r ∧ r < many := by
  rintro S ⟨c0, c1, rfl⟩
  have md : ∀ x : Int, modI (.int x) (.int many) = some (.int (x % many)) := fun x => by
    unfold modI i2g
    dsimp only
    rw [if_pos (decide_eq_true h0)]
  have dv : ∀ x : Int, divI (.int x) (.int many) = some (.int (x / many)) := fun x => by
    unfold divI i2g
    dsimp only
    rw [if_pos (by simp only [Bool.and_eq_true, decide_eq_true_eq]; exact ⟨h0, h1⟩)]
  have t : tV (e2 gtI (eIxBox (eV 0) (eC (.int 0))) (eC (.int 0))) [.dat (.box 0), .dat (.int many), .emp, .emp] [.lst [.int c0, .int c1]] = .ok (decide (0 < c0)) [.lst [.int c0, .int c1]] := rfl
  by_cases hc : 0 < c0
  · refine ⟨.int (c0 % many), [.lst [.int (c0 / many), .int c1]], ?_, ⟨_, _, rfl⟩, _, rfl, Int.emod_nonneg _ (by omega), Int.emod_lt_of_pos _ h0⟩
    rw [decide_eq_true hc] at t
    have s1 : sSet 2 (e2 modI (eCall intI (aCons (eIxBox (eV 0) (eC (.int 0))) (fun _ => ret []))) (eV 1)) [.dat (.box 0), .dat (.int many), .emp, .emp] [.lst [.int c0, .int c1]] = .ok (.nx [.dat (.box 0), .dat (.int many), .dat (.int (c0 % many)), .emp]) [.lst [.int c0, .int c1]] := by
      unfold sSet
      refine bnd_ok (a := D.int (c0 % many)) (S' := [Bx.lst [.int c0, .int c1]]) ?_
      show (opt (modI (.int c0) (.int many))) _ = _
      rw [md]; rfl
    have s2 : sSetBox (eV 0) (eC (.int 0)) (e2 divI (eIxBox (eV 0) (eC (.int 0))) (eV 1)) [.dat (.box 0), .dat (.int many), .dat (.int (c0 % many)), .emp] [.lst [.int c0, .int c1]] = .ok (.nx [.dat (.box 0), .dat (.int many), .dat (.int (c0 % many)), .emp]) [.lst [.int (c0 / many), .int c1]] := by
      unfold sSetBox
      refine (bnd_ok (a := D.int (c0 / many)) (S' := [Bx.lst [.int c0, .int c1]]) ?_).trans rfl
      show (opt (divI (.int c0) (.int many))) _ = _
      rw [dv]; rfl
    unfold f__law_roll runFn
    refine (bnd_ok (a := Fl.rt (D.int (c0 % many))) (S' := [Bx.lst [.int (c0 / many), .int c1]]) ?_).trans rfl
    unfold b__law_roll sSeq
    refine (bnd_ok (a := Fl.rt (D.int (c0 % many))) (S' := [Bx.lst [.int (c0 / many), .int c1]]) ?_).trans rfl
    unfold sIf
    refine (bnd_ok t).trans ?_
    rw [if_pos rfl]
    refine (bnd_ok s1).trans ?_
    refine (bnd_ok s2).trans rfl
  · refine ⟨.int ((((c1 * 30871 + 7873) % 2147483399) * (((c1 * 30871 + 7873) % 2147483399) + 227) % 2147483563 / 809) % many), [.lst [.int c0, .int ((c1 * 30871 + 7873) % 2147483399)]], ?_, ⟨_, _, rfl⟩, _, rfl, Int.emod_nonneg _ (by omega), Int.emod_lt_of_pos _ h0⟩
    rw [decide_eq_false hc] at t
    generalize hq : (c1 * 30871 + 7873) % 2147483399 = c
    have hc1 : 0 ≤ c ∧ c < 2147483399 := by rw [← hq]; omega
    have m1 : mulA (.int c1) (.int 30871) = some (.int (c1 * 30871)) := mulA_int (.inl (by decide))
    have m2 : mulA (.int c) (.int (c + 227)) = some (.int (c * (c + 227))) := mulA_int (.inr (by omega))
    have s2 : sSetBox (eV 0) (eC (.int 1)) (e2 modI (eCall intI (aCons (e2 addA (e2 mulA (eIxBox (eV 0) (eC (.int 1))) (eC (.int 30871))) (eC (.int 7873))) (fun _ => ret []))) (eC (.int 2147483399))) [.dat (.box 0), .dat (.int many), .emp, .emp] [.lst [.int c0, .int c1]] = .ok (.nx [.dat (.box 0), .dat (.int many), .emp, .emp]) [.lst [.int c0, .int c]] := by
      unfold sSetBox
      refine (bnd_ok (a := D.int c) (S' := [Bx.lst [.int c0, .int c1]]) ?_).trans rfl
      rw [← hq]
      have a1' : e2 addA (e2 mulA (eIxBox (eV 0) (eC (.int 1))) (eC (.int 30871))) (eC (.int 7873)) [.dat (.box 0), .dat (.int many), .emp, .emp] [.lst [.int c0, .int c1]] = .ok (.int (c1 * 30871 + 7873)) [.lst [.int c0, .int c1]] := by
        show bnd (bnd (eIxBox (eV 0) (eC (.int 1)) [.dat (.box 0), .dat (.int many), .emp, .emp]) _) _ _ = _
        refine (bnd_ok (a := D.int (c1 * 30871)) (S' := [Bx.lst [.int c0, .int c1]]) ?_).trans rfl
        refine (bnd_ok (a := D.int c1) (S' := [Bx.lst [.int c0, .int c1]]) rfl).trans ?_
        show opt (mulA (.int c1) (.int 30871)) _ = _
        rw [m1]; rfl
      show bnd (bnd (bnd (e2 addA (e2 mulA (eIxBox (eV 0) (eC (.int 1))) (eC (.int 30871))) (eC (.int 7873)) [.dat (.box 0), .dat (.int many), .emp, .emp]) _) _) _ _ = _
      refine (bnd_ok (a := D.int (c1 * 30871 + 7873)) (S' := [Bx.lst [.int c0, .int c1]]) ?_).trans rfl
      exact (bnd_ok (a := [D.int (c1 * 30871 + 7873)]) (S' := [Bx.lst [.int c0, .int c1]]) ((bnd_ok a1').trans rfl)).trans rfl
    have s3 : sSet 3 (e2 modI (eCall intI (aCons (e2 mulA (eIxBox (eV 0) (eC (.int 1))) (e2 addA (eIxBox (eV 0) (eC (.int 1))) (eC (.int 227)))) (fun _ => ret []))) (eC (.int 2147483563))) [.dat (.box 0), .dat (.int many), .emp, .emp] [.lst [.int c0, .int c]] = .ok (.nx [.dat (.box 0), .dat (.int many), .emp, .dat (.int (c * (c + 227) % 2147483563))]) [.lst [.int c0, .int c]] := by
      unfold sSet
      refine (bnd_ok (a := D.int (c * (c + 227) % 2147483563)) (S' := [Bx.lst [.int c0, .int c]]) ?_).trans rfl
      have a1' : e2 mulA (eIxBox (eV 0) (eC (.int 1))) (e2 addA (eIxBox (eV 0) (eC (.int 1))) (eC (.int 227))) [.dat (.box 0), .dat (.int many), .emp, .emp] [.lst [.int c0, .int c]] = .ok (.int (c * (c + 227))) [.lst [.int c0, .int c]] := by
        show opt (mulA (.int c) (.int (c + 227))) _ = _
        rw [m2]; rfl
      show bnd (bnd (bnd (e2 mulA (eIxBox (eV 0) (eC (.int 1))) (e2 addA (eIxBox (eV 0) (eC (.int 1))) (eC (.int 227))) [.dat (.box 0), .dat (.int many), .emp, .emp]) _) _) _ _ = _
      refine (bnd_ok (a := D.int (c * (c + 227))) (S' := [Bx.lst [.int c0, .int c]]) ?_).trans rfl
      exact (bnd_ok (a := [D.int (c * (c + 227))]) (S' := [Bx.lst [.int c0, .int c]]) ((bnd_ok a1').trans rfl)).trans rfl
    have s4 : sRet (e2 modI (eCall intI (aCons (e2 divI (eV 3) (eC (.int 809))) (fun _ => ret []))) (eV 1)) [.dat (.box 0), .dat (.int many), .emp, .dat (.int (c * (c + 227) % 2147483563))] = ret (.rt (.int (c * (c + 227) % 2147483563 / 809 % many))) :=
      sRet_eq (e2_eq (eCall_eq (a1 (e2_eq rfl rfl rfl)) rfl) rfl (md _))
    unfold f__law_roll runFn
    refine (bnd_ok (a := Fl.rt (D.int (c * (c + 227) % 2147483563 / 809 % many))) (S' := [Bx.lst [.int c0, .int c]]) ?_).trans rfl
    unfold b__law_roll
    have z : sIf (tV (e2 gtI (eIxBox (eV 0) (eC (.int 0))) (eC (.int 0)))) (sSeq (sSet 2 (e2 modI (eCall intI (aCons (eIxBox (eV 0) (eC (.int 0))) (fun _ => ret []))) (eV 1))) (sSeq (sSetBox (eV 0) (eC (.int 0)) (e2 divI (eIxBox (eV 0) (eC (.int 0))) (eV 1))) (sRet (eV 2)))) sNil [.dat (.box 0), .dat (.int many), .emp, .emp] [.lst [.int c0, .int c1]] = .ok (.nx [.dat (.box 0), .dat (.int many), .emp, .emp]) [.lst [.int c0, .int c1]] := by
      unfold sIf
      refine (bnd_ok t).trans ?_
      rw [if_neg Bool.false_ne_true]
      rfl
    refine (bnd_ok z).trans ?_
    refine (bnd_ok s2).trans ?_
    refine (bnd_ok s3).trans ?_
    dsimp only
    rw [s4]
    rfl
/-- _law_some -/
theorem v_some (ds : List D) (h0 : ds ≠ []) (h1 : ds.length ≤ 1000000) : Ok (f__law_some [.box 0, .lst ds]) fun d => d ∈ ds := by
  have hp : 0 < ds.length := List.length_pos_iff.mpr h0
  refine Ok.run (Ok.ret' ?_)
  refine Ok.e2 (P1 := (· = D.lst ds)) (P2 := fun d => ∃ r : Int, d = .int r ∧ 0 ≤ r ∧ r < ds.length) (Ok.is rfl) ?_ ?_
  · refine Ok.fn (R := (· = [D.box 0, .int (ds.length : Int)])) ?_ fun l hl => by
      subst hl
      exact ⟨rfl, v_roll _ (by omega) (by omega)⟩
    have : aCons (eV 0) (aCons (eCall lenD (aCons (eV 1) (fun _ => ret []))) (fun _ => ret [])) (startE 2 [.box 0, .lst ds]) = ret [.box 0, .int (ds.length : Int)] := a2 rfl (eCall_eq (a1 rfl) rfl)
    show Ok (aCons (eV 0) (aCons (eCall lenD (aCons (eV 1) (fun _ => ret []))) (fun _ => ret [])) (startE 2 [.box 0, .lst ds])) _
    rw [this]
    exact Ok.ret rfl
  · rintro a b rfl ⟨r, rfl, hr0, hr1⟩
    obtain ⟨n, rfl⟩ := Int.eq_ofNat_of_zero_le hr0
    have hn : n < ds.length := by omega
    exact ⟨ds[n], atI_nat (List.getElem?_eq_getElem hn), List.getElem_mem hn⟩
theorem txt_add (l : List Sg) (m : List Sg) : txt l ++ txt m = txt (l ++ m) := by
  show Str.append _ _ = _
  unfold Str.append txt
  simp
theorem addA_txt (l m : List Sg) (h : l.length + m.length ≤ 1000000) : addA (.str (txt l)) (.str (txt m)) = some (.str (txt (l ++ m))) := by
  have : addS (.str (txt l)) (.str (txt m)) = some (.str (txt (l ++ m))) := by
    unfold addS
    dsimp only
    rw [txt_len, txt_len, if_pos (Nat.le_of_lt (small h)), txt_add]
  have e : addI (.str (txt l)) (.str (txt m)) = none := rfl
  simp only [addA, orS, e, this]
/-- _law_telling -/
theorem v_telling (most : Nat) (hm : most ≤ 1000) : Ok (f__law_telling [.box 0, .int (most : Int)]) fun d => ∃ l : List Sg, l.length ≤ most ∧ d = .str (txt l) := by
  refine Ok.run ?_
  refine Ok.seq (I := (· = [.dat (.box 0), .dat (.int (most : Int)), .dat (.str (txt [])), .emp])) ?_ ?_
  · have : sSet 2 (eC (.str "")) (startE 4 [.box 0, .int (most : Int)]) = ret (.nx [.dat (.box 0), .dat (.int (most : Int)), .dat (.str (txt [])), .emp]) := rfl
    exact Ok.eq this (Ok.ret ⟨_, rfl, rfl⟩)
  rintro ρ rfl
  refine Ok.seq (I := fun ρ => ∃ l : List Sg, l.length ≤ most ∧ ρ = [.dat (.box 0), .dat (.int (most : Int)), .dat (.str (txt l)), .emp]) ?_ ?_
  · refine Ok.for' (R := fun ds => ds.length ≤ most) ?_ ?_
    · unfold iR1
      refine Ok.bnd (Q := fun l => ∃ r : Int, l = [.int r] ∧ 0 ≤ r ∧ r < most + 1) ?_ ?_
      · refine (Ok.cons (P := fun d => ∃ r : Int, d = .int r ∧ 0 ≤ r ∧ r < most + 1) (R := (· = [])) ?_ (Ok.ret (Q := (· = [])) rfl)).imp ?_
        · refine Ok.fn (R := (· = [D.box 0, .int ((most : Int) + 1)])) (Ok.isL (a2 rfl (e2_eq rfl rfl (addA_int _ _)))) fun l hl => by
            subst hl
            exact ⟨rfl, v_roll _ (by omega) (by omega)⟩
        · rintro l ⟨d, ds, rfl, ⟨r, rfl, h⟩, rfl⟩
          exact ⟨r, rfl, h⟩
      · rintro l ⟨r, rfl, h0, h1⟩
        obtain ⟨n, rfl⟩ := Int.eq_ofNat_of_zero_le h0
        have ok : okR ((n : Nat) : Int) = true := by
          unfold okR
          simp only [Bool.and_eq_true, decide_eq_true_eq]
          omega
        dsimp only
        rw [if_pos ok]
        refine Ok.ret ?_
        rw [rng_map, List.length_map, List.length_range]
        omega
    · intro ds hds
      refine (Ok.forL (fun i ρ => ∃ l : List Sg, l.length = i ∧ ρ = [.dat (.box 0), .dat (.int (most : Int)), .dat (.str (txt l)), .emp]) ds 0 _ ⟨[], rfl, rfl⟩ ?_).imp ?_
      · rintro j d ρ hd ⟨l, hl, rfl⟩
        refine ⟨[.dat (.box 0), .dat (.int (most : Int)), .dat (.str (txt l)), .dat d], rfl, ?_⟩
        have hj : j < ds.length := (List.getElem?_eq_some_iff.mp hd).1
        refine (Ok.set (P := fun z => ∃ s : Sg, z = .str (txt (l ++ [s]))) ?_).imp ?_
        · refine Ok.e2 (P1 := (· = .str (txt l))) (P2 := fun z => ∃ s : Sg, z = .str (txt [s])) (Ok.is rfl) ?_ ?_
          · refine (Ok.fn (R := (· = [D.box 0, .lst [.str (txt [.f]), .str (txt [.f]), .str (txt [.l]), .str (txt [.r])]])) (Q := fun z => z ∈ [D.str (txt [.f]), .str (txt [.f]), .str (txt [.l]), .str (txt [.r])]) (Ok.isL (a2 rfl (eL_eq (aCons_eq rfl (a3 rfl rfl rfl))))) fun l hl => by
              subst hl
              exact ⟨rfl, v_some _ (by simp) (by simp)⟩).imp ?_
            intro z hz
            simp only [List.mem_cons, List.not_mem_nil, or_false] at hz
            rcases hz with rfl | rfl | rfl | rfl <;> exact ⟨_, rfl⟩
          · rintro a b rfl ⟨s, rfl⟩
            exact ⟨_, addA_txt l [s] (by simp; omega), s, rfl⟩
        · rintro fl ⟨ρ', rfl, z, ⟨s, rfl⟩, rfl⟩
          exact ⟨_, rfl, l ++ [s], by rw [List.length_append, hl]; rfl, rfl⟩
      · rintro fl ⟨ρ', rfl, l, hl, rfl⟩
        exact ⟨_, rfl, l, by omega, rfl⟩
  · rintro ρ ⟨l, hl, rfl⟩
    exact Ok.eq (sRet_eq (d := .str (txt l)) rfl) (Ok.ret ⟨_, rfl, l, hl, rfl⟩)
end G48

set_option Elab.async false
set_option linter.all false
set_option maxRecDepth 100000
set_option autoImplicit false
namespace G48
open PySem PySem.Spec L2 Dl
open PyProof.Rows hiding St
set_option maxHeartbeats 0
/-! ### which times bring home -/
def hm (l : List Sg) (m : Nat) : Bool := decide (pw (P l) m = home)
theorem hm_iff {l : List Sg} {m : Nat} : hm l m = true ↔ pw (P l) m = home := decide_eq_true_iff
theorem hm4_zero {l : List Sg} (h : pw (P l) 4 ≠ home) : (P l).w = 0 ∧ ((P l).e ≠ 0 ∨ (P l).n ≠ 0) := by
  have hw : (P l).w = 0 := Classical.byContradiction fun z => h (pw_four (P_ok l) z)
  refine ⟨hw, Classical.byContradiction fun z => h ?_⟩
  have : (P l).e = 0 ∧ (P l).n = 0 := ⟨Classical.byContradiction fun q => z (.inl q), Classical.byContradiction fun q => z (.inr q)⟩
  rw [pw_w0 hw, this.1, this.2]
  rfl
theorem away {l : List Sg} (h : pw (P l) 4 ≠ home) {m : Nat} (hm' : 0 < m) : hm l m = false := by
  obtain ⟨hw, hne⟩ := hm4_zero h
  unfold hm
  rw [decide_eq_false]
  intro z
  rw [pw_w0 hw] at z
  have h1 : (P l).e * m = 0 := congrArg P3.e z
  have h2 : (P l).n * m = 0 := congrArg P3.n z
  rcases hne with q | q
  · rcases Int.mul_eq_zero.mp h1 with r | r
    · exact q r
    · omega
  · rcases Int.mul_eq_zero.mp h2 with r | r
    · exact q r
    · omega
def homeL (l : List Sg) : List Nat := [1, 2, 3, 4, 5, 6, 7, 8].filter (hm l)
theorem homeL_none {l : List Sg} (h : pw (P l) 4 ≠ home) : homeL l = [] ∧ [1, 2, 4].filter (hm l) = [] := by
  have a : ∀ m, 0 < m → hm l m = false := fun m => away h
  unfold homeL
  simp [List.filter_cons, a]
theorem homeL_some {l : List Sg} (h : pw (P l) 4 = home) : ∃ (k : Nat) (r s : List Nat), homeL l = k :: r ∧ [1, 2, 4].filter (hm l) = k :: s ∧ (k = 1 ∨ k = 2 ∨ k = 4) ∧ pw (P l) k = home := by
  have h4 : hm l 4 = true := hm_iff.mpr h
  unfold homeL
  by_cases c1 : hm l 1 = true
  · exact ⟨1, _, _, by rw [List.filter_cons_of_pos c1], by rw [List.filter_cons_of_pos c1], .inl rfl, hm_iff.mp c1⟩
  by_cases c2 : hm l 2 = true
  · exact ⟨2, _, _, by rw [List.filter_cons_of_neg c1, List.filter_cons_of_pos c2], by rw [List.filter_cons_of_neg c1, List.filter_cons_of_pos c2], .inr (.inl rfl), hm_iff.mp c2⟩
  have c3 : ¬ hm l 3 = true := fun z => c1 (hm_iff.mpr (by
    have e : pw (P l) 4 = comp (pw (P l) 3) (pw (P l) 1) := pw_add (P_ok l) 3 1
    rw [hm_iff.mp z, h, home_comp (pw_ok (P_ok l) 1)] at e
    exact e.symm))
  exact ⟨4, _, _, by rw [List.filter_cons_of_neg c1, List.filter_cons_of_neg c2, List.filter_cons_of_neg c3, List.filter_cons_of_pos h4], by rw [List.filter_cons_of_neg c1, List.filter_cons_of_neg c2, List.filter_cons_of_pos h4], .inr (.inr rfl), h⟩
/-! ### the rows of the eight-fold walk -/
def R (l : List Sg) : List P3 := scan home (rep l 8)
theorem R_len (l : List Sg) : (R l).length = 8 * l.length + 1 := by unfold R; rw [scan_len, rep_len]
theorem R_at {l : List Sg} {m : Nat} (h : m ≤ 8) : (R l)[m * l.length]? = some (pw (P l) m) := by
  unfold R
  rw [scan_get _ _ _ (by rw [rep_len]; exact Nat.mul_le_mul_right _ h)]
  congr 1
  rcases Nat.lt_or_ge m 8 with q | q
  · have := walk_rep_take l q (Nat.zero_le l.length)
    rw [Nat.add_zero, List.take_zero] at this
    rw [this]
    exact comp_home (pw_ok (P_ok l) m)
  · have : m = 8 := by omega
    subst this
    rw [List.take_of_length_le (by rw [rep_len]; exact Nat.le_refl _), walk_rep]
    rfl
/-- a place of the walk: after t whole turns, then i signs -/
def pl (l : List Sg) (t i : Nat) : P3 := comp (pw (P l) t) (walk home (l.take i))
theorem pl_full (l : List Sg) (t : Nat) : pl l t l.length = pw (P l) (t + 1) := by
  unfold pl
  rw [List.take_of_length_le (Nat.le_refl _)]
  rfl
theorem pl_zero (l : List Sg) (t : Nat) : pl l t 0 = pw (P l) t := comp_home (pw_ok (P_ok l) t)
theorem R_mem {l : List Sg} {k : Nat} (hk : 0 < k) (hk8 : k ≤ 8) {q : P3} : q ∈ (R l).take (k * l.length + 1) ↔ ∃ t i, t < k ∧ i ≤ l.length ∧ q = pl l t i := by
  constructor
  · intro h
    obtain ⟨j, hj, e⟩ := List.getElem_of_mem h
    rw [List.length_take, R_len] at hj
    have hj1 : j ≤ k * l.length := by omega
    have hj8 : j ≤ 8 * l.length := Nat.le_trans hj1 (Nat.mul_le_mul_right _ hk8)
    have e2 : (R l)[j]? = some q := by
      rw [List.getElem_take] at e
      rw [List.getElem?_eq_getElem (by rw [R_len]; omega), e]
    unfold R at e2
    rw [scan_get _ _ _ (by rw [rep_len]; exact hj8)] at e2
    have e3 := (Option.some.inj e2).symm
    rcases Nat.eq_zero_or_pos l.length with z | z
    · rw [z] at hj1
      have : j = 0 := by omega
      subst this
      refine ⟨0, 0, hk, Nat.zero_le _, ?_⟩
      rw [e3]
      exact (comp_home home_ok).symm
    · rcases Nat.lt_or_ge j (k * l.length) with q1 | q1
      · have hd : j / l.length < k := (Nat.div_lt_iff_lt_mul z).mpr q1
        have hr : j % l.length < l.length := Nat.mod_lt _ z
        refine ⟨j / l.length, j % l.length, hd, Nat.le_of_lt hr, ?_⟩
        have := walk_rep_take l (n := 8) (t := j / l.length) (i := j % l.length) (by omega) (Nat.le_of_lt hr)
        rw [Nat.mul_comm (j / l.length), Nat.div_add_mod] at this
        rw [e3, this]
        rfl
      · have hj2 : j = k * l.length := by omega
        refine ⟨k - 1, l.length, by omega, Nat.le_refl _, ?_⟩
        rw [pl_full, Nat.sub_add_cancel hk]
        have := R_at (l := l) hk8
        unfold R at this
        rw [scan_get _ _ _ (by rw [rep_len]; omega), ← hj2] at this
        rw [e3]
        exact Option.some.inj this
  · rintro ⟨t, i, ht, hi, rfl⟩
    have ht8 : t < 8 := by omega
    have hle : t * l.length + i ≤ k * l.length := by
      have : (t + 1) * l.length ≤ k * l.length := Nat.mul_le_mul_right _ (by omega)
      rw [Nat.succ_mul] at this
      omega
    have hle8 : k * l.length ≤ 8 * l.length := Nat.mul_le_mul_right _ hk8
    have g : (R l)[t * l.length + i]? = some (pl l t i) := by
      unfold R
      rw [scan_get _ _ _ (by rw [rep_len]; omega), walk_rep_take l ht8 hi]
      rfl
    apply List.mem_of_getElem? (i := t * l.length + i)
    rw [List.getElem?_take_of_lt (by omega)]
    exact g
theorem farL_mem {l : List Sg} {q : P3} : q ∈ farL l ↔ ∃ t i, t < 4 ∧ i ≤ l.length ∧ q = pl l t i := by
  unfold farL
  simp only [List.mem_flatMap, List.mem_range, List.mem_map]
  constructor
  · rintro ⟨t, ht, r, hr, rfl⟩
    obtain ⟨i, hi, rfl⟩ := scan_mem.mp hr
    exact ⟨t, i, ht, hi, rfl⟩
  · rintro ⟨t, i, ht, hi, rfl⟩
    exact ⟨t, ht, _, scan_mem.mpr ⟨i, hi, rfl⟩, rfl⟩
def near (l : List Sg) : Int := mx (((R l).take (4 * l.length + 1)).map nrm)
def far (l : List Sg) : Int := mx ((R l).map nrm)
theorem take8 (l : List Sg) : (R l).take (8 * l.length + 1) = R l := List.take_of_length_le (by rw [R_len]; exact Nat.le_refl _)
theorem near_ne (l : List Sg) : ((R l).take (4 * l.length + 1)).map nrm ≠ [] := fun z => by
  have := congrArg List.length z
  rw [List.length_map, List.length_take, R_len] at this
  simp at this
theorem far_ne (l : List Sg) : (R l).map nrm ≠ [] := fun z => by
  have := congrArg List.length z
  rw [List.length_map, R_len] at this
  simp at this
theorem near_far (l : List Sg) : mx ((farL l).map nrm) = near l := by
  unfold near
  refine (mx_eq (near_ne l) fun y => ?_).symm
  simp only [List.mem_map]
  constructor
  · rintro ⟨q, hq, rfl⟩
    exact ⟨q, farL_mem.mpr ((R_mem (by decide) (by decide)).mp hq), rfl⟩
  · rintro ⟨q, hq, rfl⟩
    exact ⟨q, (R_mem (by decide) (by decide)).mpr (farL_mem.mp hq), rfl⟩
theorem far_near {l : List Sg} (h : pw (P l) 4 = home) : far l = near l := by
  unfold far near
  refine mx_eq (far_ne l) fun y => ?_
  simp only [List.mem_map]
  constructor
  · rintro ⟨q, hq, rfl⟩
    rw [← take8] at hq
    obtain ⟨t, i, ht, hi, rfl⟩ := (R_mem (by decide) (by decide)).mp hq
    refine ⟨pl l (t % 4) i, (R_mem (by decide) (by decide)).mpr ⟨t % 4, i, Nat.mod_lt _ (by decide), hi, rfl⟩, ?_⟩
    unfold pl
    rw [← pw_per (P_ok l) h]
  · rintro ⟨q, hq, rfl⟩
    exact ⟨q, List.mem_of_mem_take hq, rfl⟩
/-! ### the drift -/
theorem ab_cases (x : Int) : (0 ≤ x ∧ ab x = x) ∨ (x < 0 ∧ ab x = -x) := by
  unfold ab
  by_cases h : x < 0
  · exact .inr ⟨h, if_pos h⟩
  · exact .inl ⟨by omega, if_neg h⟩
theorem ab_le {x y : Int} (h : ab x ≤ y) : x ≤ y ∧ -x ≤ y := by rcases ab_cases x with z | z <;> omega
theorem step_near (p : P3) (s : Sg) (h : p.ok) : ab ((step p s).e - p.e) + ab ((step p s).n - p.n) ≤ 1 := by
  obtain ⟨e, n, w⟩ := p
  cases s
  · rcases h with h | h | h | h <;> (dsimp only at h; subst h; simp [step, comp, unit, rotE, rotN, ab]) <;> (repeat' split) <;> omega
  · rw [step_l]; simp [ab]
  · rw [step_r]; simp [ab]
theorem ab_tri (x y z : Int) : ab (x - z) ≤ ab (x - y) + ab (y - z) := by
  rcases ab_cases (x - z) with a | a <;> rcases ab_cases (x - y) with b | b <;> rcases ab_cases (y - z) with c | c <;> omega
theorem walk_near : ∀ (l : List Sg) (p : P3), p.ok → ab ((walk p l).e - p.e) + ab ((walk p l).n - p.n) ≤ l.length
  | [], p, _ => by simp [walk, ab]
  | s :: l, p, h => by
    have h1 := step_near p s h
    have h2 := walk_near l (step p s) (step_ok h s)
    have h3 := ab_tri (walk (step p s) l).e (step p s).e p.e
    have h4 := ab_tri (walk (step p s) l).n (step p s).n p.n
    show ab ((walk (step p s) l).e - p.e) + ab ((walk (step p s) l).n - p.n) ≤ ((l.length + 1 : Nat) : Int)
    omega
theorem drift {a b x y N : Int} {t : Int} (ht0 : 0 ≤ t) (ht : t ≤ 3) (h12 : ab a + ab b + (ab (x - a) + ab (y - b)) ≤ 12) (hne : x ≠ 0 ∨ y ≠ 0) (hN : N = ab (a + x * t) + ab (b + y * t))
    (h7 : ab (a + x * 7) + ab (b + y * 7) ≤ N) (h8 : ab (x * 8) + ab (y * 8) ≤ N) : False := by
  have ta : t = 0 ∨ t = 1 ∨ t = 2 ∨ t = 3 := by omega
  have a1 := ab_cases a
  have key : ∀ z : Int, z ≤ ab z ∧ -z ≤ ab z := fun z => by rcases ab_cases z with q | q <;> omega
  have k1 := key a
  have k2 := key b
  have k3 := key (x - a)
  have k4 := key (y - b)
  have k5 := key (a + x * 7)
  have k6 := key (b + y * 7)
  have k7 := key (x * 8)
  have k8 := key (y * 8)
  clear a1 key
  generalize ab a = A at *
  generalize ab b = B at *
  generalize ab (x - a) = C at *
  generalize ab (y - b) = DD at *
  generalize ab (a + x * 7) = E7 at *
  generalize ab (b + y * 7) = F7 at *
  generalize ab (x * 8) = E8 at *
  generalize ab (y * 8) = F8 at *
  rcases ta with rfl | rfl | rfl | rfl <;> rcases ab_cases (a + x * _) with ⟨_, c⟩ | ⟨_, c⟩ <;> rcases ab_cases (b + y * _) with ⟨_, d⟩ | ⟨_, d⟩ <;> (rw [c, d] at hN; clear c d; omega)
theorem pl_w0 {l : List Sg} (hw : (P l).w = 0) (t i : Nat) : (pl l t i).e = (walk home (l.take i)).e + (P l).e * t ∧ (pl l t i).n = (walk home (l.take i)).n + (P l).n * t := by
  unfold pl
  rw [pw_w0 hw]
  simp only [comp, rotE, rotN, if_pos]
  omega
theorem far_gt {l : List Sg} (hl : l.length ≤ 12) (h : pw (P l) 4 ≠ home) : near l < far l := by
  obtain ⟨hw, hne⟩ := hm4_zero h
  refine Int.not_le.mp fun hle => ?_
  have h1 := mx_mem (near_ne l)
  have h2 := mx_mem (far_ne l)
  obtain ⟨q, hq, e⟩ := List.mem_map.mp h1.1
  obtain ⟨t, i, ht, hi, rfl⟩ := (R_mem (by decide) (by decide)).mp hq
  have inR : ∀ t i, t < 8 → i ≤ l.length → nrm (pl l t i) ≤ near l := fun t i ht hi => by
    have m : pl l t i ∈ R l := by rw [← take8]; exact (R_mem (by decide) (by decide)).mpr ⟨t, i, ht, hi, rfl⟩
    have := h2.2 _ (List.mem_map.mpr ⟨_, m, rfl⟩)
    have e2 : mx ((R l).map nrm) = far l := rfl
    omega
  have e1 : nrm (pl l t i) = near l := e
  have g7 := inR 7 i (by decide) hi
  have g8 := inR 7 l.length (by decide) (Nat.le_refl _)
  obtain ⟨a1, a2⟩ := pl_w0 hw t i
  obtain ⟨b1, b2⟩ := pl_w0 hw 7 i
  obtain ⟨c1, c2⟩ := pl_w0 hw 7 l.length
  rw [List.take_of_length_le (Nat.le_refl l.length)] at c1 c2
  have n1 := walk_near (l.take i) home home_ok
  have n2 := walk_near (l.drop i) (walk home (l.take i)) (walk_ok home_ok)
  rw [← walk_append, List.take_append_drop] at n2
  have len1 : (l.take i).length = i := by rw [List.length_take]; omega
  have len2 : (l.drop i).length = l.length - i := List.length_drop
  rw [len1] at n1
  rw [len2] at n2
  unfold nrm at e1 g7 g8
  rw [a1, a2] at e1
  rw [b1, b2] at g7
  rw [c1, c2] at g8
  have hp : walk home l = P l := rfl
  rw [hp] at c1 c2 g8 n2
  rw [show home.e = 0 from rfl, show home.n = 0 from rfl, Int.sub_zero, Int.sub_zero] at n1
  refine drift (a := (walk home (l.take i)).e) (b := (walk home (l.take i)).n) (x := (P l).e) (y := (P l).n) (N := near l) (t := (t : Int)) (by omega) (by omega) (by omega) hne e1.symm g7 ?_
  have z1 : (P l).e * 8 = (P l).e + (P l).e * ((7 : Nat) : Int) := by omega
  have z2 : (P l).n * 8 = (P l).n + (P l).n * ((7 : Nat) : Int) := by omega
  rw [z1, z2]
  exact g8
theorem pw_small {l : List Sg} (hl : l.length ≤ 12) {k : Nat} (hk : k ≤ 4) : small3 (pw (P l) k) := by
  have := walk_near (rep l k) home home_ok
  have e : walk home (rep l k) = pw (P l) k := walk_rep l k
  rw [e, rep_len] at this
  have h2 : k * l.length ≤ 4 * 12 := Nat.mul_le_mul hk hl
  have h3 := ab_cases ((pw (P l) k).e - home.e)
  have h4 := ab_cases ((pw (P l) k).n - home.n)
  have h5 : home.e = 0 := rfl
  have h6 : home.n = 0 := rfl
  unfold small3
  omega
end G48

set_option Elab.async false
set_option linter.all false
set_option maxRecDepth 100000
set_option autoImplicit false
namespace G48
open PySem PySem.Spec L2 Dl
open PyProof.Rows hiding St
set_option maxHeartbeats 0
theorem foldl_rep : ∀ (n : Nat) (a acc : Array Nat), ((List.replicate n a).foldl (· ++ ·) acc).toList = acc.toList ++ (List.replicate n a.toList).flatten
  | 0, a, acc => by simp
  | n + 1, a, acc => by
    rw [List.replicate_succ, List.foldl_cons, foldl_rep n a, List.replicate_succ, List.flatten_cons, Array.toList_append, List.append_assoc]
theorem mulA_txt (l : List Sg) (n : Nat) (h1 : 1 ≤ n) (hl : l.length * n ≤ 1000000) (hn : n ≤ 1000000) : mulA (.str (txt l)) (.int (n : Int)) = some (.str (txt (rep l n))) := by
  have e1 : mulI (.str (txt l)) (.int (n : Int)) = none := rfl
  have e2 : mulS (.str (txt l)) (.int (n : Int)) = some (.str (txt (rep l n))) := by
    unfold mulS
    dsimp only
    rw [if_neg (by omega), if_pos (decide_eq_true (by omega)), Int.toNat_natCast, txt_len, if_pos (decide_eq_true hl)]
    congr 2
    by_cases c : (((n : Int) == 1) || (l.length == 0)) = true
    · rw [if_pos c]
      simp only [Bool.or_eq_true, beq_iff_eq] at c
      rcases c with c | c
      · have : n = 1 := by omega
        subst this
        simp [rep]
      · have : l = [] := List.length_eq_zero_iff.mp c
        subst this
        simp [rep]
    · rw [if_neg c]
      unfold txt
      congr 1
      apply Array.toList_inj.mp
      rw [foldl_rep]
      simp [rep, List.map_flatten]
  simp only [mulA, orS, e1, e2]
theorem row_ix {l : List Sg} {m : Nat} (h : m ≤ 8) : ixD (.lst ((R l).map pD)) (.int ((m * l.length : Nat) : Int)) = some (pD (pw (P l) m)) := by
  have : ((R l).map pD)[m * l.length]? = some (pD (pw (P l) m)) := by rw [List.getElem?_map, R_at h]; rfl
  exact atI_nat this
theorem mul_nat (a b : Nat) (h : b < 2 ^ 64) : mulA (.int (a : Int)) (.int (b : Int)) = some (.int ((a * b : Nat) : Int)) := by
  rw [mulA_int (.inl (by omega)), Int.natCast_mul]
abbrev natD (n : Nat) : D := .int (n : Int)
abbrev ev (l : List Sg) (s4 s5 s6 s7 s8 s9 s10 s11 s12 : Slot) : Dl.Env := [.dat (.box 0), .dat (.str (txt l)), .dat (.lst ((R l).map pD)), .dat (.int (l.length : Int)), s4, s5, s6, s7, s8, s9, s10, s11, s12]
theorem cut_nat {α : Type} (xs : List α) (k : Nat) : cutL xs none (some (k : Int)) = xs.take k := by
  unfold cutL
  rw [HT.sIx_none, HT.sIx_nat, List.drop_zero, Nat.sub_zero]
  rcases Nat.le_total k xs.length with h | h
  · rw [Nat.min_eq_left h]
  · rw [Nat.min_eq_right h, List.take_of_length_le h, List.take_length]
def c4 (l : List Sg) : Bool := decide (pw (P l) 4 = home)
theorem homeL_ne (l : List Sg) : decide ((homeL l).map (fun n : Nat => (n : Int)) ≠ []) = c4 l := by
  unfold c4
  by_cases h : pw (P l) 4 = home
  · obtain ⟨k, r, s, e, _⟩ := homeL_some h
    rw [e]
    simp [h]
  · rw [(homeL_none h).1]
    simp [h]
theorem homeL_eq (l : List Sg) : decide ((homeL l).map (fun n : Nat => (n : Int)) = []) = !c4 l := by
  rw [← homeL_ne]
  cases (homeL l).map (fun n : Nat => (n : Int)) <;> rfl
theorem lstNat (xs : List Nat) : (D.lst (xs.map natD)) = .lst ((xs.map fun n : Nat => (n : Int)).map D.int) := by rw [List.map_map]; rfl
section
variable {l : List Sg} {s4 s6 s7 s8 s9 s10 s11 s12 : Slot}
abbrev s5 (l : List Sg) : Slot := .dat (.lst ((homeL l).map natD))
theorem t_ne : tV (e2 neD (eV 5) (eL (fun _ => ret []))) (ev l s4 (s5 l) s6 s7 s8 s9 s10 s11 s12) = ret (c4 l) := by
  refine tV_eq (e2_eq (d := .lst ((homeL l).map natD)) rfl (eL_eq rfl) ?_)
  rw [lstNat, ne_nil_ints, homeL_ne]
theorem t_eq : tV (e2 eqD (eV 5) (eL (fun _ => ret []))) (ev l s4 (s5 l) s6 s7 s8 s9 s10 s11 s12) = ret (!c4 l) := by
  refine tV_eq (e2_eq (d := .lst ((homeL l).map natD)) rfl (eL_eq rfl) ?_)
  rw [lstNat, eq_nil_ints, homeL_eq]
end
theorem first_same (l : List Sg) : firstD ([1, 2, 4].filter fun m => decide (pw (P l) m = home)) = firstD (homeL l) := by
  show firstD ([1, 2, 4].filter (hm l)) = _
  by_cases h : pw (P l) 4 = home
  · obtain ⟨k, r, s, e1, e2, _⟩ := homeL_some h
    rw [e1, e2]; rfl
  · rw [(homeL_none h).1, (homeL_none h).2]
def fD (l : List Sg) : D := if c4 l = true then .int (near l) else .non
theorem v_far (l : List Sg) (hl : l.length ≤ 60) : f_farthest [.str (txt l)] = ret (fD l) := by
  rw [v_farthest l hl, near_far]
  unfold fD c4
  by_cases h : pw (P l) 4 = home <;> simp [h]
theorem sm_fD (n : Nat) (l : List Sg) : Sm n (fD l) := by
  unfold fD
  split
  · exact .int _ _
  · exact .non _
theorem Ok.par {k1 k2 : Kd} {i j : Nat} {f1 f2 : Dl.Env → M D} {ρ : Dl.Env} {P1 P2 : D → Prop} (h1 : Ok (f1 ρ) P1) (h2 : Ok (f2 ρ) P2) : Ok (sPar k1 k2 i j f1 f2 ρ) fun fl => ∃ ρ', fl = .nx ρ' ∧ ∃ d1 d2, P1 d1 ∧ P2 d2 ∧ ρ' = (ρ.set i (mkS k1 d1)).set j (mkS k2 d2) := by
  unfold sPar
  exact Ok.bnd h1 fun d1 hd1 => Ok.bnd h2 fun d2 hd2 => Ok.ret ⟨_, rfl, d1, d2, hd1, hd2, rfl⟩
theorem neD_int (a b : Int) : neD (.int a) (.int b) = some (.bl (!(a == b))) := by rfl
theorem neD_self (a : Int) : neD (.int a) (.int a) = some (.bl false) := by rw [neD_int]; simp
theorem P_twice (l : List Sg) : P (l ++ l) = pw (P l) 2 := by
  unfold P
  rw [walk_append, walk_comp l (walk_ok home_ok)]
  show _ = comp (comp home _) _
  rw [home_comp (walk_ok home_ok)]
theorem roll_nat (n : Int) (h0 : 0 < n) (h1 : n < 2 ^ 64) : Ok (f__law_roll [.box 0, .int n]) fun d => ∃ r : Nat, d = natD r ∧ (r : Int) < n :=
  (v_roll n h0 h1).imp fun d ⟨r, e, a, b⟩ => by
    obtain ⟨m, rfl⟩ := Int.eq_ofNat_of_zero_le a
    exact ⟨m, e, b⟩
theorem v_law_right : Ok (f__law_right [.box 0]) (· = .bl true) := by
  refine (Ok.run (P := (· = .bl true)) ?_)
  refine Ok.seq (I := fun ρ => ∃ l : List Sg, l.length ≤ 12 ∧ ρ = [.dat (.box 0), .dat (.str (txt l)), .emp, .emp, .emp, .emp, .emp, .emp, .emp, .emp, .emp, .emp, .emp]) ?_ ?_
  · refine (Ok.set (P := fun d => ∃ l : List Sg, l.length ≤ 12 ∧ d = .str (txt l)) (Ok.fn (R := (· = [D.box 0, .int ((12 : Nat) : Int)])) (Ok.isL (a2 rfl rfl)) fun l hl => by subst hl; exact ⟨rfl, v_telling 12 (by decide)⟩)).imp ?_
    rintro fl ⟨ρ', rfl, d, ⟨l, hl, rfl⟩, rfl⟩
    exact ⟨_, rfl, l, hl, rfl⟩
  rintro ρ ⟨l, hl, rfl⟩
  -- rows, size
  refine Ok.eq (sSeq_nx (sSet_eq (d := .lst ((R l).map pD)) (eFn_eq (a1 (e2_eq rfl rfl (mulA_txt l 8 (by decide) (by omega) (by decide)))) (v_law_poses (rep l 8) (by rw [rep_len]; omega))))) ?_
  refine Ok.eq (sSeq_nx (sSet_eq (eCall_eq (a1 rfl) (len_txt (by omega))))) ?_
  -- the nine poses
  have loop := forL_pre (fg := gN 4) (cl := [4]) (fb := sIf (tN (tV (eFn 2 (f__law_same 8) (aCons (eFn 2 f_pose_behind (aCons (eV 1) (aCons (eV 4) (fun _ => ret [])))) (aCons (e2 ixD (eV 2) (e2 mulA (eV 4) (eV 3))) (fun _ => ret [])))))) (sRet (eC (.bl false))) sNil)
    (fun _ : List Nat => ev l .emp .emp .emp .emp .emp .emp .emp .emp .emp) natD (List.range 9) fun m b r hm => by
      have hb : b ≤ 8 := by
        have : b ∈ List.range 9 := by rw [hm]; simp
        have := List.mem_range.mp this
        omega
      refine ⟨ev l (.dat (natD b)) .emp .emp .emp .emp .emp .emp .emp .emp, ev l (.dat (natD b)) .emp .emp .emp .emp .emp .emp .emp .emp, rfl, ?_, rfl⟩
      exact (sIf_f (same_eq (a2 (eFn_eq (a2 rfl rfl) (v_pose_behind l (by omega) b (by omega))) (e2_eq rfl (e2_eq rfl rfl (mul_nat b l.length (by omega))) (row_ix hb))) (sm_pose 6 _))).trans rfl
  refine Ok.eq (sSeq_nx ((sFor_eq (iR1_eq (k := 9) (a1 rfl) (by decide))).trans loop)) ?_
  -- home
  refine Ok.eq (sSeq_nx (sSet_eq (d := .lst ((homeL l).map natD)) (eLc_filter natD (hm l) (xs := [1, 2, 3, 4, 5, 6, 7, 8]) (iR2_eq (a := 1) (k := 8) (a2 rfl rfl) (by decide)) (by decide) fun m hm8 => by
    have h8 : m ≤ 8 := by
      simp only [List.mem_cons, List.not_mem_nil, or_false] at hm8
      omega
    exact ⟨_, rfl, tV_eq (e2_eq (e2_eq rfl (e2_eq rfl rfl (mul_nat m l.length (by omega))) (row_ix h8)) (eT_eq (a3 rfl rfl rfl)) (eqD_pose _ home)), rfl⟩))) ?_
  -- far, near
  have nrmL : ∀ (qs : List P3), (qs.map fun q => D.int (nrm q)) = (qs.map nrm).map D.int := fun qs => by rw [List.map_map]; rfl
  have lcF : eLc [9, 10, 11] (iAny (eV 2)) (gT 3 (gsC (gN 9) (gsC (gN 10) (gsC (gN 11) gsN)))) tYs (e2 addA (eCall absI (aCons (eV 9) (fun _ => ret []))) (eCall absI (aCons (eV 10) (fun _ => ret [])))) (ev l .emp (s5 l) .emp .emp .emp .emp .emp .emp .emp) = ret (.lst (((R l).map nrm).map D.int)) := by
    rw [← nrmL]
    exact eLc_map pD (fun q => D.int (nrm q)) (iAny_l rfl) (by rw [R_len]; omega) fun q _ => ⟨_, rfl, e2_eq (eCall_eq (a1 rfl) (abs_eq _)) (eCall_eq (a1 rfl) (abs_eq _)) (addA_int _ _)⟩
  refine Ok.eq (sSeq_nx (sSet_eq (d := .int (far l)) (eCall_eq (a1 lcF) (maxI_eq (far_ne l))))) ?_
  have slc : eSl (eV 2) oNone (oSome (e2 addA (e2 mulA (eC (.int 4)) (eV 3)) (eC (.int 1)))) (ev l .emp (s5 l) (.dat (.int (far l))) .emp .emp .emp .emp .emp .emp) = ret (.lst (((R l).take (4 * l.length + 1)).map pD)) := by
    have k : e2 addA (e2 mulA (eC (.int 4)) (eV 3)) (eC (.int 1)) (ev l .emp (s5 l) (.dat (.int (far l))) .emp .emp .emp .emp .emp .emp) = ret (.int ((4 * l.length + 1 : Nat) : Int)) :=
      e2_eq (e2_eq rfl rfl (mul_nat 4 l.length (by omega))) rfl (addA_int _ _)
    unfold eSl
    show bnd (ret (D.lst ((R l).map pD))) _ = _
    rw [bnd_ret]
    show bnd (ret none) _ = _
    rw [bnd_ret]
    unfold oSome
    rw [k, bnd_ret]
    show bnd (ret (some _)) _ = _
    rw [bnd_ret]
    show opt (some (D.lst (cutL ((R l).map pD) none (some ((4 * l.length + 1 : Nat) : Int))))) = _
    rw [cut_nat, List.map_take]
    rfl
  have lcN : eLc [9, 10, 11] (iAny (eSl (eV 2) oNone (oSome (e2 addA (e2 mulA (eC (.int 4)) (eV 3)) (eC (.int 1)))))) (gT 3 (gsC (gN 9) (gsC (gN 10) (gsC (gN 11) gsN)))) tYs (e2 addA (eCall absI (aCons (eV 9) (fun _ => ret []))) (eCall absI (aCons (eV 10) (fun _ => ret [])))) (ev l .emp (s5 l) (.dat (.int (far l))) .emp .emp .emp .emp .emp .emp) = ret (.lst ((((R l).take (4 * l.length + 1)).map nrm).map D.int)) := by
    rw [← nrmL]
    exact eLc_map pD (fun q => D.int (nrm q)) (iAny_l slc) (by rw [List.length_take, R_len]; omega) fun q _ => ⟨_, rfl, e2_eq (eCall_eq (a1 rfl) (abs_eq _)) (eCall_eq (a1 rfl) (abs_eq _)) (addA_int _ _)⟩
  refine Ok.eq (sSeq_nx (sSet_eq (d := .int (near l)) (eCall_eq (a1 lcN) (maxI_eq (near_ne l))))) ?_
  -- rounds_of, farthest
  have due1 : eIf (tV (e2 neD (eV 5) (eL (fun _ => ret [])))) (eV 7) (eC .non) (ev l .emp (s5 l) (.dat (.int (far l))) (.dat (.int (near l))) .emp .emp .emp .emp .emp) = ret (fD l) := by
    unfold fD
    cases h : c4 l
    · exact (eIf_f (t_ne.trans (by rw [h]))).trans rfl
    · exact (eIf_t (t_ne.trans (by rw [h]))).trans rfl
  refine Ok.eq (sSeq_nx ((sIf_f (same_eq (d := .tup [firstD (homeL l), fD l]) (a2 (eT_eq (a2 (eFn_eq (a1 rfl) ((v_rounds_of l (by omega)).trans (by rw [first_same]))) (eFn_eq (a1 rfl) (v_far l (by omega))))) (eT_eq (a2 (firstD_eq rfl) due1))) (.tup 6 _ (fun d hd => by
    simp only [List.mem_cons, List.not_mem_nil, or_false] at hd
    rcases hd with rfl | rfl
    · exact sm_first _ _
    · exact sm_fD _ _) (by simp)))).trans rfl)) ?_
  -- the drift
  have hk0 : ∀ (k : Nat) (r : List Nat) (_ : homeL l = k :: r) (s4' s6' s7' s8' s9' s10' s11' s12' : Slot), e2 ixD (eV 5) (eC (.int 0)) (ev l s4' (s5 l) s6' s7' s8' s9' s10' s11' s12') = ret (natD k) := fun k r e s4' s6' s7' s8' s9' s10' s11' s12' =>
    e2_eq rfl rfl (show atI _ (0 : Int) = _ from atI_nat (j := 0) (by rw [e]; rfl))
  have chk : tO (tA (tV (e2 neD (eV 5) (eL (fun _ => ret [])))) (tO (tV (e2 neD (eV 6) (eV 7))) (tV (e2 notInA (e2 ixD (eV 5) (eC (.int 0))) (eT (aCons (eC (.int 1)) (aCons (eC (.int 2)) (aCons (eC (.int 4)) (fun _ => ret []))))))))) (tA (tV (e2 eqD (eV 5) (eL (fun _ => ret [])))) (tV (e2 leI (eV 6) (eV 7)))) (ev l .emp (s5 l) (.dat (.int (far l))) (.dat (.int (near l))) .emp .emp .emp .emp .emp) = ret false := by
    by_cases h : pw (P l) 4 = home
    · have hc : c4 l = true := decide_eq_true h
      obtain ⟨k, r, s, e1, _, hk, _⟩ := homeL_some h
      refine (tO_f ((tA_t (t_ne.trans (by rw [hc]))).trans ((tO_f (tV_eq (e2_eq rfl rfl (by rw [far_near h, neD_self])))).trans (tV_eq (e2_eq (hk0 k r e1 _ _ _ _ _ _ _ _) (eT_eq (a3 rfl rfl rfl)) ?_))))).trans (tA_f (t_eq.trans (by rw [hc]; rfl)))
      rcases hk with rfl | rfl | rfl <;> kernel_rfl
    · have hc : c4 l = false := decide_eq_false h
      have hd := far_gt hl h
      refine (tO_f (tA_f (t_ne.trans (by rw [hc])))).trans ((tA_t (t_eq.trans (by rw [hc]; rfl))).trans (tV_eq (e2_eq rfl rfl (show some (D.bl (decide (far l ≤ near l))) = _ by rw [decide_eq_false (by omega)]))))
  refine Ok.eq (sSeq_nx ((sIf_f chk).trans rfl)) ?_
  -- many, more
  refine Ok.seq (I := fun ρ => ∃ a b : Nat, (a : Int) < 10 ^ 12 ∧ (b : Int) < 1000 ∧ ρ = ev l (.dat (natD a)) (s5 l) (.dat (.int (far l))) (.dat (.int (near l))) (.dat (natD b)) .emp .emp .emp .emp) ?_ ?_
  · refine (Ok.par (P1 := fun d => ∃ r : Nat, d = natD r ∧ (r : Int) < 10 ^ 12) (P2 := fun d => ∃ r : Nat, d = natD r ∧ (r : Int) < 1000) ?_ ?_).imp ?_
    · exact Ok.fn (R := (· = [D.box 0, .int (10 ^ 12)])) (Ok.isL (a2 rfl (e2_eq rfl rfl rfl))) fun l hl => by subst hl; exact ⟨rfl, roll_nat _ (by decide) (by decide)⟩
    · exact Ok.fn (R := (· = [D.box 0, .int 1000])) (Ok.isL (a2 rfl rfl)) fun l hl => by subst hl; exact ⟨rfl, roll_nat _ (by decide) (by decide)⟩
    · rintro fl ⟨ρ', rfl, d1, d2, ⟨a, rfl, ha⟩, ⟨b, rfl, hb⟩, rfl⟩
      exact ⟨_, rfl, a, b, ha, hb, rfl⟩
  rintro ρ ⟨a, b, ha, hb, rfl⟩
  have ha' : a < 1000000000000 := by
    have : (10 : Int) ^ 12 = 1000000000000 := by decide
    omega
  have hb' : b < 1000 := by omega
  refine Ok.eq (sSeq_nx (sAsg_eq (eFn_eq (a1 rfl) (v_pose_of l (by omega))) rfl)) ?_
  refine Ok.eq (sSeq_nx (sSet_eq (d := pD (pw (P l) a)) ?_)) ?_
  · by_cases h : pw (P l) 4 = home
    · have hc : c4 l = true := decide_eq_true h
      obtain ⟨k, r, s, e1, _, hk, hk2⟩ := homeL_some h
      have hk3 : 0 < k ∧ k ≤ 4 := by omega
      have hmod : a % k < k := Nat.mod_lt _ hk3.1
      rw [pw_per (P_ok l) hk2 a]
      exact (eIf_t (t_ne.trans (by rw [hc]))).trans (e2_eq rfl (e2_eq (e2_eq (eCall_eq (a1 rfl) rfl) (hk0 k r e1 _ _ _ _ _ _ _ _) (modI_nat a k hk3.1)) rfl (mul_nat (a % k) l.length (by omega))) (row_ix (by omega)))
    · have hc : c4 l = false := decide_eq_false h
      obtain ⟨hw, _⟩ := hm4_zero h
      rw [pw_w0 hw]
      exact (eIf_f (t_ne.trans (by rw [hc]))).trans (eT_eq (a3 (e2_eq rfl rfl (mulA_int (.inl (by omega)))) (e2_eq rfl rfl (mulA_int (.inl (by omega)))) rfl))
  refine Ok.eq (sSeq_nx ((sIf_f ((tO_f (same_eq (a2 (eFn_eq (a2 rfl rfl) (v_pose_behind l (by omega) a (by omega))) rfl) (sm_pose 6 _))).trans ?_)).trans rfl)) ?_
  · by_cases h : pw (P l) 4 = home
    · exact tA_f (t_eq.trans (by rw [show c4 l = true from decide_eq_true h]; rfl))
    · obtain ⟨hw, _⟩ := hm4_zero h
      exact (tA_t (t_eq.trans (by rw [show c4 l = false from decide_eq_false h]; rfl))).trans (tV_eq (e2_eq rfl rfl (show neD (.int (P l).w) (.int 0) = _ by rw [hw, neD_self])))
  refine Ok.eq (sSeq_nx ((sIf_f ?_).trans rfl)) ?_
  · by_cases h : pw (P l) 4 = home
    · refine (tA_t (t_ne.trans (by rw [show c4 l = true from decide_eq_true h]))).trans (tV_eq (e2_eq (eFn_eq (a2 rfl rfl) (v_pose_behind l (by omega) a (by omega)))
        (eFn_eq (a2 (eFn_eq (a2 rfl (e2_eq (eCall_eq (a1 rfl) rfl) rfl (modI_nat a 4 (by decide)))) (v_pose_behind l (by omega) (a % 4) (by omega))) (eT_eq (a3 rfl rfl rfl)))
          (v_joined (pw (P l) (a % 4)) home (pw_ok (P_ok l) _) (pw_small hl (Nat.le_of_lt (Nat.mod_lt _ (by decide)))) home_ok ⟨by decide, by decide, by decide, by decide⟩)) ?_))
      rw [neD_pose, comp_home (pw_ok (P_ok l) _), ← pw_per (P_ok l) h a]
      simp
    · exact tA_f (t_ne.trans (by rw [show c4 l = false from decide_eq_false h]))
  have fin1 : eqD (pD (pw (P (l ++ l)) b)) (pD (pw (P l) (2 * b))) = some (.bl true) := by
    rw [eqD_pose, P_twice, pw_mul (P_ok l)]
    simp
  have fin2 : eqD (pD (pw (P l) 0)) (pD home) = some (.bl true) := by
    rw [eqD_pose]
    rfl
  refine Ok.eq (sRet_eq (eA_bl (e2_eq (eFn_eq (a2 (e2_eq rfl rfl (addA_txt l l (by omega))) rfl) (v_pose_behind (l ++ l) (by rw [List.length_append]; omega) b (by omega))) (eFn_eq (a2 rfl (e2_eq rfl rfl (mul_nat 2 b (by omega)))) (v_pose_behind l (by omega) (2 * b) (by omega))) fin1) (e2_eq (eFn_eq (a2 rfl rfl) (v_pose_behind l (by omega) 0 (by omega))) (eT_eq (a3 rfl rfl rfl)) fin2))) ?_
  exact Ok.ret ⟨_, rfl, rfl⟩
end G48

set_option Elab.async false
set_option linter.all false
set_option maxRecDepth 100000
set_option autoImplicit false
namespace G48
open PySem PySem.Spec L2 Dl
open PyProof.Rows hiding St
set_option maxHeartbeats 0
theorem Ok.sIff {t : Dl.Env → M Bool} {fs hs : Dl.Env → M Fl} {ρ : Dl.Env} {Q : Fl → Prop} (h1 : Ok (t ρ) (· = false)) (h2 : Ok (hs ρ) Q) : Ok (sIf t fs hs ρ) Q := by
  unfold sIf
  exact Ok.bnd h1 fun b hb => by subst hb; exact h2
theorem Ok.tNV {f : Dl.Env → M D} {ρ : Dl.Env} (h : Ok (f ρ) (· = .bl true)) : Ok (tN (tV f) ρ) (· = false) := by
  unfold tN tV
  exact Ok.bnd (Ok.bnd h fun d hd => by subst hd; exact Ok.ret (Q := (· = true)) rfl) fun b hb => by subst hb; exact Ok.ret rfl
/-! ### straight on, then turns -/
def Fs (s : Nat) : List Sg := rep [.f] s
theorem Fs_len (s : Nat) : (Fs s).length = s := by unfold Fs; rw [rep_len]; simp
theorem walk_Fs (s : Nat) : walk home (Fs s) = ⟨0, s, 0⟩ := by
  unfold Fs
  rw [walk_rep, pw_w0 (show (walk home [Sg.f]).w = 0 from rfl)]
  apply P3.ext'
  · show (walk home [Sg.f]).e * (s : Int) = 0
    rw [show (walk home [Sg.f]).e = 0 from rfl]; omega
  · show (walk home [Sg.f]).n * (s : Int) = s
    rw [show (walk home [Sg.f]).n = 1 from rfl]; omega
  · rfl
theorem Fs_take (s k : Nat) (h : k ≤ s) : (Fs s).take k = Fs k := by
  unfold Fs rep
  have : ∀ n, (List.replicate n [Sg.f]).flatten = List.replicate n Sg.f := fun n => by
    induction n with
    | zero => rfl
    | succ n ih => rw [List.replicate_succ, List.flatten_cons, ih]; rfl
  rw [this, this, List.take_replicate, Nat.min_eq_left h]
theorem turns_keep : ∀ (tl : List Sg) (p : P3), (∀ t ∈ tl, t ≠ .f) → (walk p tl).e = p.e ∧ (walk p tl).n = p.n
  | [], p, _ => ⟨rfl, rfl⟩
  | t :: tl, p, h => by
    have h1 := turns_keep tl (step p t) fun t ht => h t (List.mem_cons_of_mem _ ht)
    have h2 : (step p t).e = p.e ∧ (step p t).n = p.n := by
      cases t with
      | f => exact absurd rfl (h .f List.mem_cons_self)
      | l => rw [step_l]; exact ⟨rfl, rfl⟩
      | r => rw [step_r]; exact ⟨rfl, rfl⟩
    show (walk (step p t) tl).e = p.e ∧ (walk (step p t) tl).n = p.n
    rw [h1.1, h1.2, h2.1, h2.2]
    exact ⟨rfl, rfl⟩
theorem take_Fs (s : Nat) (tl : List Sg) (ht : ∀ t ∈ tl, t ≠ .f) (i : Nat) : ∃ (j w : Int), 0 ≤ j ∧ j ≤ s ∧ walk home ((Fs s ++ tl).take i) = ⟨0, j, w⟩ := by
  rw [List.take_append, Fs_len]
  rcases Nat.le_total i s with h | h
  · refine ⟨i, 0, by omega, by omega, ?_⟩
    rw [Fs_take s i h, show i - s = 0 by omega, List.take_zero, List.append_nil, walk_Fs]
  · have k := turns_keep (tl.take (i - s)) (walk home (Fs s)) fun t hm => ht t (List.mem_of_mem_take hm)
    rw [List.take_of_length_le (by rw [Fs_len]; exact h), walk_append]
    rw [walk_Fs] at k ⊢
    exact ⟨s, (walk ⟨0, s, 0⟩ (tl.take (i - s))).w, by omega, by omega, P3.ext' k.1 k.2 rfl⟩
/-- the greatest distance by what the places are -/
theorem near_is {l : List Sg} {N : Int} (h1 : ∀ t i, t < 4 → i ≤ l.length → nrm (pl l t i) ≤ N) (h2 : ∃ t i, t < 4 ∧ i ≤ l.length ∧ nrm (pl l t i) = N) : near l = N := by
  have m := mx_mem (near_ne l)
  have e : mx (((R l).take (4 * l.length + 1)).map nrm) = near l := rfl
  rw [e] at m
  obtain ⟨q, hq, e1⟩ := List.mem_map.mp m.1
  obtain ⟨t, i, ht, hi, rfl⟩ := (R_mem (by decide) (by decide)).mp hq
  have a := h1 t i ht hi
  obtain ⟨t', i', ht', hi', e2⟩ := h2
  have b := m.2 _ (List.mem_map.mpr ⟨_, (R_mem (by decide) (by decide)).mpr ⟨t', i', ht', hi', rfl⟩, rfl⟩)
  omega
theorem P_Fs (s : Nat) (tl : List Sg) : P (Fs s ++ tl) = walk ⟨0, s, 0⟩ tl := by unfold P; rw [walk_append, walk_Fs]
theorem P_r (s : Nat) : P (Fs s ++ [.r]) = ⟨0, s, 1⟩ := by rw [P_Fs]; show step _ _ = _; rw [step_r]; rfl
theorem P_ll (s : Nat) : P (Fs s ++ [.l, .l]) = ⟨0, s, 2⟩ := by rw [P_Fs]; show step (step _ _) _ = _; rw [step_l, step_l]; rfl
theorem P_lr (s : Nat) : P (Fs s ++ [.l, .r]) = ⟨0, s, 0⟩ := by rw [P_Fs]; show step (step _ _) _ = _; rw [step_l, step_r]; rfl
theorem pwr (s : Nat) : pw ⟨0, s, 1⟩ 1 = ⟨0, s, 1⟩ ∧ pw ⟨0, s, 1⟩ 2 = ⟨s, s, 2⟩ ∧ pw ⟨0, s, 1⟩ 3 = ⟨s, 0, 3⟩ ∧ pw ⟨0, s, 1⟩ 4 = home := by
  refine ⟨?_, ?_, ?_, ?_⟩ <;> (apply P3.ext' <;> simp [pw, comp, home, rotE, rotN] <;> omega)
theorem pwll (s : Nat) : pw ⟨0, s, 2⟩ 1 = ⟨0, s, 2⟩ ∧ pw ⟨0, s, 2⟩ 2 = home ∧ pw ⟨0, s, 2⟩ 3 = ⟨0, s, 2⟩ ∧ pw ⟨0, s, 2⟩ 4 = home := by
  refine ⟨?_, ?_, ?_, ?_⟩ <;> (apply P3.ext' <;> simp [pw, comp, home, rotE, rotN] <;> omega)
theorem ne_w {e n w : Int} (h : w ≠ 0) : (⟨e, n, w⟩ : P3) ≠ home := fun z => h (congrArg P3.w z)
theorem ne_n {e n w : Int} (h : n ≠ 0) : (⟨e, n, w⟩ : P3) ≠ home := fun z => h (congrArg P3.n z)
theorem first_r (s : Nat) : firstD ([1, 2, 4].filter fun m => decide (pw (P (Fs s ++ [.r])) m = home)) = natD 4 := by
  rw [P_r]
  obtain ⟨h1, h2, _, h4⟩ := pwr s
  have a : decide (pw ⟨0, s, 1⟩ 1 = home) = false := decide_eq_false (by rw [h1]; exact ne_w (by decide))
  have b : decide (pw ⟨0, s, 1⟩ 2 = home) = false := decide_eq_false (by rw [h2]; exact ne_w (by decide))
  have c : decide (pw ⟨0, s, 1⟩ 4 = home) = true := decide_eq_true h4
  simp only [List.filter_cons, a, b, c]
  rfl
theorem first_ll (s : Nat) : firstD ([1, 2, 4].filter fun m => decide (pw (P (Fs s ++ [.l, .l])) m = home)) = natD 2 := by
  rw [P_ll]
  obtain ⟨h1, h2, _, h4⟩ := pwll s
  have a : decide (pw ⟨0, s, 2⟩ 1 = home) = false := decide_eq_false (by rw [h1]; exact ne_w (by decide))
  have b : decide (pw ⟨0, s, 2⟩ 2 = home) = true := decide_eq_true h2
  simp only [List.filter_cons, a, b]
  rfl
theorem far_away {l : List Sg} {s : Nat} (hs : 0 < s) (h : P l = ⟨0, s, 0⟩) : pw (P l) 4 ≠ home := by
  rw [h, pw_w0 rfl]
  refine ne_n ?_
  show (s : Int) * ((4 : Nat) : Int) ≠ 0
  omega
theorem first_lr {s : Nat} (hs : 0 < s) : firstD ([1, 2, 4].filter fun m => decide (pw (P (Fs s ++ [.l, .r])) m = home)) = .non := by
  rw [first_same, (homeL_none (far_away hs (P_lr s))).1]
  rfl
theorem nrm_mk (e n w : Int) : nrm ⟨e, n, w⟩ = ab e + ab n := rfl
theorem fD_r (s : Nat) : fD (Fs s ++ [.r]) = .int (2 * s) := by
  obtain ⟨h1, h2, h3, h4⟩ := pwr s
  unfold fD
  rw [if_pos (show c4 _ = true from decide_eq_true (by rw [P_r]; exact h4))]
  congr 1
  have at_ : ∀ t i, t < 4 → ∃ j : Int, 0 ≤ j ∧ j ≤ s ∧ (i ≤ s → j = i) ∧ nrm (pl (Fs s ++ [.r]) t i) = (if t = 0 then j else if t = 1 then s + j else if t = 2 then 2 * s - j else s - j) := fun t i ht => by
    obtain ⟨j, w, hj0, hj1, e⟩ := take_Fs s [.r] (by simp) i
    refine ⟨j, hj0, hj1, fun hi => ?_, ?_⟩
    · rw [List.take_append, Fs_len, Fs_take s i hi, show i - s = 0 by omega, List.take_zero, List.append_nil, walk_Fs] at e
      exact (congrArg P3.n e).symm
    · unfold pl
      rw [e, P_r]
      have tt : t = 0 ∨ t = 1 ∨ t = 2 ∨ t = 3 := by omega
      rcases tt with rfl | rfl | rfl | rfl
      · simp only [pw, comp, home, rotE, rotN, if_pos, nrm_mk]
        have a := ab_cases (0 + 0)
        have b := ab_cases (0 + j)
        omega
      · rw [h1]
        simp [comp, rotE, rotN, nrm_mk]
        have a := ab_cases j
        have b := ab_cases (s : Int)
        omega
      · rw [h2]
        simp [comp, rotE, rotN, nrm_mk]
        have a := ab_cases (s : Int)
        have b := ab_cases (s + -j)
        omega
      · rw [h3]
        simp [comp, rotE, rotN, nrm_mk]
        have a := ab_cases (s + -j)
        have b := ab_cases 0
        omega
  refine near_is (fun t i ht hi => ?_) ⟨1, s, by decide, by simp [Fs_len], ?_⟩
  · obtain ⟨j, a, b, _, c⟩ := at_ t i ht
    rw [c]
    (repeat' split) <;> omega
  · obtain ⟨j, a, b, d, c⟩ := at_ 1 s (by decide)
    rw [c, d (Nat.le_refl _)]
    simp
    omega
theorem fD_ll (s : Nat) : fD (Fs s ++ [.l, .l]) = .int s := by
  obtain ⟨h1, h2, h3, h4⟩ := pwll s
  unfold fD
  rw [if_pos (show c4 _ = true from decide_eq_true (by rw [P_ll]; exact h4))]
  congr 1
  have at_ : ∀ t i, t < 4 → ∃ j : Int, 0 ≤ j ∧ j ≤ s ∧ (i ≤ s → j = i) ∧ nrm (pl (Fs s ++ [.l, .l]) t i) = (if t = 0 then j else if t = 1 then s - j else if t = 2 then j else s - j) := fun t i ht => by
    obtain ⟨j, w, hj0, hj1, e⟩ := take_Fs s [.l, .l] (by simp) i
    refine ⟨j, hj0, hj1, fun hi => ?_, ?_⟩
    · rw [List.take_append, Fs_len, Fs_take s i hi, show i - s = 0 by omega, List.take_zero, List.append_nil, walk_Fs] at e
      exact (congrArg P3.n e).symm
    · unfold pl
      rw [e, P_ll]
      have tt : t = 0 ∨ t = 1 ∨ t = 2 ∨ t = 3 := by omega
      have a := ab_cases 0
      have b := ab_cases j
      have c := ab_cases (s + -j)
      rcases tt with rfl | rfl | rfl | rfl
      · simp only [pw]
        simp [comp, home, rotE, rotN, nrm_mk]
        omega
      · rw [h1]
        simp [comp, rotE, rotN, nrm_mk]
        omega
      · rw [h2]
        simp [comp, home, rotE, rotN, nrm_mk]
        omega
      · rw [h3]
        simp [comp, rotE, rotN, nrm_mk]
        omega
  refine near_is (fun t i ht hi => ?_) ⟨0, s, by decide, by simp [Fs_len], ?_⟩
  · obtain ⟨j, a, b, _, c⟩ := at_ t i ht
    rw [c]
    (repeat' split) <;> omega
  · obtain ⟨j, a, b, d, c⟩ := at_ 0 s (by decide)
    rw [c, d (Nat.le_refl _)]
    simp
theorem fD_away {l : List Sg} {s : Nat} (hs : 0 < s) (h : P l = ⟨0, s, 0⟩) : fD l = .non := by
  unfold fD
  rw [if_neg]
  rw [show c4 l = false from decide_eq_false (far_away hs h)]
  exact Bool.false_ne_true
theorem P_F (s : Nat) : P (Fs s) = ⟨0, s, 0⟩ := walk_Fs s
theorem law_main (ns : List Int) : Ok (sSeq (sFor (iR1 (aCons (eC (.int 8)) (fun _ => ret []))) (gN 2) [2] (sIf (tN (tV (eFn 1 f__law_right (aCons (eV 1) (fun _ => ret []))))) (sRet (eC (.bl false))) sNil))
    (sSeq (sPar .P .P 3 4 (e2 addA (eC (.int 1)) (eFn 2 f__law_roll (aCons (eV 1) (aCons (eC (.int 50)) (fun _ => ret []))))) (eFn 2 f__law_roll (aCons (eV 1) (aCons (e2 addA (e2 powI (eC (.int 10)) (eC (.int 12))) (eC (.int 1))) (fun _ => ret [])))))
    (sSeq (sSet 5 (e2 mulA (eC (.str "f")) (eV 3)))
    (sSeq (sSet 6 (eT (aCons (eFn 1 f_rounds_of (aCons (e2 addA (eV 5) (eC (.str "r"))) (fun _ => ret []))) (aCons (eFn 1 f_farthest (aCons (e2 addA (eV 5) (eC (.str "r"))) (fun _ => ret []))) (aCons (eFn 1 f_rounds_of (aCons (e2 addA (eV 5) (eC (.str "ll"))) (fun _ => ret []))) (aCons (eFn 1 f_farthest (aCons (e2 addA (eV 5) (eC (.str "ll"))) (fun _ => ret []))) (aCons (eFn 1 f_rounds_of (aCons (e2 addA (eV 5) (eC (.str "lr"))) (fun _ => ret []))) (fun _ => ret []))))))))
    (sSeq (sIf (tN (tV (eFn 2 (f__law_same 8) (aCons (eV 6) (aCons (eT (aCons (eC (.int 4)) (aCons (e2 mulA (eC (.int 2)) (eV 3)) (aCons (eC (.int 2)) (aCons (eV 3) (aCons (eC .non) (fun _ => ret []))))))) (fun _ => ret [])))))) (sRet (eC (.bl false))) sNil)
    (sRet (eFn 2 (f__law_same 8) (aCons (eT (aCons (eFn 1 f_farthest (aCons (eV 5) (fun _ => ret []))) (aCons (eFn 2 f_pose_behind (aCons (eV 5) (aCons (eV 4) (fun _ => ret [])))) (aCons (eFn 1 f_rounds_of (aCons (eC (.str "l")) (fun _ => ret []))) (aCons (eFn 1 f_farthest (aCons (eC (.str "lr")) (fun _ => ret []))) (fun _ => ret [])))))) (aCons (eT (aCons (eC .non) (aCons (eT (aCons (eC (.int 0)) (aCons (e2 mulA (eV 3) (eV 4)) (aCons (eC (.int 0)) (fun _ => ret []))))) (aCons (eC (.int 4)) (aCons (eC (.int 0)) (fun _ => ret [])))))) (fun _ => ret [])))))))))
    [.dat (.scr ns), .dat (.box 0), .emp, .emp, .emp, .emp, .emp]) (· = .rt (.bl true)) := by
  refine Ok.seq (I := (· = [.dat (.scr ns), .dat (.box 0), .emp, .emp, .emp, .emp, .emp])) ?_ ?_
  · refine Ok.for' (R := fun _ => True) (by rw [iR1_eq (k := 8) (a1 rfl) (by decide)]; exact Ok.ret trivial) fun ds _ => ?_
    refine (Ok.forL (fun _ ρ => ρ = [.dat (.scr ns), .dat (.box 0), .emp, .emp, .emp, .emp, .emp]) ds 0 _ rfl fun j d ρ _ hρ => ?_).imp fun fl ⟨ρ', e, h⟩ => ⟨ρ', e, h⟩
    subst hρ
    refine ⟨_, rfl, Ok.sIff (Ok.tNV (Ok.fn (R := (· = [D.box 0])) (Ok.isL (a1 rfl)) fun l hl => by subst hl; exact ⟨rfl, v_law_right⟩)) ?_⟩
    exact Ok.ret ⟨_, rfl, rfl⟩
  rintro ρ rfl
  refine Ok.seq (I := fun ρ => ∃ s m : Nat, 0 < s ∧ s ≤ 50 ∧ m ≤ 1000000000000 ∧ ρ = [.dat (.scr ns), .dat (.box 0), .emp, .dat (natD s), .dat (natD m), .emp, .emp]) ?_ ?_
  · refine (Ok.par (P1 := fun d => ∃ r : Nat, d = natD (1 + r) ∧ (r : Int) < 50) (P2 := fun d => ∃ r : Nat, d = natD r ∧ (r : Int) < 10 ^ 12 + 1) ?_ ?_).imp ?_
    · refine Ok.e2 (P1 := (· = .int 1)) (P2 := fun d => ∃ r : Nat, d = natD r ∧ (r : Int) < 50) (Ok.is rfl) (Ok.fn (R := (· = [D.box 0, .int 50])) (Ok.isL (a2 rfl rfl)) fun l hl => by subst hl; exact ⟨rfl, roll_nat _ (by decide) (by decide)⟩) ?_
      rintro a b rfl ⟨r, rfl, hr⟩
      exact ⟨_, addA_int _ _, r, by rw [natD, Int.natCast_add]; rfl, hr⟩
    · exact Ok.fn (R := (· = [D.box 0, .int (10 ^ 12 + 1)])) (Ok.isL (a2 rfl (e2_eq (e2_eq rfl rfl rfl) rfl (addA_int _ _)))) fun l hl => by subst hl; exact ⟨rfl, roll_nat _ (by decide) (by decide)⟩
    · rintro fl ⟨ρ', rfl, d1, d2, ⟨r, rfl, hr⟩, ⟨m, rfl, hm⟩, rfl⟩
      have e12 : (10 : Int) ^ 12 = 1000000000000 := by decide
      exact ⟨_, rfl, 1 + r, m, by omega, by omega, by omega, rfl⟩
  rintro ρ ⟨s, m, hs0, hs, hm, rfl⟩
  have e0 : mulA (.str "f") (natD s) = some (.str (txt (Fs s))) := mulA_txt [.f] s hs0 (by simp; omega) (by omega)
  refine Ok.eq (sSeq_nx (sSet_eq (e2_eq rfl rfl e0))) ?_
  have lenA : ∀ tl : List Sg, (Fs s ++ tl).length = s + tl.length := fun tl => by rw [List.length_append, Fs_len]
  have ad : ∀ tl : List Sg, tl.length ≤ 2 → addA (.str (txt (Fs s))) (.str (txt tl)) = some (.str (txt (Fs s ++ tl))) := fun tl h => addA_txt _ _ (by rw [Fs_len]; omega)
  have ar := ad [.r] (by decide)
  have all_ := ad [.l, .l] (by decide)
  have alr := ad [.l, .r] (by decide)
  have t1 : f_rounds_of [.str (txt (Fs s ++ [.r]))] = ret (natD 4) := (v_rounds_of _ (by rw [lenA]; simp; omega)).trans (by rw [first_r])
  have t2 : f_farthest [.str (txt (Fs s ++ [.r]))] = ret (.int (2 * s)) := (v_far _ (by rw [lenA]; simp; omega)).trans (by rw [fD_r])
  have t3 : f_rounds_of [.str (txt (Fs s ++ [.l, .l]))] = ret (natD 2) := (v_rounds_of _ (by rw [lenA]; simp; omega)).trans (by rw [first_ll])
  have t4 : f_farthest [.str (txt (Fs s ++ [.l, .l]))] = ret (.int s) := (v_far _ (by rw [lenA]; simp; omega)).trans (by rw [fD_ll])
  have t5 : f_rounds_of [.str (txt (Fs s ++ [.l, .r]))] = ret .non := (v_rounds_of _ (by rw [lenA]; simp; omega)).trans (by rw [first_lr hs0])
  refine Ok.eq (sSeq_nx (sSet_eq (eT_eq (aCons_eq (eFn_eq (a1 (e2_eq rfl rfl ar)) t1) (aCons_eq (eFn_eq (a1 (e2_eq rfl rfl ar)) t2) (a3 (eFn_eq (a1 (e2_eq rfl rfl all_)) t3) (eFn_eq (a1 (e2_eq rfl rfl all_)) t4) (eFn_eq (a1 (e2_eq rfl rfl alr)) t5))))))) ?_
  have m2 : mulA (.int 2) (natD s) = some (.int (2 * s)) := mulA_int (.inr (by decide))
  refine Ok.eq (sSeq_nx ((sIf_f (same_eq (d := .tup [natD 4, .int (2 * s), natD 2, .int s, .non]) (a2 rfl (eT_eq (aCons_eq rfl (aCons_eq (e2_eq rfl rfl m2) (a3 rfl rfl rfl))))) (.tup 6 _ (fun d hd => by
    simp only [List.mem_cons, List.not_mem_nil, or_false] at hd
    rcases hd with rfl | rfl | rfl | rfl | rfl <;> first | exact .int _ _ | exact .non _) (by simp)))).trans rfl)) ?_
  have u1 : f_farthest [.str (txt (Fs s))] = ret .non := (v_far _ (by rw [Fs_len]; omega)).trans (by rw [fD_away hs0 (P_F s)])
  have u2 : f_pose_behind [.str (txt (Fs s)), natD m] = ret (.tup [.int 0, .int (s * m), .int 0]) := (v_pose_behind _ (by rw [Fs_len]; omega) m hm).trans (by
    rw [P_F, pw_w0 rfl]
    unfold pD
    dsimp only
    rw [Int.zero_mul])
  have u3 : f_rounds_of [.str (txt [.l])] = ret (natD 4) := (v_rounds_of [.l] (by decide)).trans rfl
  have u4 : f_farthest [.str (txt [.l, .r])] = ret (.int 0) := (v_far [.l, .r] (by decide)).trans rfl
  have m3 : mulA (natD s) (natD m) = some (.int ((s : Int) * (m : Int))) := mulA_int (.inr (by omega))
  refine Ok.eq (sRet_eq (eFn_eq (a2 (eT_eq (aCons_eq (eFn_eq (a1 rfl) u1) (a3 (eFn_eq (a2 rfl rfl) u2) (eFn_eq (a1 rfl) u3) (eFn_eq (a1 rfl) u4)))) (eT_eq (aCons_eq rfl (a3 (eT_eq (a3 rfl (e2_eq rfl rfl m3) rfl)) rfl rfl)))) (v_same 7 (.tup [.non, .tup [.int 0, .int (s * m), .int 0], natD 4, .int 0]) (.tup 6 _ (fun d hd => by
    simp only [List.mem_cons, List.not_mem_nil, or_false] at hd
    rcases hd with rfl | rfl | rfl | rfl
    · exact .non _
    · exact .tup 5 _ (fun d hd => by
        simp only [List.mem_cons, List.not_mem_nil, or_false] at hd
        rcases hd with rfl | rfl | rfl <;> exact .int _ _) (by simp)
    · exact .int _ _
    · exact .int _ _) (by simp))))) ?_
  exact Ok.ret rfl
theorem law_true : ∀ ns : List Int, ns.length ≤ 63 → ∃ S', f_law [.scr ns] [] = .ok (.bl true) S' := fun ns hl => by
  obtain ⟨c0, c1, e⟩ := v_cup ns hl
  obtain ⟨a, S', h, _, ha⟩ := law_main ns [.lst [.int c0, .int c1]] ⟨c0, c1, rfl⟩
  subst ha
  refine ⟨S', ?_⟩
  unfold f_law runFn
  have s1 : sSet 1 (eFn 1 f__law_cup (aCons (eV 0) (fun _ => ret []))) [.dat (.scr ns), .emp, .emp, .emp, .emp, .emp, .emp] [] = .ok (.nx [.dat (.scr ns), .dat (.box 0), .emp, .emp, .emp, .emp, .emp]) [.lst [.int c0, .int c1]] := by
    unfold sSet
    refine (bnd_ok (a := D.box 0) (S' := [Bx.lst [D.int c0, D.int c1]]) ?_).trans rfl
    show callS 1 f__law_cup [.scr ns] [] = _
    exact e
  refine (bnd_ok (a := Fl.rt (D.bl true)) (S' := S') ?_).trans rfl
  show b_law [.dat (.scr ns), .emp, .emp, .emp, .emp, .emp, .emp] [] = _
  unfold b_law
  show bnd _ _ _ = _
  exact (bnd_ok s1).trans h
end G48

set_option Elab.async false
set_option linter.all false
set_option maxRecDepth 100000
open PySem PySem.W PyProof.Rows
set_option maxHeartbeats 0 in
theorem PySem.Challenge.cw_highground_k48_whole_tellings_again_and_holds : PySem.Challenge.rw_highground_k48_whole_tellings_again_and.Holds := by
  w_on; o_law; k_head; (case hw => w_witness2)
  k_fill
  refine L2.walk_of (l := PySem.Challenge.rw_highground_k48_whole_tellings_again_and) (n := 63) (k := 11) (x := "script") (CX := fun w => L2.CX PySem.Challenge.rw_highground_k48_whole_tellings_again_and.prog w) (sp := fun w => Dl.spLaw _ 63) rfl (by decide) rfl ⟨rfl, by decide, by decide⟩ (fun w h Y => PySem.W.kIn_of Y) ?F (fun w H a ns hl hO hS => ⟨a, ns, rfl, hO, hS, hl, fun _ => rfl⟩) (fun w H s e s' ⟨_, _, _, _, _, _, _, _, _, _, _, _, z⟩ => z)
  case F =>
    intro w mg fa h KX G hmg
    have b_abs : mg "abs" = none := by
      refine' PySem.W.mg_none_of KX G ?z1z
      case z1z => k_is
    have b_list : mg "list" = none := by
      refine' PySem.W.mg_none_of KX G ?z2z
      case z2z => k_is
    have b_int : mg "int" = none := by
      refine' PySem.W.mg_none_of KX G ?z3z
      case z3z => k_is
    have b_isinstance : mg "isinstance" = none := by
      refine' PySem.W.mg_none_of KX G ?z4z
      case z4z => k_is
    have b_tuple : mg "tuple" = none := by
      refine' PySem.W.mg_none_of KX G ?z5z
      case z5z => k_is
    have b_len : mg "len" = none := by
      refine' PySem.W.mg_none_of KX G ?z6z
      case z6z => k_is
    have b_all : mg "all" = none := by
      refine' PySem.W.mg_none_of KX G ?z7z
      case z7z => k_is
    have b_range : mg "range" = none := by
      refine' PySem.W.mg_none_of KX G ?z8z
      case z8z => k_is
    have b_bool : mg "bool" = none := by
      refine' PySem.W.mg_none_of KX G ?z9z
      case z9z => k_is
    have b_str : mg "str" = none := by
      refine' PySem.W.mg_none_of KX G ?z10z
      case z10z => k_is
    have b_max : mg "max" = none := by
      refine' PySem.W.mg_none_of KX G ?z11z
      case z11z => k_is
    refine' Dl.kcut KX (T := fun K => Dl.Con K mg "LONG" (.int 60)) ?z12cc ?z12dd
    case z12cc =>
      refine' Dl.con_int KX G ?z13a
      case z13a => k_is
    intro c_LONG
    refine' Dl.kcut KX (T := fun K => Dl.Con K mg "SIGNS" (.str "flr")) ?z14cc ?z14dd
    case z14cc =>
      refine' Dl.con_str KX G ?z15a
      case z15a => k_is
    intro c_SIGNS
    refine' Dl.kcut KX (T := fun K => Dl.Con K mg "WAYS" (.tup [(.tup [(.int 0), (.int 1)]), (.tup [(.int 1), (.int 0)]), (.tup [(.int 0), (.int (-1))]), (.tup [(.int (-1)), (.int 0)])])) ?z16cc ?z16dd
    case z16cc =>
      refine' Dl.con_kv KX G ?z17a ?z17r
      case z17a => k_is
      case z17r =>
        refine' Dl.kv_tup ?z18l ?z18n ?z18r
        case z18l => k_is
        case z18n => decide
        case z18r =>
          refine' Dl.KVs.cons ?z19x ?z19y
          case z19x =>
            refine' Dl.kv_tup ?z20l ?z20n ?z20r
            case z20l => k_is
            case z20n => decide
            case z20r =>
              refine' Dl.KVs.cons ?z21x ?z21y
              case z21x =>
                exact Dl.kv_int
              case z21y =>
                refine' Dl.KVs.cons ?z22x ?z22y
                case z22x =>
                  exact Dl.kv_int
                case z22y =>
                  exact Dl.KVs.nil
          case z19y =>
            refine' Dl.KVs.cons ?z23x ?z23y
            case z23x =>
              refine' Dl.kv_tup ?z24l ?z24n ?z24r
              case z24l => k_is
              case z24n => decide
              case z24r =>
                refine' Dl.KVs.cons ?z25x ?z25y
                case z25x =>
                  exact Dl.kv_int
                case z25y =>
                  refine' Dl.KVs.cons ?z26x ?z26y
                  case z26x =>
                    exact Dl.kv_int
                  case z26y =>
                    exact Dl.KVs.nil
            case z23y =>
              refine' Dl.KVs.cons ?z27x ?z27y
              case z27x =>
                refine' Dl.kv_tup ?z28l ?z28n ?z28r
                case z28l => k_is
                case z28n => decide
                case z28r =>
                  refine' Dl.KVs.cons ?z29x ?z29y
                  case z29x =>
                    exact Dl.kv_int
                  case z29y =>
                    refine' Dl.KVs.cons ?z30x ?z30y
                    case z30x =>
                      exact Dl.kv_int
                    case z30y =>
                      exact Dl.KVs.nil
              case z27y =>
                refine' Dl.KVs.cons ?z31x ?z31y
                case z31x =>
                  refine' Dl.kv_tup ?z32l ?z32n ?z32r
                  case z32l => k_is
                  case z32n => decide
                  case z32r =>
                    refine' Dl.KVs.cons ?z33x ?z33y
                    case z33x =>
                      exact Dl.kv_int
                    case z33y =>
                      refine' Dl.KVs.cons ?z34x ?z34y
                      case z34x =>
                        exact Dl.kv_int
                      case z34y =>
                        exact Dl.KVs.nil
                case z31y =>
                  exact Dl.KVs.nil
    intro c_WAYS
    refine' Dl.kcut KX (T := fun K => Dl.Con K mg "HOME" (.tup [(.int 0), (.int 0), (.int 0)])) ?z35cc ?z35dd
    case z35cc =>
      refine' Dl.con_kv KX G ?z36a ?z36r
      case z36a => k_is
      case z36r =>
        refine' Dl.kv_tup ?z37l ?z37n ?z37r
        case z37l => k_is
        case z37n => decide
        case z37r =>
          refine' Dl.KVs.cons ?z38x ?z38y
          case z38x =>
            exact Dl.kv_int
          case z38y =>
            refine' Dl.KVs.cons ?z39x ?z39y
            case z39x =>
              exact Dl.kv_int
            case z39y =>
              refine' Dl.KVs.cons ?z40x ?z40y
              case z40x =>
                exact Dl.kv_int
              case z40y =>
                exact Dl.KVs.nil
    intro c_HOME
    refine' Dl.kcut KX (T := fun K => Dl.Con K mg "TIMES" (.int 1000000000000)) ?z41cc ?z41dd
    case z41cc =>
      refine' Dl.con_int KX G ?z42a
      case z42a => k_is
    intro c_TIMES
    refine' Dl.kcut KX (T := fun K => Dl.Con K mg "FAR" (.int 1000)) ?z43cc ?z43dd
    case z43cc =>
      refine' Dl.con_int KX G ?z44a
      case z44a => k_is
    intro c_FAR
    refine' Dl.kcut KX (T := fun K => Dl.ExcT K mg "InvalidTelling") ?z45cc ?z45dd
    case z45cc =>
      refine' Dl.exc_mk KX G PySem.F.excBase_ValueError ?z46a ?z46q ?z46k ?z46b ?z46t
      (case z46a => k_is); (case z46q => k_exc); (case z46k => k_is); (case z46b => k_is); (case z46t => k_is)
    intro e_InvalidTelling
    refine' Dl.kcut KX (T := fun K => Dl.ExcT K mg "InvalidNumber") ?z47cc ?z47dd
    case z47cc =>
      refine' Dl.exc_mk KX G PySem.F.excBase_ValueError ?z48a ?z48q ?z48k ?z48b ?z48t
      (case z48a => k_is); (case z48q => k_exc); (case z48k => k_is); (case z48b => k_is); (case z48t => k_is)
    intro e_InvalidNumber
    refine' Dl.kcut KX (T := fun K => Dl.FnT K mg "_law_cup" (G48.topS 29) ["script"]) ?z49cc ?z49dd
    case z49cc =>
      refine' Dl.fnT_mk KX G ?z50a ?z50l ?z50c ?z50k ?z50b
      (case z50a => k_is); (case z50l => k_is); (case z50c => k_is); (case z50k => k_is)
      case z50b => exact fun F => F.binds (ps := ["script"]) fun _ _ _ _ _ _ us hl => match us, hl with | [_], _ => rfl
    intro t__law_cup
    refine' Dl.kcut KX (T := fun K => Dl.FnT K mg "_law_same" (G48.topS 32) ["told", "due"]) ?z51cc ?z51dd
    case z51cc =>
      refine' Dl.fnT_mk KX G ?z52a ?z52l ?z52c ?z52k ?z52b
      (case z52a => k_is); (case z52l => k_is); (case z52c => k_is); (case z52k => k_is)
      case z52b => exact fun F => F.binds (ps := ["told", "due"]) fun _ _ _ _ _ _ us hl => match us, hl with | [_, _], _ => rfl
    intro t__law_same
    refine' Dl.kcut KX (T := fun K => Dl.FnT K mg "_law_roll" (G48.topS 30) ["cup", "many"]) ?z53cc ?z53dd
    case z53cc =>
      refine' Dl.fnT_mk KX G ?z54a ?z54l ?z54c ?z54k ?z54b
      (case z54a => k_is); (case z54l => k_is); (case z54c => k_is); (case z54k => k_is)
      case z54b => exact fun F => F.binds (ps := ["cup", "many"]) fun _ _ _ _ _ _ us hl => match us, hl with | [_, _], _ => rfl
    intro t__law_roll
    refine' Dl.kcut KX (T := fun K => Dl.FnT K mg "fits_telling" (G48.topS 14) ["value"]) ?z55cc ?z55dd
    case z55cc =>
      refine' Dl.fnT_mk KX G ?z56a ?z56l ?z56c ?z56k ?z56b
      (case z56a => k_is); (case z56l => k_is); (case z56c => k_is); (case z56k => k_is)
      case z56b => exact fun F => F.binds (ps := ["value"]) fun _ _ _ _ _ _ us hl => match us, hl with | [_], _ => rfl
    intro t_fits_telling
    refine' Dl.kcut KX (T := fun K => Dl.FnT K mg "need_telling" (G48.topS 15) ["telling"]) ?z57cc ?z57dd
    case z57cc =>
      refine' Dl.fnT_mk KX G ?z58a ?z58l ?z58c ?z58k ?z58b
      (case z58a => k_is); (case z58l => k_is); (case z58c => k_is); (case z58k => k_is)
      case z58b => exact fun F => F.binds (ps := ["telling"]) fun _ _ _ _ _ _ us hl => match us, hl with | [_], _ => rfl
    intro t_need_telling
    refine' Dl.kcut KX (T := fun K => Dl.FnT K mg "stepped" (G48.topS 18) ["pose", "sign"]) ?z59cc ?z59dd
    case z59cc =>
      refine' Dl.fnT_mk KX G ?z60a ?z60l ?z60c ?z60k ?z60b
      (case z60a => k_is); (case z60l => k_is); (case z60c => k_is); (case z60k => k_is)
      case z60b => exact fun F => F.binds (ps := ["pose", "sign"]) fun _ _ _ _ _ _ us hl => match us, hl with | [_, _], _ => rfl
    intro t_stepped
    refine' Dl.kcut KX (T := fun K => Dl.FnT K mg "poses_of" (G48.topS 19) ["telling"]) ?z61cc ?z61dd
    case z61cc =>
      refine' Dl.fnT_mk KX G ?z62a ?z62l ?z62c ?z62k ?z62b
      (case z62a => k_is); (case z62l => k_is); (case z62c => k_is); (case z62k => k_is)
      case z62b => exact fun F => F.binds (ps := ["telling"]) fun _ _ _ _ _ _ us hl => match us, hl with | [_], _ => rfl
    intro t_poses_of
    refine' Dl.kcut KX (T := fun K => Dl.FnT K mg "turned" (G48.topS 20) ["vector", "way"]) ?z63cc ?z63dd
    case z63cc =>
      refine' Dl.fnT_mk KX G ?z64a ?z64l ?z64c ?z64k ?z64b
      (case z64a => k_is); (case z64l => k_is); (case z64c => k_is); (case z64k => k_is)
      case z64b => exact fun F => F.binds (ps := ["vector", "way"]) fun _ _ _ _ _ _ us hl => match us, hl with | [_, _], _ => rfl
    intro t_turned
    refine' Dl.kcut KX (T := fun K => Dl.FnT K mg "then" (G48.topS 21) ["pose", "other"]) ?z65cc ?z65dd
    case z65cc =>
      refine' Dl.fnT_mk KX G ?z66a ?z66l ?z66c ?z66k ?z66b
      (case z66a => k_is); (case z66l => k_is); (case z66c => k_is); (case z66k => k_is)
      case z66b => exact fun F => F.binds (ps := ["pose", "other"]) fun _ _ _ _ _ _ us hl => match us, hl with | [_, _], _ => rfl
    intro t_then
    refine' Dl.kcut KX (T := fun K => Dl.FnT K mg "again" (G48.topS 22) ["pose", "many"]) ?z67cc ?z67dd
    case z67cc =>
      refine' Dl.fnT_mk KX G ?z68a ?z68l ?z68c ?z68k ?z68b
      (case z68a => k_is); (case z68l => k_is); (case z68c => k_is); (case z68k => k_is)
      case z68b => exact fun F => F.binds (ps := ["pose", "many"]) fun _ _ _ _ _ _ us hl => match us, hl with | [_, _], _ => rfl
    intro t_again
    refine' Dl.kcut KX (T := fun K => Dl.FnT K mg "rounds_of" (G48.topS 26) ["telling"]) ?z69cc ?z69dd
    case z69cc =>
      refine' Dl.fnT_mk KX G ?z70a ?z70l ?z70c ?z70k ?z70b
      (case z70a => k_is); (case z70l => k_is); (case z70c => k_is); (case z70k => k_is)
      case z70b => exact fun F => F.binds (ps := ["telling"]) fun _ _ _ _ _ _ us hl => match us, hl with | [_], _ => rfl
    intro t_rounds_of
    refine' Dl.kcut KX (T := fun K => Dl.FnT K mg "farthest" (G48.topS 27) ["telling"]) ?z71cc ?z71dd
    case z71cc =>
      refine' Dl.fnT_mk KX G ?z72a ?z72l ?z72c ?z72k ?z72b
      (case z72a => k_is); (case z72l => k_is); (case z72c => k_is); (case z72k => k_is)
      case z72b => exact fun F => F.binds (ps := ["telling"]) fun _ _ _ _ _ _ us hl => match us, hl with | [_], _ => rfl
    intro t_farthest
    refine' Dl.kcut KX (T := fun K => Dl.FnT K mg "_law_some" (G48.topS 31) ["cup", "things"]) ?z73cc ?z73dd
    case z73cc =>
      refine' Dl.fnT_mk KX G ?z74a ?z74l ?z74c ?z74k ?z74b
      (case z74a => k_is); (case z74l => k_is); (case z74c => k_is); (case z74k => k_is)
      case z74b => exact fun F => F.binds (ps := ["cup", "things"]) fun _ _ _ _ _ _ us hl => match us, hl with | [_, _], _ => rfl
    intro t__law_some
    refine' Dl.kcut KX (T := fun K => Dl.FnT K mg "_law_telling" (G48.topS 33) ["cup", "most"]) ?z75cc ?z75dd
    case z75cc =>
      refine' Dl.fnT_mk KX G ?z76a ?z76l ?z76c ?z76k ?z76b
      (case z76a => k_is); (case z76l => k_is); (case z76c => k_is); (case z76k => k_is)
      case z76b => exact fun F => F.binds (ps := ["cup", "most"]) fun _ _ _ _ _ _ us hl => match us, hl with | [_, _], _ => rfl
    intro t__law_telling
    refine' Dl.kcut KX (T := fun K => Dl.FnT K mg "_law_poses" (G48.topS 34) ["telling"]) ?z77cc ?z77dd
    case z77cc =>
      refine' Dl.fnT_mk KX G ?z78a ?z78l ?z78c ?z78k ?z78b
      (case z78a => k_is); (case z78l => k_is); (case z78c => k_is); (case z78k => k_is)
      case z78b => exact fun F => F.binds (ps := ["telling"]) fun _ _ _ _ _ _ us hl => match us, hl with | [_], _ => rfl
    intro t__law_poses
    refine' Dl.kcut KX (T := fun K => Dl.FnT K mg "pose_of" (G48.topS 23) ["telling"]) ?z79cc ?z79dd
    case z79cc =>
      refine' Dl.fnT_mk KX G ?z80a ?z80l ?z80c ?z80k ?z80b
      (case z80a => k_is); (case z80l => k_is); (case z80c => k_is); (case z80k => k_is)
      case z80b => exact fun F => F.binds (ps := ["telling"]) fun _ _ _ _ _ _ us hl => match us, hl with | [_], _ => rfl
    intro t_pose_of
    refine' Dl.kcut KX (T := fun K => Dl.FnT K mg "is_whole" (G48.topS 5) ["value", "low", "high"]) ?z81cc ?z81dd
    case z81cc =>
      refine' Dl.fnT_mk KX G ?z82a ?z82l ?z82c ?z82k ?z82b
      (case z82a => k_is); (case z82l => k_is); (case z82c => k_is); (case z82k => k_is)
      case z82b => exact fun F => F.binds (ps := ["value", "low", "high"]) fun _ _ _ _ _ _ us hl => match us, hl with | [_, _, _], _ => rfl
    intro t_is_whole
    refine' Dl.kcut KX (T := fun K => Dl.FnT K mg "pose_behind" (G48.topS 25) ["telling", "many"]) ?z83cc ?z83dd
    case z83cc =>
      refine' Dl.fnT_mk KX G ?z84a ?z84l ?z84c ?z84k ?z84b
      (case z84a => k_is); (case z84l => k_is); (case z84c => k_is); (case z84k => k_is)
      case z84b => exact fun F => F.binds (ps := ["telling", "many"]) fun _ _ _ _ _ _ us hl => match us, hl with | [_, _], _ => rfl
    intro t_pose_behind
    refine' Dl.kcut KX (T := fun K => Dl.FnT K mg "is_tuple_of" (G48.topS 6) ["value", "low", "high"]) ?z85cc ?z85dd
    case z85cc =>
      refine' Dl.fnT_mk KX G ?z86a ?z86l ?z86c ?z86k ?z86b
      (case z86a => k_is); (case z86l => k_is); (case z86c => k_is); (case z86k => k_is)
      case z86b => exact fun F => F.binds (ps := ["value", "low", "high"]) fun _ _ _ _ _ _ us hl => match us, hl with | [_, _, _], _ => rfl
    intro t_is_tuple_of
    refine' Dl.kcut KX (T := fun K => Dl.FnT K mg "fits_pose" (G48.topS 16) ["value"]) ?z87cc ?z87dd
    case z87cc =>
      refine' Dl.fnT_mk KX G ?z88a ?z88l ?z88c ?z88k ?z88b
      (case z88a => k_is); (case z88l => k_is); (case z88c => k_is); (case z88k => k_is)
      case z88b => exact fun F => F.binds (ps := ["value"]) fun _ _ _ _ _ _ us hl => match us, hl with | [_], _ => rfl
    intro t_fits_pose
    refine' Dl.kcut KX (T := fun K => Dl.FnT K mg "need_pose" (G48.topS 17) ["pose"]) ?z89cc ?z89dd
    case z89cc =>
      refine' Dl.fnT_mk KX G ?z90a ?z90l ?z90c ?z90k ?z90b
      (case z90a => k_is); (case z90l => k_is); (case z90c => k_is); (case z90k => k_is)
      case z90b => exact fun F => F.binds (ps := ["pose"]) fun _ _ _ _ _ _ us hl => match us, hl with | [_], _ => rfl
    intro t_need_pose
    refine' Dl.kcut KX (T := fun K => Dl.FnT K mg "joined" (G48.topS 24) ["pose", "other"]) ?z91cc ?z91dd
    case z91cc =>
      refine' Dl.fnT_mk KX G ?z92a ?z92l ?z92c ?z92k ?z92b
      (case z92a => k_is); (case z92l => k_is); (case z92c => k_is); (case z92k => k_is)
      case z92b => exact fun F => F.binds (ps := ["pose", "other"]) fun _ _ _ _ _ _ us hl => match us, hl with | [_, _], _ => rfl
    intro t_joined
    refine' Dl.kcut KX (T := fun K => Dl.FnT K mg "_law_right" (G48.topS 35) ["cup"]) ?z93cc ?z93dd
    case z93cc =>
      refine' Dl.fnT_mk KX G ?z94a ?z94l ?z94c ?z94k ?z94b
      (case z94a => k_is); (case z94l => k_is); (case z94c => k_is); (case z94k => k_is)
      case z94b => exact fun F => F.binds (ps := ["cup"]) fun _ _ _ _ _ _ us hl => match us, hl with | [_], _ => rfl
    intro t__law_right
    refine' Dl.kcut KX (T := fun K => Dl.LawT K mg (G48.topS 36)) ?z95cc ?z95dd
    case z95cc =>
      refine' Dl.lawT_mk KX G ?z96a ?z96l ?z96c ?z96k ?z96b
      (case z96a => k_is); (case z96l => k_is); (case z96c => k_is); (case z96k => k_is)
      case z96b => exact fun u => rfl
    intro t_law
    exact Dl.law_F t_law hmg fun f fd F base => G48.ok_law ⟨b_abs, b_list, b_int, b_isinstance, b_tuple, b_len, b_all, b_range, b_bool, b_str, b_max, c_LONG, c_SIGNS, c_WAYS, c_HOME, c_TIMES, c_FAR, e_InvalidTelling, e_InvalidNumber, t__law_cup, t__law_same, t__law_roll, t_fits_telling, t_need_telling, t_stepped, t_poses_of, t_turned, t_then, t_again, t_rounds_of, t_farthest, t__law_some, t__law_telling, t__law_poses, t_pose_of, t_is_whole, t_pose_behind, t_is_tuple_of, t_fits_pose, t_need_pose, t_joined, t__law_right⟩ F G48.law_true

