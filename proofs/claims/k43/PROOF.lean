import PyProof.Rows.All
import Wide.All
import OpenK.AllK
import Wide.FinOn
import HandS.ForMost
import HandS.ForExc
import HandS.Flow
import HandS.Style
import HandS.Wide
import HandS.IsInst
import HandS.StrMore
import HandS.Defaults
import HandS.ExcIs
import HandS.HotCalls
import HandS.HeadEnd
import HandS.HeadHook2
import HandS.Head2
import HandS.ExcCtx
import HandS.TryElse
import HandS.SuiteRaise
import HandS.Head0
import HandS.Head1
import HandS.Conv
import HandS.SortInts
import HandS.ReplaceList
import HandS.Replace
import HandS.EndBits
import HandS.Rev
import PySem.Challenge.RW_modehand_k43_half_a_phrase
set_option Elab.async false
set_option linter.all false
set_option maxRecDepth 100000
set_option maxHeartbeats 2000000
/-! FL: a functional layer of my own over HandS: what a def computes as a plain function over data. Part 1: data, results, what stands where, expressions. -/
namespace FL
set_option autoImplicit false
abbrev St := L2.St
open PySem PySem.Spec PyProof.Rows L2

/-! ### data -/
/-- a value with all that hangs on it; a text by its code points -/
inductive D where
  | non | bl (b : Bool) | int (i : Int) | str (s : List Nat) | lst (ds : List D) | tup (ds : List D)
  | dct (kvs : List (Key × D))
  /-- the law's script -/
  | scr (ns : List Int)
  /-- a class or def of the module, by its name; a built-in class -/
  | glo (x : Str) | ty (n : String)
  deriving Inhabited

def mk (l : List Nat) : Str := ⟨l.toArray⟩
/-- code points -/
def okS (s : List Nat) : Prop := ∀ c ∈ s, c < 1114112
theorem okS_of {s : List Nat} (h : (s.all fun c => decide (c < 1114112)) = true) : okS s := fun c hc => of_decide_eq_true (List.all_eq_true.mp h c hc)
theorem okS.app {a b : List Nat} (h : okS a) (h' : okS b) : okS (a ++ b) := fun c hc => (List.mem_append.mp hc).elim (h c) (h' c)
theorem mk_len (l : List Nat) : (mk l).length = l.length := by simp [mk, Str.length]
theorem mk_list (l : List Nat) : (mk l).cps.toList = l := by simp [mk]
theorem mk_inj {a b : List Nat} (h : mk a = mk b) : a = b := by
  have := congrArg (fun s : Str => s.cps.toList) h
  simpa [mk] using this
theorem mk_of (s : Str) : mk s.cps.toList = s := by simp [mk]
theorem mk_app (a b : List Nat) : mk a ++ mk b = mk (a ++ b) := by
  show Str.mk _ = Str.mk _
  simp [mk]
theorem mk_dec (a b : List Nat) : decide (V.str (mk a) = V.str (mk b)) = decide (a = b) := by
  by_cases h : a = b
  · subst h; simp
  · rw [decide_eq_false h, decide_eq_false]
    intro e
    exact h (mk_inj (V.str.inj e))

/-! ### results -/
/-- what an evaluation gives: a value; an exception of the module's class n, with its field; stuck: nothing is said -/
inductive R (α : Type) where
  | ok (a : α) | exc (n : Str) (d : Option D) | stuck
@[reducible] def R.bind {α β : Type} (r : R α) (f : α → R β) : R β := match r with
  | .ok a => f a
  | .exc n d => .exc n d
  | .stuck => .stuck
instance : Monad R where
  pure := R.ok
  bind := R.bind
theorem R.pure_eq {α : Type} (a : α) : (pure a : R α) = .ok a := rfl
theorem R.ok_bind {α β : Type} (a : α) (f : α → R β) : ((R.ok a : R α) >>= f) = f a := rfl
theorem R.exc_bind {α β : Type} (n : Str) (d : Option D) (f : α → R β) : ((R.exc n d : R α) >>= f) = .exc n d := rfl
theorem R.stuck_bind {α β : Type} (f : α → R β) : ((R.stuck : R α) >>= f) = .stuck := rfl

/-! ### what stands at a value -/
mutual
inductive Rep (K : PySem.W.Frag) (mg : Str → Option Value) (F : Hp) : D → V → Prop
  | non : Rep K mg F .non .non
  | bl (b : Bool) : Rep K mg F (.bl b) (.bl b)
  | int (i : Int) : Rep K mg F (.int i) (.int i)
  | str (s : List Nat) (h : okS s) : Rep K mg F (.str s) (.str (mk s))
  | lst {p : Addr} {xs : List V} {ds : List D} (h : F p = some (.lst xs)) (r : Reps K mg F ds xs) : Rep K mg F (.lst ds) (.ref p)
  | scr {p : Addr} {ns : List Int} (h : SqL K F p (ns.map V.int)) : Rep K mg F (.scr ns) (.ref p)
  | tup {p : Addr} {xs : List V} {ds : List D} (h : SqT K F p xs) (r : Reps K mg F ds xs) : Rep K mg F (.tup ds) (.ref p)
  | dct {p : Addr} {ks : List Key} {xs : List V} {ds : List D} (h : F p = some (.dK (ks.zip xs))) (r : Reps K mg F ds xs) (e : ks.length = ds.length) (nd : ks.Nodup) : Rep K mg F (.dct (ks.zip ds)) (.ref p)
  | glo {x : Str} {a : Addr} (h : mg x = some (.ref a)) : Rep K mg F (.glo x) (.ref a)
  | ty (n : String) : Rep K mg F (.ty n) (.ty n)
inductive Reps (K : PySem.W.Frag) (mg : Str → Option Value) (F : Hp) : List D → List V → Prop
  | nil : Reps K mg F [] []
  | cons {d : D} {v : V} {ds : List D} {xs : List V} (h : Rep K mg F d v) (r : Reps K mg F ds xs) : Reps K mg F (d :: ds) (v :: xs)
end

section
variable {K : PySem.W.Frag} {mg : Str → Option Value} {F F' H H' : Hp}
theorem sqT_same {a : Addr} {xs : List V} (e : Same F F') (h : SqT K F a xs) : SqT K F' a xs := by
  rcases h with (h | ⟨o, h⟩) | h
  · exact .inl (.inl (e _ _ h))
  · exact .inl (.inr ⟨o, e _ _ h⟩)
  · exact .inr h
mutual
theorem Rep.mono (e : Same F F') : ∀ {d : D} {v : V}, Rep K mg F d v → Rep K mg F' d v
  | _, _, .non => .non
  | _, _, .bl b => .bl b
  | _, _, .int i => .int i
  | _, _, .str s h => .str s h
  | _, _, .lst h r => .lst (e _ _ h) (Reps.mono e r)
  | _, _, .scr h => .scr (e.seq h)
  | _, _, .tup h r => .tup (sqT_same e h) (Reps.mono e r)
  | _, _, .dct h r l nd => .dct (e _ _ h) (Reps.mono e r) l nd
  | _, _, .glo h => .glo h
  | _, _, .ty n => .ty n
theorem Reps.mono (e : Same F F') : ∀ {ds : List D} {vs : List V}, Reps K mg F ds vs → Reps K mg F' ds vs
  | _, _, .nil => .nil
  | _, _, .cons h r => .cons (Rep.mono e h) (Reps.mono e r)
end
theorem Reps.length : ∀ {ds : List D} {vs : List V}, Reps K mg F ds vs → vs.length = ds.length
  | _, _, .nil => rfl
  | _, _, .cons _ r => by simp [Reps.length r]
theorem Reps.get : ∀ {ds : List D} {vs : List V} {i : Nat} {d : D}, Reps K mg F ds vs → ds[i]? = some d → ∃ v, vs[i]? = some v ∧ Rep K mg F d v
  | _, _, _, _, .nil, e => by simp at e
  | _, _, 0, _, .cons h _, e => by simp at e; subst e; exact ⟨_, rfl, h⟩
  | _, _, i + 1, d, .cons _ r, e => by
    obtain ⟨v, h1, h2⟩ := Reps.get (i := i) (d := d) r (by simpa using e)
    exact ⟨v, by simpa using h1, h2⟩
theorem Reps.append : ∀ {ds es : List D} {vs ws : List V}, Reps K mg F ds vs → Reps K mg F es ws → Reps K mg F (ds ++ es) (vs ++ ws)
  | _, _, _, _, .nil, s => s
  | _, _, _, _, .cons h r, s => .cons h (Reps.append r s)
theorem Reps.take : ∀ {ds : List D} {vs : List V} (n : Nat), Reps K mg F ds vs → Reps K mg F (ds.take n) (vs.take n)
  | _, _, 0, _ => .nil
  | _, _, _ + 1, .nil => .nil
  | _, _, n + 1, .cons h r => .cons h (Reps.take n r)
theorem Reps.drop : ∀ {ds : List D} {vs : List V} (n : Nat), Reps K mg F ds vs → Reps K mg F (ds.drop n) (vs.drop n)
  | _, _, 0, r => r
  | _, _, _ + 1, .nil => .nil
  | _, _, n + 1, .cons _ r => Reps.drop n r
theorem Reps.set : ∀ {ds : List D} {vs : List V} {d : D} {v : V} (i : Nat), Reps K mg F ds vs → Rep K mg F d v → Reps K mg F (ds.set i d) (vs.set i v)
  | _, _, _, _, _, .nil, _ => .nil
  | _, _, _, _, 0, .cons _ r, q => .cons q r
  | _, _, _, _, i + 1, .cons h r, q => .cons h (Reps.set i r q)
theorem Reps.reverse : ∀ {ds : List D} {vs : List V}, Reps K mg F ds vs → Reps K mg F ds.reverse vs.reverse
  | _, _, .nil => .nil
  | _, _, .cons h r => by
    rw [List.reverse_cons, List.reverse_cons]
    exact Reps.append (Reps.reverse r) (.cons h .nil)
theorem Reps.rep {ds : List D} {vs : List V} (r : Reps K mg F ds vs) : ∀ n : Nat, Reps K mg F (List.replicate n ds).flatten (List.replicate n vs).flatten
  | 0 => .nil
  | n + 1 => by
    rw [List.replicate_succ, List.replicate_succ, List.flatten_cons, List.flatten_cons]
    exact r.append (Reps.rep r n)

/-! ### heaps -/
/-- from (F, H) on: what is settled stays so, what stands stays, nothing that stood unsettled is settled -/
structure Ext (F H F' H' : Hp) : Prop where
  sF : Same F F'
  sH : Same H H'
  sub : Same F' H'
  sep : ∀ a o, H a = some o → F a = none → F' a = none
theorem Ext.refl (s : Same F H) : Ext F H F H := ⟨.refl F, .refl H, s, fun _ _ _ h => h⟩
theorem Ext.trans {F1 H1 : Hp} (a : Ext F H F1 H1) (b : Ext F1 H1 F' H') : Ext F H F' H' :=
  ⟨a.sF.trans b.sF, a.sH.trans b.sH, b.sub, fun c o h n => b.sep c o (a.sH c o h) (a.sep c o h n)⟩
theorem same_upd {p : Addr} {o : HO} (h : H p = none) : Same H (upd H p o) := fun b x e => by
  rw [upd_ne (ne_of_none e h)]
  exact e
theorem sub_none {p : Addr} (s : Same F H) (h : H p = none) : F p = none := s.free h
/-- a new object that is settled at once -/
theorem Ext.new {p : Addr} {o : HO} (s : Same F H) (h : H p = none) : Ext F H (upd F p o) (upd H p o) :=
  ⟨same_upd (sub_none s h), same_upd h, fun b x e => by
    by_cases hb : b = p
    · subst hb; rw [upd_same] at e ⊢; exact e
    · rw [upd_ne hb] at e ⊢; exact s b x e, fun a x e n => by rw [upd_ne (ne_of_none e h)]; exact n⟩
/-- a new object that is not -/
theorem Ext.raw {p : Addr} {o : HO} (s : Same F H) (h : H p = none) : Ext F H F (upd H p o) :=
  ⟨.refl F, same_upd h, s.trans (same_upd h), fun _ _ _ n => n⟩
/-- it is settled later -/
theorem Ext.settle {F0 H0 : Hp} {p : Addr} {o : HO} (e : Ext F0 H0 F H) (n0 : H0 p = none) (n : F p = none) (h : H p = some o) : Ext F0 H0 (upd F p o) H :=
  ⟨e.sF.trans (same_upd n), e.sH, fun b x q => by
    by_cases hb : b = p
    · subst hb; rw [upd_same] at q; cases q; exact h
    · rw [upd_ne hb] at q; exact e.sub b x q, fun a x q m => by
    rw [upd_ne (ne_of_none q n0)]; exact e.sep a x q m⟩
end

/-! ### the frame -/
inductive Slot where
  /-- nothing is said; a value that is settled; a list, a dict of the frame's own, that may change -/
  | no | val (d : D) | own (ds : List D) | ownd (kvs : List (Key × D))
  deriving Inhabited
abbrev Env := List Slot

/-- what is fixed in a def's run: the written part, the module's names, what is wished of exceptions, what is known of the slots besides; the entry's settled part, the entry's heap -/
structure Cg where
  K : PySem.W.Frag
  mg : Str → Option Value
  W : WX
  P : St → Prop
  F0 : Hp
  B : Hp
/-- a list of the frame's own -/
def OwnL (C : Cg) (p : Addr) (ds : List D) (F H : Hp) : Prop := ∃ xs, H p = some (.lst xs) ∧ F p = none ∧ C.B p = none ∧ Reps C.K C.mg F ds xs
def OwnD (C : Cg) (p : Addr) (kvs : List (Key × D)) (F H : Hp) : Prop := ∃ (ks : List Key) (ds : List D) (xs : List V), kvs = ks.zip ds ∧ ks.length = ds.length ∧ ks.Nodup ∧ H p = some (.dK (ks.zip xs)) ∧ F p = none ∧ C.B p = none ∧ Reps C.K C.mg F ds xs
def SlotOk (C : Cg) (s : Slot) (o : Option V) (F H : Hp) : Prop := match s with
  | .no => True
  | .val d => ∃ v, o = some v ∧ Rep C.K C.mg F d v
  | .own ds => ∃ p, o = some (.ref p) ∧ OwnL C p ds F H
  | .ownd kvs => ∃ p, o = some (.ref p) ∧ OwnD C p kvs F H
def Slot.isOwn : Slot → Bool
  | .own _ => true
  | .ownd _ => true
  | _ => false
structure EnvOk (C : Cg) (Γ : Env) (σ : St) (F H : Hp) : Prop where
  ext : Ext C.F0 C.B F H
  pre : C.P σ
  len : Γ.length = σ.length
  slot : ∀ (i : Nat) (s : Slot), Γ[i]? = some s → ∃ o, σ[i]? = some o ∧ SlotOk C s o F H
  dist : ∀ (i j : Nat) (s t : Slot) (p : Addr), Γ[i]? = some s → Γ[j]? = some t → s.isOwn = true → t.isOwn = true → σ[i]? = some (some (.ref p)) → σ[j]? = some (some (.ref p)) → i = j
section
variable {C : Cg} {Γ : Env} {σ : St} {F H F' H' : Hp}
theorem EnvOk.sub (e : EnvOk C Γ σ F H) : Same F H := e.ext.sub
theorem SlotOk.ext {s : Slot} {o : Option V} (q : SlotOk C s o F H) (x : Ext F H F' H') : SlotOk C s o F' H' := by
  cases s with
  | no => trivial
  | val d => obtain ⟨v, e, r⟩ := q; exact ⟨v, e, r.mono x.sF⟩
  | own ds => obtain ⟨p, e, xs, h1, h2, h3, r⟩ := q; exact ⟨p, e, xs, x.sH _ _ h1, x.sep _ _ h1 h2, h3, r.mono x.sF⟩
  | ownd kvs => obtain ⟨p, e, ks, ds, xs, e1, l, nd, h1, h2, h3, r⟩ := q; exact ⟨p, e, ks, ds, xs, e1, l, nd, x.sH _ _ h1, x.sep _ _ h1 h2, h3, r.mono x.sF⟩
theorem EnvOk.step (e : EnvOk C Γ σ F H) (x : Ext F H F' H') : EnvOk C Γ σ F' H' :=
  ⟨e.ext.trans x, e.pre, e.len, fun i s h => let ⟨o, h1, h2⟩ := e.slot i s h; ⟨o, h1, h2.ext x⟩, e.dist⟩
theorem EnvOk.val (e : EnvOk C Γ σ F H) {i : Nat} {d : D} (h : Γ[i]? = some (.val d)) : ∃ v, σ[i]? = some (some v) ∧ Rep C.K C.mg F d v := by
  obtain ⟨o, h1, v, h2, r⟩ := e.slot i _ h
  exact ⟨v, by rw [h1, h2], r⟩
theorem getElem?_set_cases {α : Type} {l : List α} {i j : Nat} {a b : α} (h : (l.set i a)[j]? = some b) : (j = i ∧ b = a ∧ i < l.length) ∨ (j ≠ i ∧ l[j]? = some b) := by
  by_cases hj : j = i
  · subst hj
    have hl : j < l.length := by
      have := (List.getElem?_eq_some_iff.mp h).1
      simpa using this
    rw [List.getElem?_set_self hl] at h
    exact .inl ⟨rfl, (Option.some.inj h).symm, hl⟩
  · rw [List.getElem?_set_ne (Ne.symm hj)] at h
    exact .inr ⟨hj, h⟩
/-- a slot is stored; what is said of the slots besides is not lost -/
theorem EnvOk.set (e : EnvOk C Γ σ F H) {i : Nat} {s : Slot} {o : Option V} (hp : C.P (σ.set i o)) (q : SlotOk C s o F H)
    (hd : s.isOwn = true → ∀ (j : Nat) (t : Slot) (p : Addr), j ≠ i → Γ[j]? = some t → t.isOwn = true → σ[j]? = some (some (.ref p)) → o ≠ some (.ref p)) : EnvOk C (Γ.set i s) (σ.set i o) F H := by
  refine ⟨e.ext, hp, by simp [e.len], fun j t h => ?_, fun j k s1 s2 p h1 h2 o1 o2 g1 g2 => ?_⟩
  · rcases getElem?_set_cases h with ⟨rfl, rfl, hl⟩ | ⟨hj, h⟩
    · exact ⟨o, by rw [List.getElem?_set_self (by rw [← e.len]; exact hl)], q⟩
    · obtain ⟨o', h1, h2⟩ := e.slot j t h
      exact ⟨o', by rw [List.getElem?_set_ne (Ne.symm hj)]; exact h1, h2⟩
  · rcases getElem?_set_cases h1 with ⟨rfl, rfl, hl⟩ | ⟨hj, h1'⟩
    · rcases getElem?_set_cases h2 with ⟨rfl, rfl, _⟩ | ⟨hk, h2⟩
      · rfl
      · rw [List.getElem?_set_self (by rw [← e.len]; exact hl)] at g1
        rw [List.getElem?_set_ne (Ne.symm hk)] at g2
        exact absurd (Option.some.inj g1) (hd o1 k s2 p hk h2 o2 g2)
    · rcases getElem?_set_cases h2 with ⟨rfl, rfl, hl⟩ | ⟨hk, h2⟩
      · rw [List.getElem?_set_self (by rw [← e.len]; exact hl)] at g2
        rw [List.getElem?_set_ne (Ne.symm hj)] at g1
        exact absurd (Option.some.inj g2) (hd o2 j s1 p hj h1' o1 g1)
      · rw [List.getElem?_set_ne (Ne.symm hj)] at g1
        rw [List.getElem?_set_ne (Ne.symm hk)] at g2
        exact e.dist j k s1 s2 p h1' h2 o1 o2 g1 g2
theorem EnvOk.setV (e : EnvOk C Γ σ F H) {i : Nat} {d : D} {v : V} (hp : C.P (σ.set i (some v))) (r : Rep C.K C.mg F d v) : EnvOk C (Γ.set i (.val d)) (σ.set i (some v)) F H :=
  e.set hp ⟨v, rfl, r⟩ fun z => by cases z
/-- the address of an own list is not that of another own slot's -/
theorem EnvOk.ownNe (e : EnvOk C Γ σ F H) {j : Nat} {t : Slot} {p : Addr} (h : Γ[j]? = some t) (o : t.isOwn = true) (g : σ[j]? = some (some (.ref p))) : ∃ u, H p = some u := by
  obtain ⟨o', h1, h2⟩ := e.slot j t h
  rw [g] at h1; cases h1
  cases t with
  | own ds => obtain ⟨q, e1, xs, h3, _⟩ := h2; cases e1; exact ⟨_, h3⟩
  | ownd kvs => obtain ⟨q, e1, ks, ds, xs, _, _, _, h3, _⟩ := h2; cases e1; exact ⟨_, h3⟩
  | _ => cases o
theorem EnvOk.setOwn (e : EnvOk C Γ σ F H) (x : Ext F H F' H') {i : Nat} {ds : List D} {p : Addr} {xs : List V} (hp : C.P (σ.set i (some (.ref p)))) (n : H p = none) (h : H' p = some (.lst xs)) (nF : F' p = none) (r : Reps C.K C.mg F' ds xs) :
    EnvOk C (Γ.set i (.own ds)) (σ.set i (some (.ref p))) F' H' := by
  refine (e.step x).set hp ⟨p, rfl, xs, h, nF, e.ext.sH.free n, r⟩ fun _ j t q hj ht ot hq z => ?_
  cases z
  obtain ⟨u, hu⟩ := e.ownNe ht ot hq
  rw [n] at hu; cases hu
theorem EnvOk.setOwnD (e : EnvOk C Γ σ F H) (x : Ext F H F' H') {i : Nat} {ks : List Key} {ds : List D} {p : Addr} {xs : List V} (hp : C.P (σ.set i (some (.ref p)))) (l : ks.length = ds.length) (nd : ks.Nodup) (n : H p = none) (h : H' p = some (.dK (ks.zip xs))) (nF : F' p = none) (r : Reps C.K C.mg F' ds xs) :
    EnvOk C (Γ.set i (.ownd (ks.zip ds))) (σ.set i (some (.ref p))) F' H' := by
  refine (e.step x).set hp ⟨p, rfl, ks, ds, xs, rfl, l, nd, h, nF, e.ext.sH.free n, r⟩ fun _ j t q hj ht ot hq z => ?_
  cases z
  obtain ⟨u, hu⟩ := e.ownNe ht ot hq
  rw [n] at hu; cases hu
/-- an own list, an own dict is changed -/
theorem EnvOk.mut (e : EnvOk C Γ σ F H) {i : Nat} {t s : Slot} {p : Addr} {o : HO} (ht : Γ[i]? = some t) (ot : t.isOwn = true) (os : s.isOwn = true) (g : σ[i]? = some (some (.ref p))) (nF : F p = none) (nB : C.B p = none) (q : SlotOk C s (some (.ref p)) F (upd H p o)) :
    EnvOk C (Γ.set i s) σ F (upd H p o) := by
  have other : ∀ j t', j ≠ i → Γ[j]? = some t' → t'.isOwn = true → σ[j]? ≠ some (some (.ref p)) := fun j t' hj h1 h2 h3 => hj (e.dist j i t' t p h1 ht h2 ot h3 g)
  refine ⟨⟨e.ext.sF, fun b x h => by rw [upd_ne (ne_of_none h nB)]; exact e.ext.sH b x h, fun b x h => by rw [upd_ne (ne_of_none h nF)]; exact e.ext.sub b x h, e.ext.sep⟩, e.pre, by simp [e.len], fun j u h => ?_, fun j k s1 s2 r h1 h2 o1 o2 g1 g2 => ?_⟩
  · rcases getElem?_set_cases h with ⟨rfl, rfl, hl⟩ | ⟨hj, h⟩
    · exact ⟨_, g, q⟩
    · obtain ⟨o', h1, h2⟩ := e.slot j u h
      refine ⟨o', h1, ?_⟩
      cases u with
      | no => trivial
      | val d => exact h2
      | own ds =>
        obtain ⟨r, e1, xs, h3, h4⟩ := h2
        subst e1
        refine ⟨r, rfl, xs, ?_, h4⟩
        rw [upd_ne]
        · exact h3
        · intro z; subst z; exact other j _ hj h rfl h1
      | ownd kvs =>
        obtain ⟨r, e1, ks, ds, xs, a1, a2, a3, h3, h4⟩ := h2
        subst e1
        refine ⟨r, rfl, ks, ds, xs, a1, a2, a3, ?_, h4⟩
        rw [upd_ne]
        · exact h3
        · intro z; subst z; exact other j _ hj h rfl h1
  · have own' : ∀ {j : Nat} {s1 : Slot}, (Γ.set i s)[j]? = some s1 → s1.isOwn = true → ∃ t', Γ[j]? = some t' ∧ t'.isOwn = true := fun {j s1} h o => by
      rcases getElem?_set_cases h with ⟨rfl, _, _⟩ | ⟨_, h⟩
      · exact ⟨t, ht, ot⟩
      · exact ⟨s1, h, o⟩
    obtain ⟨t1, a1, b1⟩ := own' h1 o1
    obtain ⟨t2, a2, b2⟩ := own' h2 o2
    exact e.dist j k t1 t2 r a1 a2 b1 b2 g1 g2
/-- an own list is settled -/
theorem EnvOk.settleAt (e : EnvOk C Γ σ F H) {i : Nat} {t : Slot} {d : D} {p : Addr} {o : HO} (h : Γ[i]? = some t) (ot : t.isOwn = true) (h1 : σ[i]? = some (some (.ref p))) (h3 : H p = some o) (h4 : F p = none) (h5 : C.B p = none) (r : Rep C.K C.mg (upd F p o) d (.ref p)) :
    EnvOk C (Γ.set i (.val d)) σ (upd F p o) H := by
  have s1 : Same F (upd F p o) := same_upd h4
  refine ⟨e.ext.settle h5 h4 h3, e.pre, by simp [e.len], fun j u g => ?_, fun j k s1 s2 q g1 g2 o1 o2 w1 w2 => ?_⟩
  · rcases getElem?_set_cases g with ⟨rfl, rfl, hl⟩ | ⟨hj, g⟩
    · exact ⟨_, h1, _, rfl, r⟩
    · obtain ⟨o', a1, a2⟩ := e.slot j u g
      refine ⟨o', a1, ?_⟩
      cases u with
      | no => trivial
      | val d => obtain ⟨v, b1, b2⟩ := a2; exact ⟨v, b1, b2.mono s1⟩
      | own ds =>
        obtain ⟨q, b1, xs, b2, b3, b4, b5⟩ := a2
        subst b1
        refine ⟨q, rfl, xs, b2, ?_, b4, b5.mono s1⟩
        rw [upd_ne]
        · exact b3
        · intro z; subst z; exact hj (e.dist j i _ _ q g h rfl ot a1 h1)
      | ownd kvs =>
        obtain ⟨q, b1, ks, ds, xs, c1, c2, c3, b2, b3, b4, b5⟩ := a2
        subst b1
        refine ⟨q, rfl, ks, ds, xs, c1, c2, c3, b2, ?_, b4, b5.mono s1⟩
        rw [upd_ne]
        · exact b3
        · intro z; subst z; exact hj (e.dist j i _ _ q g h rfl ot a1 h1)
  · rcases getElem?_set_cases g1 with ⟨rfl, rfl, _⟩ | ⟨_, g1⟩
    · cases o1
    · rcases getElem?_set_cases g2 with ⟨rfl, rfl, _⟩ | ⟨_, g2⟩
      · cases o2
      · exact e.dist j k s1 s2 q g1 g2 o1 o2 w1 w2
theorem EnvOk.settle (e : EnvOk C Γ σ F H) {i : Nat} {ds : List D} (h : Γ[i]? = some (.own ds)) : ∃ F', EnvOk C (Γ.set i (.val (.lst ds))) σ F' H ∧ Same F F' := by
  obtain ⟨o, h1, p, h2, xs, h3, h4, h5, r⟩ := e.slot i _ h
  subst h2
  exact ⟨_, e.settleAt h rfl h1 h3 h4 h5 (.lst upd_same (r.mono (same_upd h4))), same_upd h4⟩
theorem EnvOk.settleD (e : EnvOk C Γ σ F H) {i : Nat} {kvs : List (Key × D)} (h : Γ[i]? = some (.ownd kvs)) : ∃ F', EnvOk C (Γ.set i (.val (.dct kvs))) σ F' H ∧ Same F F' := by
  obtain ⟨o, h1, p, h2, ks, ds, xs, e1, l, nd, h3, h4, h5, r⟩ := e.slot i _ h
  subst h2 e1
  exact ⟨_, e.settleAt h rfl h1 h3 h4 h5 (.dct upd_same (r.mono (same_upd h4)) l nd), same_upd h4⟩
end

/-! ### what an evaluation's end asks -/
/-- an exception of the module's class n with its field -/
def ExcR (K : PySem.W.Frag) (mg : Str → Option Value) (n : Str) (d : Option D) (cls : Value) (dv : Option Addr) (F H : Hp) : Prop :=
  mg n = some cls ∧ (∃ C, cls = .ref C) ∧ match d with
    | none => dv = none
    | some x => ∃ a v, dv = some a ∧ H a = some (.xd [("number", v)]) ∧ Rep K mg F x v
def Post (C : Cg) (E : XK) (F H : Hp) {α : Type} (r : R α) (k : α → Hp → Hp → Prop) : Prop := match r with
  | .ok a => ∀ F' H', Ext F H F' H' → k a F' H'
  | .exc n d => ∀ F' H' cls dv, Ext F H F' H' → ExcR C.K C.mg n d cls dv F' H' → E cls dv H'
  | .stuck => False
section
variable {C : Cg} {E : XK} {Γ : Env} {σ : St} {F H F' H' : Hp} {α β : Type}
theorem Post.step {r : R α} {k : α → Hp → Hp → Prop} (h : Post C E F H r k) (x : Ext F H F' H') : Post C E F' H' r k := by
  cases r with
  | ok a => exact fun F2 H2 y => h F2 H2 (x.trans y)
  | exc n d => exact fun F2 H2 cls dv y q => h F2 H2 cls dv (x.trans y) q
  | stuck => exact h
theorem Post.bind {r : R α} {f : α → R β} {k : β → Hp → Hp → Prop} {k' : α → Hp → Hp → Prop} (h : Post C E F H (r >>= f) k) (hk : ∀ a F' H', Ext F H F' H' → Post C E F' H' (f a) k → k' a F' H') : Post C E F H r k' := by
  cases r with
  | ok a => exact fun F' H' x => hk a F' H' x (Post.step (show Post C E F H (f a) k from h) x)
  | exc n d => exact h
  | stuck => exact h
theorem Post.imp {r : R α} {k k' : α → Hp → Hp → Prop} (h : Post C E F H r k) (hk : ∀ a F' H', Ext F H F' H' → k a F' H' → k' a F' H') : Post C E F H r k' := by
  cases r with
  | ok a => exact fun F' H' x => hk a F' H' x (h F' H' x)
  | exc n d => exact h
  | stuck => exact h
end
abbrev kV (C : Cg) (Q : VK) : D → Hp → Hp → Prop := fun d F' H' => ∀ v, Rep C.K C.mg F' d v → Q v H'
/-- what may be read: settled, or a list of the frame's own -/
def RepR (C : Cg) (F H : Hp) (d : D) (v : V) : Prop := Rep C.K C.mg F d v ∨ ∃ p ds xs, d = .lst ds ∧ v = .ref p ∧ H p = some (.lst xs) ∧ F p = none ∧ Reps C.K C.mg F ds xs
/-- a new list, not settled -/
def kL (C : Cg) (H : Hp) (Q : VK) : List D → Hp → Hp → Prop := fun ds F' H' => ∀ p xs, H p = none → H' p = some (.lst xs) → F' p = none → Reps C.K C.mg F' ds xs → Q (.ref p) H'

/-! ### judgements: an expression, its reading by the layer, its plain function -/
structure FE (X : Cx) (C : Cg) (e : Expr) (t : TE) (m : Env → R D) : Prop where
  pe : PE X e t
  rd : ∀ Γ σ F H Q, EnvOk C Γ σ F H → Post C (WE C.W σ) F H (m Γ) (kV C Q) → t σ H Q
/-- a readable value -/
structure FR (X : Cx) (C : Cg) (e : Expr) (t : TE) (m : Env → R D) : Prop where
  pe : PE X e t
  rd : ∀ Γ σ F H Q, EnvOk C Γ σ F H → Post C (WE C.W σ) F H (m Γ) (fun d F' H' => ∀ v, RepR C F' H' d v → Q v H') → t σ H Q
/-- a new list -/
structure FL (X : Cx) (C : Cg) (e : Expr) (t : TE) (m : Env → R (List D)) : Prop where
  pe : PE X e t
  rd : ∀ Γ σ F H Q, EnvOk C Γ σ F H → Post C (WE C.W σ) F H (m Γ) (kL C H Q) → t σ H Q
structure FT (X : Cx) (C : Cg) (e : Expr) (t : TT) (m : Env → R Bool) : Prop where
  pt : PT X e t
  rd : ∀ Γ σ F H Q, EnvOk C Γ σ F H → Post C (WE C.W σ) F H (m Γ) (fun b _ H' => Q b H') → t σ H Q
structure FW (X : Cx) (C : Cg) (e : Expr) (t : TT) (m : Env → R Bool) : Prop where
  pw : PW X e t
  rd : ∀ Γ σ F H Q, EnvOk C Γ σ F H → Post C (WE C.W σ) F H (m Γ) (fun b _ H' => Q b H') → t σ H Q
structure FA (X : Cx) (C : Cg) (es : List Expr) (t : TA) (m : Env → R (List D)) : Prop where
  pa : PA X es t
  rd : ∀ Γ σ F H Q, EnvOk C Γ σ F H → Post C (WE C.W σ) F H (m Γ) (fun ds F' H' => ∀ vs, Reps C.K C.mg F' ds vs → Q vs H') → t σ H Q
end FL

set_option Elab.async false
set_option linter.all false
set_option maxRecDepth 100000
set_option maxHeartbeats 2000000
/-! FL, part 2: expressions. -/
namespace FL
open PySem PySem.Spec PyProof.Rows L2
set_option autoImplicit false
section
variable {C : Cg} {F H F' H' : Hp} {d : D} {v : V}
theorem RepR.ext (x : Ext F H F' H') (h : RepR C F H d v) : RepR C F' H' d v := by
  rcases h with h | ⟨p, ds, xs, h1, h2, h3, h4, h5⟩
  · exact .inl (h.mono x.sF)
  · exact .inr ⟨p, ds, xs, h1, h2, x.sH _ _ h3, x.sep _ _ h3 h4, h5.mono x.sF⟩
theorem RepR.lst (s : Same F H) {ds : List D} (h : RepR C F H (.lst ds) v) : ∃ p xs, v = .ref p ∧ H p = some (.lst xs) ∧ Reps C.K C.mg F ds xs := by
  rcases h with h | ⟨p, ds', xs, h1, h2, h3, h4, h5⟩
  · cases h with
    | lst h r => exact ⟨_, _, rfl, s _ _ h, r⟩
  · cases h1; exact ⟨p, xs, h2, h3, h5⟩
theorem RepR.int {i : Int} (h : RepR C F H (.int i) v) : v = .int i := by
  rcases h with h | ⟨p, ds', xs, h1, _⟩
  · cases h; rfl
  · cases h1
theorem RepR.bl {i : Bool} (h : RepR C F H (.bl i) v) : v = .bl i := by
  rcases h with h | ⟨p, ds', xs, h1, _⟩
  · cases h; rfl
  · cases h1
theorem RepR.non (h : RepR C F H .non v) : v = .non := by
  rcases h with h | ⟨p, ds', xs, h1, _⟩
  · cases h; rfl
  · cases h1
theorem RepR.str {i : List Nat} (h : RepR C F H (.str i) v) : v = .str (mk i) ∧ okS i := by
  rcases h with h | ⟨p, ds', xs, h1, _⟩
  · cases h with
    | str _ h => exact ⟨rfl, h⟩
  · cases h1
theorem RepR.ty {n : String} (h : RepR C F H (.ty n) v) : v = .ty n := by
  rcases h with h | ⟨p, ds', xs, h1, _⟩
  · cases h; rfl
  · cases h1
theorem RepR.glo {n : Str} (h : RepR C F H (.glo n) v) : ∃ a, v = .ref a ∧ C.mg n = some (.ref a) := by
  rcases h with h | ⟨p, ds', xs, h1, _⟩
  · cases h with
    | glo h => exact ⟨_, rfl, h⟩
  · cases h1
theorem RepR.tup (s : Same F H) {ds : List D} (h : RepR C F H (.tup ds) v) : ∃ p xs, v = .ref p ∧ SqT C.K H p xs ∧ Reps C.K C.mg F ds xs := by
  rcases h with h | ⟨p, ds', xs, h1, _⟩
  · cases h with
    | tup h r => exact ⟨_, _, rfl, sqT_same s h, r⟩
  · cases h1
theorem RepR.scr (s : Same F H) {ns : List Int} (h : RepR C F H (.scr ns) v) : ∃ p, v = .ref p ∧ SqL C.K H p (ns.map V.int) := by
  rcases h with h | ⟨p, ds', xs, h1, _⟩
  · cases h with
    | scr h => exact ⟨_, rfl, s.seq h⟩
  · cases h1
theorem RepR.dct (s : Same F H) {kvs : List (Key × D)} (h : RepR C F H (.dct kvs) v) : ∃ (p : Addr) (ks : List Key) (xs : List V) (ds : List D), v = .ref p ∧ kvs = ks.zip ds ∧ ks.length = ds.length ∧ ks.Nodup ∧ H p = some (.dK (ks.zip xs)) ∧ Reps C.K C.mg F ds xs := by
  rcases h with h | ⟨p, ds', xs, h1, _⟩
  · generalize e : D.dct kvs = d at h
    cases h with
    | dct h r l nd => cases e; exact ⟨_, _, _, _, rfl, rfl, l, nd, s _ _ h, r⟩
    | _ => cases e
  · cases h1
theorem reps_ints {ns : List Int} : Reps C.K C.mg F (ns.map D.int) (ns.map V.int) := by
  induction ns with
  | nil => exact .nil
  | cons n ns ih => exact .cons (.int n) ih
end
/-- readable values -/
inductive RepRs (C : Cg) (F H : Hp) : List D → List V → Prop
  | nil : RepRs C F H [] []
  | cons {d : D} {v : V} {ds : List D} {vs : List V} (h : RepR C F H d v) (r : RepRs C F H ds vs) : RepRs C F H (d :: ds) (v :: vs)
theorem RepRs.ext {C : Cg} {F H F' H' : Hp} (x : Ext F H F' H') : ∀ {ds : List D} {vs : List V}, RepRs C F H ds vs → RepRs C F' H' ds vs
  | _, _, .nil => .nil
  | _, _, .cons h r => .cons (h.ext x) (r.ext x)
/-- arguments of a built-in: readable -/
structure FB (X : Cx) (C : Cg) (es : List Expr) (t : TA) (m : Env → R (List D)) : Prop where
  pa : PA X es t
  rd : ∀ Γ σ F H Q, EnvOk C Γ σ F H → Post C (WE C.W σ) F H (m Γ) (fun ds F' H' => ∀ vs, RepRs C F' H' ds vs → Q vs H') → t σ H Q

section
variable {X : Cx} {C : Cg} {a b c : Expr} {ta tb tc : TE} {ma mb mc : Env → R D} {pos : Pos}
theorem FE.r (h : FE X C a ta ma) : FR X C a ta ma := ⟨h.pe, fun Γ σ F H Q e p => h.rd Γ σ F H Q e (p.imp fun _ _ _ _ q v r => q v (.inl r))⟩
/-- a new list is settled -/
theorem FL.e {m : Env → R (List D)} (h : FL X C a ta m) : FE X C a ta (fun Γ => do let x ← m Γ; pure (.lst x)) := ⟨h.pe, fun Γ σ F H Q e p => h.rd Γ σ F H Q e (by
  revert p
  show Post C (WE C.W σ) F H (m Γ >>= fun x => pure (.lst x)) (kV C Q) → _
  cases m Γ with
  | ok ds => exact fun p F' H' x q xs n hp nF r => p _ _ (x.settle n nF hp) _ (.lst upd_same (r.mono (same_upd nF)))
  | exc n d => exact id
  | stuck => exact id)⟩
theorem FL.r {m : Env → R (List D)} (h : FL X C a ta m) : FR X C a ta (fun Γ => do let x ← m Γ; pure (.lst x)) := ⟨h.pe, fun Γ σ F H Q e p => h.rd Γ σ F H Q e (Post.bind p fun ds F' H' x q pp xs n hp nF r => q F' H' (Ext.refl x.sub) _ (.inr ⟨pp, ds, xs, rfl, rfl, hp, nF, r⟩))⟩

/-! ### names, constants -/
def mVar (i : Nat) : Env → R D := fun Γ => match Γ[i]? with
  | some (.val d) => .ok d
  | _ => .stuck
def mVarR (i : Nat) : Env → R D := fun Γ => match Γ[i]? with
  | some (.val d) => .ok d
  | some (.own ds) => .ok (.lst ds)
  | _ => .stuck
theorem fe_var {i : Nat} {x : Str} (h : PE X (.Name x pos) (tVar i)) : FE X C (.Name x pos) (tVar i) (mVar i) := ⟨h, fun Γ σ F H Q e p => by
  unfold mVar at p
  split at p
  · rename_i d hd
    obtain ⟨v, h1, r⟩ := e.val hd
    exact ⟨v, h1, p F H (Ext.refl e.sub) v r⟩
  · exact p.elim⟩
theorem fr_var {i : Nat} {x : Str} (h : PE X (.Name x pos) (tVar i)) : FR X C (.Name x pos) (tVar i) (mVarR i) := ⟨h, fun Γ σ F H Q e p => by
  unfold mVarR at p
  split at p
  · rename_i d hd
    obtain ⟨v, h1, r⟩ := e.val hd
    exact ⟨v, h1, p F H (Ext.refl e.sub) v (.inl r)⟩
  · rename_i ds hd
    obtain ⟨o, h1, q, h2, xs, h3, h4, h5, r⟩ := e.slot i _ hd
    subst h2
    exact ⟨_, h1, p F H (Ext.refl e.sub) _ (.inr ⟨q, ds, xs, rfl, rfl, h3, h4, r⟩)⟩
  · exact p.elim⟩
/-- a constant -/
def mC (d : D) : Env → R D := fun _ => .ok d
theorem fe_tC {e : Expr} {v : V} {d : D} (h : PE X e (tC v)) (r : ∀ F, Rep C.K C.mg F d v) : FE X C e (tC v) (mC d) := ⟨h, fun Γ σ F H Q e p => p F H (Ext.refl e.sub) v (r F)⟩
theorem fe_int {i : Int} {j : Nat} : FE X C (.Constant (.int i) j pos) (tC (.int i)) (mC (.int i)) := fe_tC pe_int fun _ => .int i
theorem fe_bl {i : Bool} {j : Nat} : FE X C (.Constant (.bool i) j pos) (tC (.bl i)) (mC (.bl i)) := fe_tC pe_bl fun _ => .bl i
theorem fe_non {j : Nat} : FE X C (.Constant .none j pos) (tC .non) (mC .non) := fe_tC pe_non fun _ => .non
theorem fe_str {x : Str} {j : Nat} (l : List Nat) (h : x = mk l) (ok : (l.all fun c => decide (c < 1114112)) = true) : FE X C (.Constant (.str x) j pos) (tC (.str x)) (mC (.str l)) := fe_tC pe_str fun _ => by rw [h]; exact .str l (okS_of ok)
/-- a module's constant, class, def -/
theorem fe_glob {x : Str} {u : Value} {v : V} (d : D) (hg : Gl X x) (hm : X.mg x = some u) (r : RelV v u) (q : ∀ F, Rep C.K C.mg F d v) (hd : (x == ("__debug__" : Str)) = false := by decide) : FE X C (.Name x pos) (tC v) (mC d) := fe_tC (pe_glob hg hm r hd) q
/-- a built-in class -/
theorem fe_ty {x : Str} (n : String) (hg : Gl X x) (hm : X.mg x = none) (hv : bootBuiltins x = some (.type n)) (hn : x ≠ "__name__" := by decide) (hd : (x == ("__debug__" : Str)) = false := by decide) : FE X C (.Name x pos) (tC (.ty n)) (mC (.ty n)) := fe_tC (pe_bltn hg hm hv rfl hn hd) fun _ => .ty n

/-! ### operators by values -/
def OpS (C : Cg) (r : R2) (g : D → D → R D) : Prop := ∀ (d1 d2 : D) (v1 v2 : V) (F H : Hp) (E : XK) (Q : VK), Same F H → RepR C F H d1 v1 → RepR C F H d2 v2 → Post C E F H (g d1 d2) (kV C Q) → r v1 v2 H Q
def mOp (g : D → D → R D) (ma mb : Env → R D) : Env → R D := fun Γ => do let x ← ma Γ; let y ← mb Γ; g x y
theorem op_rd {r : R2} {g : D → D → R D} (hs : OpS C r g) (ha : FR X C a ta ma) (hb : FR X C b tb mb) : ∀ Γ σ F H Q, EnvOk C Γ σ F H → Post C (WE C.W σ) F H (mOp g ma mb Γ) (kV C Q) → tOp r ta tb σ H Q := fun Γ σ F H Q e p =>
  ha.rd Γ σ F H _ e (Post.bind p fun x F1 H1 x1 p1 v1 r1 => hb.rd Γ σ F1 H1 _ (e.step x1) (Post.bind p1 fun y F2 H2 x2 p2 v2 r2 => hs x y v1 v2 F2 H2 _ Q x2.sub (r1.ext x2) r2 p2))
theorem fe_op {op : Operator} {r : R2} {g : D → D → R D} (ho : OpR X (binaryOp op) r) (hs : OpS C r g) (ha : FR X C a ta ma) (hb : FR X C b tb mb) : FE X C (.BinOp a op b pos) (tOp r ta tb) (mOp g ma mb) :=
  ⟨pe_op ho ha.pe hb.pe, op_rd hs ha hb⟩
theorem fe_cmpo {op : CmpOp} {r : R2} {g : D → D → R D} (ho : OpR X (compareOp op) r) (hs : OpS C r g) (ha : FR X C a ta ma) (hb : FR X C b tb mb) (hm : behindInMarks op b = false) : FE X C (.Compare a [op] [b] pos) (tOp r ta tb) (mOp g ma mb) :=
  ⟨pe_cmpR ho ha.pe hb.pe hm, op_rd hs ha hb⟩
theorem fe_ix {r : R2} {g : D → D → R D} (ho : IxR X r) (hs : OpS C r g) (ha : FR X C a ta ma) (hb : FR X C b tb mb) (h : PlainIx b) : FE X C (.Subscript a b pos) (tOp r ta tb) (mOp g ma mb) :=
  ⟨pe_ix ho ha.pe hb.pe h, op_rd hs ha hb⟩
/-- a truth as a test -/
def asB : D → R Bool
  | .bl b => .ok b
  | _ => .stuck
def mT (m : Env → R D) : Env → R Bool := fun Γ => do let x ← m Γ; asB x
theorem tB_rd {t : TE} {m : Env → R D} (h : ∀ Γ σ F H Q, EnvOk C Γ σ F H → Post C (WE C.W σ) F H (m Γ) (kV C Q) → t σ H Q) : ∀ Γ σ F H Q, EnvOk C Γ σ F H → Post C (WE C.W σ) F H (mT m Γ) (fun b _ H' => Q b H') → tTest t σ H Q := fun Γ σ F H Q e p =>
  h Γ σ F H _ e (Post.bind p fun x F1 H1 x1 p1 v r => by
    cases r with
    | bl b => exact ⟨b, rfl, p1 F1 H1 (Ext.refl x1.sub)⟩
    | _ => exact p1.elim)
theorem ft_cmp {op : CmpOp} {r : R2} {g : D → D → R D} (ho : OpR X (compareOp op) r) (hs : OpS C r g) (ha : FR X C a ta ma) (hb : FR X C b tb mb) (hm : behindInMarks op b = false) : FT X C (.Compare a [op] [b] pos) (tTest (tOp r ta tb)) (mT (mOp g ma mb)) :=
  ⟨pt_cmpR ho ha.pe hb.pe hm, tB_rd (op_rd hs ha hb)⟩
theorem ft_val (h : FE X C a ta ma) (he : ∀ whole, isTrue a X.env whole = (do let v ← whole; standAt a.pos; holding [v] (truthy v)) := by intro _; rfl) : FT X C a (tB ta) (mT ma) :=
  ⟨pt_val h.pe he, tB_rd h.rd⟩
/-! ### and, or, not, if -/
def mAnd (p q : Env → R Bool) : Env → R Bool := fun Γ => do let x ← p Γ; if x then q Γ else pure false
def mOr (p q : Env → R Bool) : Env → R Bool := fun Γ => do let x ← p Γ; if x then pure true else q Γ
def mNot (p : Env → R Bool) : Env → R Bool := fun Γ => do let x ← p Γ; pure (!x)
section
variable {tA tB' : TT} {rest : List Expr} {mA mB : Env → R Bool}
theorem FW.t {e : Expr} (h : FW X C e tA mA) : FT X C e tA mA := ⟨h.pw.pt, h.rd⟩
theorem fw_and1 (ha : FT X C a tA mA) : FW X C (.BoolOp .And [a] pos) tA mA := ⟨pw_and1 ha.pt, ha.rd⟩
theorem fw_or1 (ha : FT X C a tA mA) : FW X C (.BoolOp .Or [a] pos) tA mA := ⟨pw_or1 ha.pt, ha.rd⟩
theorem fw_and (ha : FT X C a tA mA) (hb : FW X C (.BoolOp .And (b :: rest) pos) tB' mB) : FW X C (.BoolOp .And (a :: b :: rest) pos) (tAnd tA tB') (mAnd mA mB) :=
  ⟨pw_and ha.pt hb.pw, fun Γ σ F H Q e p => ha.rd Γ σ F H _ e (Post.bind p fun x F1 H1 x1 p1 => by
    cases x with
    | true => exact iteT (hb.rd Γ σ F1 H1 Q (e.step x1) p1)
    | false => exact iteF (p1 F1 H1 (Ext.refl x1.sub)))⟩
theorem fw_or (ha : FT X C a tA mA) (hb : FW X C (.BoolOp .Or (b :: rest) pos) tB' mB) : FW X C (.BoolOp .Or (a :: b :: rest) pos) (tOr tA tB') (mOr mA mB) :=
  ⟨pw_or ha.pt hb.pw, fun Γ σ F H Q e p => ha.rd Γ σ F H _ e (Post.bind p fun x F1 H1 x1 p1 => by
    cases x with
    | true => exact iteT (p1 F1 H1 (Ext.refl x1.sub))
    | false => exact iteF (hb.rd Γ σ F1 H1 Q (e.step x1) p1))⟩
theorem ft_not (ha : FT X C a tA mA) : FT X C (.UnaryOp .Not a pos) (tNot tA) (mNot mA) :=
  ⟨pt_not ha.pt, fun Γ σ F H Q e p => ha.rd Γ σ F H _ e (Post.bind p fun x F1 H1 x1 p1 => p1 F1 H1 (Ext.refl x1.sub))⟩
end
def mAndV (p q : Env → R D) : Env → R D := fun Γ => do let x ← p Γ; let k ← asB x; if k then q Γ else pure (.bl false)
def mOrV (p q : Env → R D) : Env → R D := fun Γ => do let x ← p Γ; let k ← asB x; if k then pure (.bl true) else q Γ
def mNotV (p : Env → R D) : Env → R D := fun Γ => do let x ← p Γ; let k ← asB x; pure (.bl (!k))
def mIf (p : Env → R Bool) (q r : Env → R D) : Env → R D := fun Γ => do let x ← p Γ; if x then q Γ else r Γ
theorem fe_one {op : BoolOp} (h : FE X C a ta ma) : FE X C (.BoolOp op [a] pos) ta ma := ⟨pe_one h.pe, h.rd⟩
theorem fe_and {rest : List Expr} (ha : FE X C a ta ma) (hb : FE X C (.BoolOp .And (b :: rest) pos) tb mb) : FE X C (.BoolOp .And (a :: b :: rest) pos) (tAndV ta tb) (mAndV ma mb) :=
  ⟨pe_and ha.pe hb.pe, fun Γ σ F H Q e p => ha.rd Γ σ F H _ e (Post.bind p fun x F1 H1 x1 p1 v r => by
    cases r with
    | bl k =>
      cases k with
      | true => exact ⟨true, rfl, iteT (hb.rd Γ σ F1 H1 Q (e.step x1) p1)⟩
      | false => exact ⟨false, rfl, iteF (p1 F1 H1 (Ext.refl x1.sub) _ (.bl false))⟩
    | _ => exact p1.elim)⟩
theorem fe_or {rest : List Expr} (ha : FE X C a ta ma) (hb : FE X C (.BoolOp .Or (b :: rest) pos) tb mb) : FE X C (.BoolOp .Or (a :: b :: rest) pos) (tOrV ta tb) (mOrV ma mb) :=
  ⟨pe_or ha.pe hb.pe, fun Γ σ F H Q e p => ha.rd Γ σ F H _ e (Post.bind p fun x F1 H1 x1 p1 v r => by
    cases r with
    | bl k =>
      cases k with
      | true => exact ⟨true, rfl, iteT (p1 F1 H1 (Ext.refl x1.sub) _ (.bl true))⟩
      | false => exact ⟨false, rfl, iteF (hb.rd Γ σ F1 H1 Q (e.step x1) p1)⟩
    | _ => exact p1.elim)⟩
theorem fe_not (ha : FE X C a ta ma) : FE X C (.UnaryOp .Not a pos) (tNotV ta) (mNotV ma) :=
  ⟨pe_not ha.pe, fun Γ σ F H Q e p => ha.rd Γ σ F H _ e (Post.bind p fun x F1 H1 x1 p1 v r => by
    cases r with
    | bl k => exact ⟨k, rfl, p1 F1 H1 (Ext.refl x1.sub) _ (.bl _)⟩
    | _ => exact p1.elim)⟩
theorem fe_ifExp {cd : Expr} {tA : TT} {mA : Env → R Bool} (hc : FT X C cd tA mA) (ha : FE X C a ta ma) (hb : FE X C b tb mb) : FE X C (.IfExp cd a b pos) (tIf tA ta tb) (mIf mA ma mb) :=
  ⟨pe_ifExp hc.pt ha.pe hb.pe, fun Γ σ F H Q e p => hc.rd Γ σ F H _ e (Post.bind p fun x F1 H1 x1 p1 => by
    cases x with
    | true => exact iteT (ha.rd Γ σ F1 H1 Q (e.step x1) p1)
    | false => exact iteF (hb.rd Γ σ F1 H1 Q (e.step x1) p1))⟩

/-! ### arguments, displays -/
def mNil : Env → R (List D) := fun _ => pure []
def mCons (ma : Env → R D) (mr : Env → R (List D)) : Env → R (List D) := fun Γ => do let x ← ma Γ; let xs ← mr Γ; pure (x :: xs)
section
variable {es : List Expr} {t : TA} {m : Env → R (List D)}
theorem fa_nil : FA X C [] tNil mNil := ⟨pa_nil, fun Γ σ F H Q e p => p F H (Ext.refl e.sub) [] .nil⟩
theorem fa_cons (ha : FE X C a ta ma) (hr : FA X C es t m) (hs : starEach (a :: es) X.env = (false, eval a X.env) :: starEach es X.env := by rfl) : FA X C (a :: es) (tCons ta t) (mCons ma m) :=
  ⟨pa_cons ha.pe hr.pa hs, fun Γ σ F H Q e p => ha.rd Γ σ F H _ e (Post.bind p fun x F1 H1 x1 p1 v r => hr.rd Γ σ F1 H1 _ (e.step x1) (Post.bind p1 fun xs F2 H2 x2 p2 vs rs => p2 F2 H2 (Ext.refl x2.sub) _ (.cons (r.mono x2.sF) rs)))⟩
theorem fb_nil : FB X C [] tNil mNil := ⟨pa_nil, fun Γ σ F H Q e p => p F H (Ext.refl e.sub) [] .nil⟩
theorem fb_cons (ha : FR X C a ta ma) (hr : FB X C es t m) (hs : starEach (a :: es) X.env = (false, eval a X.env) :: starEach es X.env := by rfl) : FB X C (a :: es) (tCons ta t) (mCons ma m) :=
  ⟨pa_cons ha.pe hr.pa hs, fun Γ σ F H Q e p => ha.rd Γ σ F H _ e (Post.bind p fun x F1 H1 x1 p1 v r => hr.rd Γ σ F1 H1 _ (e.step x1) (Post.bind p1 fun xs F2 H2 x2 p2 vs rs => p2 F2 H2 (Ext.refl x2.sub) _ (.cons (r.ext x2) rs)))⟩
def mTup (m : Env → R (List D)) : Env → R D := fun Γ => do let xs ← m Γ; if xs.length ≤ 16777216 then pure (.tup xs) else .stuck
theorem fe_tup {k : Nat} (h : FA X C es t m) : FE X C (.Tuple es k pos) (tTup t) (mTup m) :=
  ⟨pe_tup h.pa, fun Γ σ F H Q e p => h.rd Γ σ F H _ e (Post.bind p fun xs F1 H1 x1 p1 vs rs => by
    have hl := rs.length
    split at p1
    · rename_i hz
      exact ⟨by rw [hl, sizeLine_eq]; exact hz, fun p n => p1 _ _ (Ext.new x1.sub n) _ (.tup (.inl (.inl upd_same)) (rs.mono (same_upd (sub_none x1.sub n))))⟩
    · exact p1.elim)⟩
def mLst (m : Env → R (List D)) : Env → R (List D) := fun Γ => do let xs ← m Γ; if xs.length ≤ 16777216 then pure xs else .stuck
theorem fl_lst (h : FA X C es t m) : FL X C (.List es pos) (tLst t) (mLst m) :=
  ⟨pe_lst h.pa, fun Γ σ F H Q e p => h.rd Γ σ F H _ e (Post.bind p fun xs F1 H1 x1 p1 vs rs => by
    have hl := rs.length
    split at p1
    · rename_i hz
      exact ⟨by rw [hl, sizeLine_eq]; exact hz, fun p n => p1 _ _ (Ext.raw x1.sub n) p vs (x1.sH.free n) upd_same (sub_none x1.sub n) rs⟩
    · exact p1.elim)⟩
end
end
end FL

set_option Elab.async false
set_option linter.all false
set_option maxRecDepth 100000
set_option maxHeartbeats 2000000
/-! FL, part 3: statements, loops, defs, calls. -/
namespace FL
open PySem PySem.Spec PyProof.Rows L2
set_option autoImplicit false
/-- how a statement ends -/
inductive SO where
  | nx (Γ : Env) | rt (d : D) | rtL (ds : List D) | bk (Γ : Env) | ct (Γ : Env) | ex (Γ : Env) (n : Str) (d : Option D) | stuck
def lift {α : Type} (Γ : Env) (r : R α) (k : α → SO) : SO := match r with
  | .ok a => k a
  | .exc n d => .ex Γ n d
  | .stuck => .stuck
def SO.bind (s : SO) (k : Env → SO) : SO := match s with
  | .nx Γ => k Γ
  | s => s
def PostS (C : Cg) (F : Hp) (D : Ends) (s : SO) : Prop := match s with
  | .nx Γ => ∀ σ' F' H', EnvOk C Γ σ' F' H' → Same F F' → D.nx σ' H'
  | .rt d => ∀ v F' H', Ext C.F0 C.B F' H' → Rep C.K C.mg F' d v → D.rt v H'
  | .rtL ds => ∀ p xs F' H', Ext C.F0 C.B F' H' → C.B p = none → F' p = none → H' p = some (.lst xs) → Reps C.K C.mg F' ds xs → D.rt (.ref p) H'
  | .bk Γ => ∀ σ' F' H', EnvOk C Γ σ' F' H' → Same F F' → D.bk σ' H'
  | .ct Γ => ∀ σ' F' H', EnvOk C Γ σ' F' H' → Same F F' → D.ct σ' H'
  | .ex Γ n d => ∀ σ' F' H' cls dv, EnvOk C Γ σ' F' H' → Same F F' → ExcR C.K C.mg n d cls dv F' H' → C.W cls dv σ' H'
  | .stuck => False
section
variable {C : Cg} {F F' H H' : Hp} {D : Ends} {s : SO} {Γ : Env} {σ : St}
theorem PostS.step (h : PostS C F D s) (x : Same F F') : PostS C F' D s := by
  cases s with
  | nx Γ => exact fun σ' F2 H2 e y => h σ' F2 H2 e (x.trans y)
  | rt d => exact h
  | rtL ds => exact h
  | bk Γ => exact fun σ' F2 H2 e y => h σ' F2 H2 e (x.trans y)
  | ct Γ => exact fun σ' F2 H2 e y => h σ' F2 H2 e (x.trans y)
  | ex Γ n d => exact fun σ' F2 H2 cls dv e y q => h σ' F2 H2 cls dv e (x.trans y) q
  | stuck => exact h
theorem PostS.lift {α : Type} {r : R α} {k : α → SO} {kk : α → Hp → Hp → Prop} (h : PostS C F D (lift Γ r k)) (e : EnvOk C Γ σ F H) (hk : ∀ a F' H', Ext F H F' H' → PostS C F' D (k a) → kk a F' H') : Post C (WE C.W σ) F H r kk := by
  cases r with
  | ok a => exact fun F' H' x => hk a F' H' x (PostS.step (show PostS C F D (k a) from h) x.sF)
  | exc n d => exact fun F' H' cls dv x q => h σ F' H' cls dv (e.step x) x.sF q
  | stuck => exact h
theorem PostS.bind {k : Env → SO} {u : St → Hp → Prop} (h : PostS C F D (s.bind k)) (hk : ∀ Γ σ' F' H', EnvOk C Γ σ' F' H' → PostS C F' D (k Γ) → u σ' H') : PostS C F { D with nx := u } s := by
  cases s with
  | nx Γ => exact fun σ' F' H' e x => hk Γ σ' F' H' e (PostS.step (show PostS C F D (k Γ) from h) x)
  | rt d => exact h
  | rtL ds => exact h
  | bk Γ => exact h
  | ct Γ => exact h
  | ex Γ n d => exact h
  | stuck => exact h
end
structure FS (X : Cx) (C : Cg) (st : Stmt) (t : TS) (m : Env → SO) : Prop where
  ps : PS X st t
  rd : ∀ Γ σ F H D, EnvOk C Γ σ F H → PostS C F D (m Γ) → t D σ H
structure FB2 (X : Cx) (C : Cg) (st : List Stmt) (t : TS) (m : Env → SO) : Prop where
  ps : PSs X st t
  rd : ∀ Γ σ F H D, EnvOk C Γ σ F H → PostS C F D (m Γ) → t D σ H
/-- what is known of the slots besides stays, whatever comes into slot i -/
def Keeps (C : Cg) (i : Nat) : Prop := ∀ (σ : St) (o : Option V), C.P σ → C.P (σ.set i o)
section
variable {X : Cx} {C : Cg} {st : Stmt} {sts : List Stmt} {t u : TS} {te : TE} {e : Expr} {m m1 m2 : Env → SO} {me : Env → R D} {pos : Pos}
def mSeq (m1 m2 : Env → SO) : Env → SO := fun Γ => (m1 Γ).bind m2
def mSkip : Env → SO := fun Γ => .nx Γ
theorem fss_nil : FB2 X C [] tNext mSkip := ⟨pss_nil, fun Γ σ F H D e p => p σ F H e (.refl F)⟩
theorem fss_cons (h1 : FS X C st t m1) (h2 : FB2 X C sts u m2) : FB2 X C (st :: sts) (tSeq t u) (mSeq m1 m2) :=
  ⟨pss_cons h1.ps h2.ps, fun Γ σ F H D e p => h1.rd Γ σ F H _ e (PostS.bind p fun Γ' σ' F' H' e' p' => h2.rd Γ' σ' F' H' D e' p')⟩
theorem fss_one (h1 : FS X C st t m1) : FB2 X C [st] t m1 := ⟨pss_one h1.ps, h1.rd⟩
theorem fs_pass : FS X C (.Pass pos) tNext mSkip := ⟨ps_pass, fun Γ σ F H D e p => p σ F H e (.refl F)⟩
theorem fs_break : FS X C (.Break pos) tBreak (fun Γ => .bk Γ) := ⟨ps_break, fun Γ σ F H D e p => p σ F H e (.refl F)⟩
theorem fs_continue : FS X C (.Continue pos) tCont (fun Γ => .ct Γ) := ⟨ps_continue, fun Γ σ F H D e p => p σ F H e (.refl F)⟩
/-- an own list is settled ahead of a statement -/
def mSet1 (i : Nat) (k : Env → SO) : Env → SO := fun Γ => match Γ[i]? with
  | some (.own ds) => k (Γ.set i (.val (.lst ds)))
  | some (.ownd kvs) => k (Γ.set i (.val (.dct kvs)))
  | _ => k Γ
theorem settle_rd {t : TS} (i : Nat) (h : ∀ Γ σ F H D, EnvOk C Γ σ F H → PostS C F D (m Γ) → t D σ H) : ∀ Γ σ F H D, EnvOk C Γ σ F H → PostS C F D (mSet1 i m Γ) → t D σ H := fun Γ σ F H D e p => by
  unfold mSet1 at p
  split at p
  · rename_i ds hd
    obtain ⟨F', e', s⟩ := e.settle hd
    exact h _ σ F' H D e' (p.step s)
  · rename_i kvs hd
    obtain ⟨F', e', s⟩ := e.settleD hd
    exact h _ σ F' H D e' (p.step s)
  · exact h Γ σ F H D e p
theorem FS.settle (h : FS X C st t m) (i : Nat) : FS X C st t (mSet1 i m) := ⟨h.ps, settle_rd i h.rd⟩
theorem FB2.settle (h : FB2 X C sts t m) (i : Nat) : FB2 X C sts t (mSet1 i m) := ⟨h.ps, settle_rd i h.rd⟩

/-! ### stores to names -/
def mAsg (i : Nat) (me : Env → R D) : Env → SO := fun Γ => lift Γ (me Γ) fun d => .nx (Γ.set i (.val d))
def mAsgL (i : Nat) (me : Env → R (List D)) : Env → SO := fun Γ => lift Γ (me Γ) fun d => .nx (Γ.set i (.own d))
theorem asg_rd {i : Nat} (k : Keeps C i) (he : ∀ Γ σ F H Q, EnvOk C Γ σ F H → Post C (WE C.W σ) F H (me Γ) (kV C Q) → te σ H Q) : ∀ Γ σ F H D, EnvOk C Γ σ F H → PostS C F D (mAsg i me Γ) → tAsg te (gName i) D σ H := fun Γ σ F H D e p =>
  he Γ σ F H _ e (PostS.lift p e fun d F' H' x p' v r => p' _ F' H' ((e.step x).setV (k σ _ e.pre) r) (.refl F'))
theorem asgL_rd {i : Nat} {me : Env → R (List D)} (k : Keeps C i) (he : ∀ Γ σ F H Q, EnvOk C Γ σ F H → Post C (WE C.W σ) F H (me Γ) (kL C H Q) → te σ H Q) : ∀ Γ σ F H D, EnvOk C Γ σ F H → PostS C F D (mAsgL i me Γ) → tAsg te (gName i) D σ H := fun Γ σ F H D e p =>
  he Γ σ F H _ e (PostS.lift p e fun ds F' H' x p' q xs n hq nF r => p' _ F' H' (e.setOwn x (k σ _ e.pre) n hq nF r) (.refl F'))
theorem fs_set {i : Nat} {x : Str} {pos' : Pos} (k : Keeps C i) (hN : X.N.Nodup) (hi : X.N[i]? = some x) (hx : Loc X.env.scope x) (he : FE X C e te me) (hs : swapsWith e (some (.Name x pos')) pos.line X.env = pure false := by rfl) (hf : X.fn x = true ∨ X.env.scope.names.lookup x = some .local := by first | exact .inl rfl | exact .inr rfl | assumption) :
    FS X C (.Assign [.Name x pos'] e pos) (tAsg te (gName i)) (mAsg i me) := ⟨ps_set hN hi hx he.pe hs hf, asg_rd k he.rd⟩
theorem fs_setL {i : Nat} {x : Str} {pos' : Pos} {me : Env → R (List D)} (k : Keeps C i) (hN : X.N.Nodup) (hi : X.N[i]? = some x) (hx : Loc X.env.scope x) (he : FL X C e te me) (hs : swapsWith e (some (.Name x pos')) pos.line X.env = pure false := by rfl) (hf : X.fn x = true ∨ X.env.scope.names.lookup x = some .local := by first | exact .inl rfl | exact .inr rfl | assumption) :
    FS X C (.Assign [.Name x pos'] e pos) (tAsg te (gName i)) (mAsgL i me) := ⟨ps_set hN hi hx he.pe hs hf, asgL_rd k he.rd⟩

/-! ### expressions, returns, ifs -/
def mDrop (me : Env → R D) : Env → SO := fun Γ => lift Γ (me Γ) fun _ => .nx Γ
theorem fs_expr (he : FE X C e te me) (hs : swapsWith e none pos.line X.env = pure false := by rfl) : FS X C (.Expr e pos) (tDrop te) (mDrop me) :=
  ⟨ps_expr he.pe hs, fun Γ σ F H D en p => he.rd Γ σ F H _ en (PostS.lift p en fun d F' H' x p' v r => p' σ F' H' (en.step x) (.refl F'))⟩
def mRet (me : Env → R D) : Env → SO := fun Γ => lift Γ (me Γ) fun d => .rt d
def mRetL (me : Env → R (List D)) : Env → SO := fun Γ => lift Γ (me Γ) fun d => .rtL d
theorem fs_ret (he : FE X C e te me) : FS X C (.Return (some e) pos) (tRet te) (mRet me) :=
  ⟨ps_ret he.pe, fun Γ σ F H D en p => he.rd Γ σ F H _ en (PostS.lift p en fun d F' H' x p' v r => p' v F' H' (en.ext.trans x) r)⟩
theorem fs_retL {me : Env → R (List D)} (he : FL X C e te me) : FS X C (.Return (some e) pos) (tRet te) (mRetL me) :=
  ⟨ps_ret he.pe, fun Γ σ F H D en p => he.rd Γ σ F H _ en (PostS.lift p en fun d F' H' x p' q xs n hq nF r => p' q xs F' H' (en.ext.trans x) (en.ext.sH.free n) nF hq r)⟩
/-- an own list is handed back -/
def mRetOwn (i : Nat) : Env → SO := fun Γ => match Γ[i]? with
  | some (.own ds) => .rtL ds
  | _ => .stuck
theorem fs_retOwn {i : Nat} {x : Str} {pos' : Pos} (he : PE X (.Name x pos') (tVar i)) : FS X C (.Return (some (.Name x pos')) pos) (tRet (tVar i)) (mRetOwn i) :=
  ⟨ps_ret he, fun Γ σ F H D en p => by
    unfold mRetOwn at p
    split at p
    · rename_i ds hd
      obtain ⟨o, h1, q, h2, xs, h3, h4, h5, r⟩ := en.slot i _ hd
      subst h2
      exact ⟨_, h1, p q xs F H en.ext h5 h4 h3 r⟩
    · exact p.elim⟩
def mRetN : Env → SO := fun _ => .rt .non
theorem fs_retN : FS X C (.Return none pos) tRetN mRetN := ⟨ps_retN, fun Γ σ F H D en p => p .non F H en.ext .non⟩
def mIfS (c : Env → R Bool) (a b : Env → SO) : Env → SO := fun Γ => lift Γ (c Γ) fun k => if k then a Γ else b Γ
theorem fs_if {c : Expr} {a b : List Stmt} {tc : TT} {mc : Env → R Bool} (hc : FT X C c tc mc) (ha : FB2 X C a t m1) (hb : FB2 X C b u m2) : FS X C (.If c a b pos) (tIfS tc t u) (mIfS mc m1 m2) :=
  ⟨ps_if hc.pt ha.ps hb.ps, fun Γ σ F H D en p => hc.rd Γ σ F H _ en (PostS.lift p en fun k F' H' x p' => by
    cases k with
    | true => exact iteT (ha.rd Γ σ F' H' D (en.step x) p')
    | false => exact iteF (hb.rd Γ σ F' H' D (en.step x) p'))⟩

/-! ### targets -/
structure FG (X : Cx) (C : Cg) (e : Expr) (t : TG) (m : Env → D → Option Env) : Prop where
  pg : PG X e t
  rd : ∀ Γ σ F H d v Γ' (Q : St → Hp → Prop), EnvOk C Γ σ F H → Rep C.K C.mg F d v → m Γ d = some Γ' → (∀ σ', EnvOk C Γ' σ' F H → Q σ' H) → t v σ H Q
structure FGs (X : Cx) (C : Cg) (es : List Expr) (t : TGs) (m : Env → List D → Option Env) : Prop where
  pg : PGs X es t
  rd : ∀ Γ σ F H ds vs Γ' (Q : St → Hp → Prop), EnvOk C Γ σ F H → Reps C.K C.mg F ds vs → m Γ ds = some Γ' → (∀ σ', EnvOk C Γ' σ' F H → Q σ' H) → t vs σ H Q
def gSet (i : Nat) : Env → D → Option Env := fun Γ d => some (Γ.set i (.val d))
theorem fg_name {i : Nat} {x : Str} (k : Keeps C i) (hN : X.N.Nodup) (hi : X.N[i]? = some x) (hx : Loc X.env.scope x) (hf : X.fn x = true ∨ X.env.scope.names.lookup x = some .local := by first | exact .inl rfl | exact .inr rfl | assumption) : FG X C (.Name x pos) (gName i) (gSet i) :=
  ⟨pg_name hN hi hx hf, fun Γ σ F H d v Γ' Q en r h q => by
    cases h
    exact q _ (en.setV (k σ _ en.pre) r)⟩
def gsNil : Env → List D → Option Env := fun Γ ds => match ds with
  | [] => some Γ
  | _ => none
def gsCons (m : Env → D → Option Env) (ms : Env → List D → Option Env) : Env → List D → Option Env := fun Γ ds => match ds with
  | d :: ds => (m Γ d).bind fun Γ1 => ms Γ1 ds
  | [] => none
theorem fgs_nil : FGs X C [] gNil gsNil := ⟨pgs_nil, fun Γ σ F H ds vs Γ' Q en r h q => by
  cases r with
  | nil => cases h; exact ⟨rfl, q σ en⟩
  | cons _ _ => cases h⟩
theorem fgs_cons {e : Expr} {es : List Expr} {tg : TG} {tgs : TGs} {mg : Env → D → Option Env} {ms : Env → List D → Option Env} (h1 : FG X C e tg mg) (h2 : FGs X C es tgs ms)
    (hs : (assignEach (e :: es) X.env).map (·.2) = assign e X.env :: (assignEach es X.env).map (·.2) := by rfl) : FGs X C (e :: es) (gCons tg tgs) (gsCons mg ms) :=
  ⟨pgs_cons h1.pg h2.pg hs, fun Γ σ F H ds vs Γ' Q en r h q => by
    cases r with
    | nil => cases h
    | cons r rs =>
      obtain ⟨Γ1, g1, g2⟩ := Option.bind_eq_some_iff.mp (show (mg Γ _).bind (fun Γ1 => ms Γ1 _) = some Γ' from h)
      exact ⟨_, _, rfl, h1.rd Γ σ F H _ _ Γ1 _ en r g1 fun σ1 en1 => h2.rd Γ1 σ1 F H _ _ Γ' Q en1 rs g2 q⟩⟩
def gTupM (n : Nat) (ms : Env → List D → Option Env) : Env → D → Option Env := fun Γ d => match d with
  | .tup ds => if ds.length = n then ms Γ ds else none
  | _ => none
theorem fg_tup {es : List Expr} {k n : Nat} {tgs : TGs} {ms : Env → List D → Option Env} (hK : X.K = C.K) (hc : X.calm = true) (h : FGs X C es tgs ms)
    (hn : (assignEach es X.env).length = n := by rfl) (hst : (assignEach es X.env).findIdx? (·.1) = none := by rfl) : FG X C (.Tuple es k pos) (gTup X.K n tgs) (gTupM n ms) :=
  ⟨pg_tup hc h.pg hn hst, fun Γ σ F H d v Γ' Q en r h' q => by
    unfold gTupM at h'
    split at h'
    · rename_i ds
      split at h'
      · rename_i hl
        cases r with
        | tup hq rs => exact ⟨_, _, rfl, hK ▸ sqT_same en.sub hq, rs.length.trans hl, h.rd Γ σ F H _ _ Γ' Q en rs h' q⟩
      · cases h'
    · cases h'⟩
/-- target = e -/
def mAsgG (g : Env → D → Option Env) (me : Env → R D) : Env → SO := fun Γ => lift Γ (me Γ) fun d => match g Γ d with
  | some Γ' => .nx Γ'
  | none => .stuck
theorem fs_asg {tg : Expr} {g : TG} {mg : Env → D → Option Env} (he : FE X C e te me) (hg : FG X C tg g mg) (hs : swapsWithSole [tg] e pos.line X.env = pure false := by rfl) (hw : swappedStores [tg] e X.env = pure none := by rfl)
    (h1 : (assignEach [tg] X.env).map (·.2) = [assign tg X.env] := by rfl) : FS X C (.Assign [tg] e pos) (tAsg te g) (mAsgG mg me) :=
  ⟨ps_asg he.pe hg.pg hs hw h1, fun Γ σ F H D en p => he.rd Γ σ F H _ en (PostS.lift p en fun d F' H' x p' v r => by
    cases hgm : mg Γ d with
    | none => rw [hgm] at p'; exact p'.elim
    | some Γ' => rw [hgm] at p'; exact hg.rd Γ σ F' H' d v Γ' _ (en.step x) r hgm fun σ' en' => p' σ' F' H' en' (.refl F'))⟩

/-! ### what is walked -/
structure ItOk (C : Cg) (J : It) (ds : List D) (F1 : Hp) : Prop where
  stop : ∀ F H, Same F1 F → Same F H → J.stop ds.length H
  go : ∀ F H i, i < ds.length → Same F1 F → Same F H → J.go i H
  yld : ∀ F H i d x H', ds[i]? = some d → Same F1 F → Same F H → J.yld i H x H' → ∃ F', Ext F H F' H' ∧ Rep C.K C.mg F' d x
structure FI (X : Cx) (C : Cg) (tg iter : Expr) (t : TI) (m : Env → R (List D)) : Prop where
  pi : PI X tg iter t
  rd : ∀ Γ σ F H (Q : It → Hp → Prop), EnvOk C Γ σ F H → Post C (WE C.W σ) F H (m Γ) (fun ds F' H' => ∀ J, ItOk C J ds F' → Q J H') → t σ H Q
/-- the loop -/
def forL (g : Env → D → Option Env) (body : Env → SO) : List D → Env → SO
  | [], Γ => .nx Γ
  | d :: ds, Γ => match g Γ d with
    | none => .stuck
    | some Γ1 => match body Γ1 with
      | .nx Γ' => forL g body ds Γ'
      | .ct Γ' => forL g body ds Γ'
      | .bk Γ' => .nx Γ'
      | s => s
def mFor (mi : Env → R (List D)) (g : Env → D → Option Env) (body : Env → SO) : Env → SO := fun Γ => lift Γ (mi Γ) fun ds => forL g body ds Γ
theorem fs_for {tg iter : Expr} {body : List Stmt} {ti : TI} {g : TG} {tb : TS} {mi : Env → R (List D)} {mg : Env → D → Option Env} {mb : Env → SO} (hp : PassesOwn (model X.prog X.w) X.A X.env X.xe) (hc : X.calm = true) (hi : FI X C tg iter ti mi) (hg : FG X C tg g mg) (hb : FB2 X C body tb mb)
    (hs : ∀ x, foldedSetIterable iter X.env x = pure x := by intro _; rfl) : FS X C (.For tg iter body [] pos) (tFor ti g tb) (mFor mi mg mb) := by
  refine ⟨ps_for hp hc hi.pi hg.pg hb.ps hs, fun Γ σ F H D en p => hi.rd Γ σ F H _ en (PostS.lift p en fun ds F1 H1 x p1 J ok => ?_)⟩
  refine ⟨fun i m σ' H' => m = ds.length - i ∧ i ≤ ds.length ∧ ∃ Γ' F', EnvOk C Γ' σ' F' H' ∧ Same F1 F' ∧ PostS C F' D (forL mg mb (ds.drop i) Γ'), ⟨ds.length, by simp, Nat.zero_le _, Γ, F1, en.step x, .refl F1, p1⟩, ?_⟩
  rintro i m σ' H' ⟨rfl, hi', Γ', F', en', s', p'⟩
  by_cases hlt : i < ds.length
  · refine .inr ⟨ok.go F' H' i hlt s' en'.sub, fun σ2 H2 => (ds.length - (i + 1)) = ds.length - (i + 1) ∧ i + 1 ≤ ds.length ∧ ∃ Γ2 F2, EnvOk C Γ2 σ2 F2 H2 ∧ Same F1 F2 ∧ PostS C F2 D (forL mg mb (ds.drop (i + 1)) Γ2), fun σ2 H2 h2 => ⟨ds.length - (i + 1), by omega, h2⟩, fun v H2 y => ?_⟩
    rw [List.drop_eq_getElem_cons hlt] at p'
    obtain ⟨F2, x2, r2⟩ := ok.yld F' H' i ds[i] v H2 (List.getElem?_eq_getElem hlt) s' en'.sub y
    have p2 := PostS.step p' x2.sF
    unfold forL at p2
    cases hgm : mg Γ' ds[i] with
    | none => rw [hgm] at p2; exact p2.elim
    | some Γ1 =>
      rw [hgm] at p2
      refine hg.rd Γ' σ' F2 H2 _ v Γ1 _ (en'.step x2) r2 hgm fun σ3 en3 => hb.rd Γ1 σ3 F2 H2 _ en3 ?_
      have s2 : Same F1 F2 := s'.trans x2.sF
      simp only at p2
      revert p2
      cases mb Γ1 with
      | nx Γ2 => exact fun p2 σ4 F4 H4 e4 y4 => ⟨rfl, hlt, Γ2, F4, e4, s2.trans y4, p2.step y4⟩
      | ct Γ2 => exact fun p2 σ4 F4 H4 e4 y4 => ⟨rfl, hlt, Γ2, F4, e4, s2.trans y4, p2.step y4⟩
      | bk Γ2 => exact fun p2 => p2
      | rt d => exact fun p2 => p2
      | rtL d => exact fun p2 => p2
      | ex Γ2 n d => exact fun p2 => p2
      | stuck => exact fun p2 => p2
  · have e : i = ds.length := by omega
    subst e
    rw [List.drop_length] at p'
    exact .inl ⟨ok.stop F' H' s' en'.sub, p' σ' F' H' en' (.refl F')⟩

/-! ### while -/
def whileN (c : Env → R Bool) (body : Env → SO) : Nat → Env → SO
  | 0, _ => .stuck
  | n + 1, Γ => lift Γ (c Γ) fun k => if k then (match body Γ with
      | .nx Γ' => whileN c body n Γ'
      | .ct Γ' => whileN c body n Γ'
      | .bk Γ' => .nx Γ'
      | s => s) else .nx Γ
/-- more turns than any loop here takes -/
def FUEL : Nat := 1000000
def mWhile (c : Env → R Bool) (body : Env → SO) : Env → SO := whileN c body FUEL
theorem fs_while {c : Expr} {body : List Stmt} {tc : TT} {tb : TS} {mc : Env → R Bool} {mb : Env → SO} (hp : PassesOwn (model X.prog X.w) X.A X.env X.xe) (hc : FT X C c tc mc) (hb : FB2 X C body tb mb) : FS X C (.While c body [] pos) (tWhile tc tb) (mWhile mc mb) := by
  refine ⟨ps_while hp hc.pt hb.ps, fun Γ σ F H D en p => ?_⟩
  refine ⟨fun n σ' H' => ∃ Γ' F', EnvOk C Γ' σ' F' H' ∧ PostS C F' D (whileN mc mb n Γ'), ⟨FUEL, Γ, F, en, p⟩, ?_⟩
  rintro n σ' H' ⟨Γ', F', en', p'⟩
  cases n with
  | zero => exact p'.elim
  | succ n =>
    refine hc.rd Γ' σ' F' H' _ en' (PostS.lift p' en' fun k F2 H2 x2 p2 => ?_)
    cases k with
    | false => exact iteF (p2 σ' F2 H2 (en'.step x2) (.refl F2))
    | true =>
      refine iteT ⟨fun σ3 H3 => ∃ Γ3 F3, EnvOk C Γ3 σ3 F3 H3 ∧ PostS C F3 D (whileN mc mb n Γ3), fun σ3 H3 h3 => ⟨n, Nat.lt_succ_self n, h3⟩, hb.rd Γ' σ' F2 H2 _ (en'.step x2) ?_⟩
      simp only [if_true] at p2
      revert p2
      cases mb Γ' with
      | nx Γ2 => exact fun p2 σ4 F4 H4 e4 y4 => ⟨Γ2, F4, e4, p2.step y4⟩
      | ct Γ2 => exact fun p2 σ4 F4 H4 e4 y4 => ⟨Γ2, F4, e4, p2.step y4⟩
      | bk Γ2 => exact fun p2 => p2
      | rt d => exact fun p2 => p2
      | rtL d => exact fun p2 => p2
      | ex Γ2 n d => exact fun p2 => p2
      | stuck => exact fun p2 => p2
end
end FL

set_option Elab.async false
set_option linter.all false
set_option maxRecDepth 100000
set_option maxHeartbeats 2000000
/-! FL, part 4: defs, calls, own lists changed, raise, try. -/
namespace FL
open PySem PySem.Spec PyProof.Rows L2
set_option autoImplicit false
/-! ### what a def promises -/
def cg0 (K : PySem.W.Frag) (mg : Str → Option Value) (E : XK) (F H : Hp) : Cg := ⟨K, mg, fun cls d _ H' => E cls d H', fun _ => True, F, H⟩
def spV (K : PySem.W.Frag) (mg : Str → Option Value) (np : Nat) (g : List D → R D) : Sp := fun vs H Q E => vs.length = np ∧ ∃ F ds, Same F H ∧ Reps K mg F ds vs ∧ Post (cg0 K mg E F H) E F H (g ds) (kV (cg0 K mg E F H) Q)
/-- .. it hands back a new list -/
def spL (K : PySem.W.Frag) (mg : Str → Option Value) (np : Nat) (g : List D → R (List D)) : Sp := fun vs H Q E => vs.length = np ∧ ∃ F ds, Same F H ∧ Reps K mg F ds vs ∧ Post (cg0 K mg E F H) E F H (g ds) (kL (cg0 K mg E F H) H Q)
def retD : SO → R D
  | .nx _ => .ok .non
  | .rt d => .ok d
  | .rtL ds => .ok (.lst ds)
  | .ex _ n d => .exc n d
  | _ => .stuck
def retLs : SO → R (List D)
  | .rtL ds => .ok ds
  | .ex _ n d => .exc n d
  | _ => .stuck
def startG (n : Nat) (ds : List D) : Env := ds.map Slot.val ++ List.replicate (n - ds.length) Slot.no
def mFn (n : Nat) (m : Env → SO) : List D → R D := fun ds => retD (m (startG n ds))
def mFnL (n : Nat) (m : Env → SO) : List D → R (List D) := fun ds => retLs (m (startG n ds))
section
variable {P : Program} {w : World} {K : PySem.W.Frag} {mg : Str → Option Value} {base : Heap} {x qual : Str} {params : Arguments} {body : List Stmt} {scope : Scope} {dvs : List V} {kws : List (Str × V)} {f : Addr} {fd : FuncData} {N ps : List Str} {k : Nat} {m : Env → SO}
theorem env_start {E : XK} {F H : Hp} {ds : List D} {vs : List V} (s : Same F H) (r : Reps K mg F ds vs) (hl : vs.length ≤ N.length) : EnvOk (cg0 K mg E F H) (startG N.length ds) (L2.start N vs) F H := by
  have hl2 := r.length
  refine ⟨Ext.refl s, trivial, ?_, fun i t h => ?_, fun i j t u p h1 h2 o1 => ?_⟩
  · unfold startG L2.start
    simp [hl2]
  · unfold startG at h
    unfold L2.start
    by_cases hi : i < ds.length
    · rw [List.getElem?_append_left (by simpa using hi), List.getElem?_map, List.getElem?_eq_getElem hi] at h
      cases h
      obtain ⟨v, h1, h2⟩ := r.get (List.getElem?_eq_getElem hi)
      refine ⟨some v, ?_, v, rfl, h2⟩
      rw [List.getElem?_append_left (by simp; omega), List.getElem?_map, h1]
      rfl
    · rw [List.getElem?_append_right (by simp; omega), List.getElem?_replicate] at h
      split at h
      · cases h
        rename_i hlt
        refine ⟨none, ?_, trivial⟩
        rw [List.getElem?_append_right (by simp; omega), List.getElem?_replicate, if_pos]
        simp at hlt ⊢
        omega
      · cases h
  · unfold startG at h1
    by_cases hi : i < ds.length
    · rw [List.getElem?_append_left (by simpa using hi), List.getElem?_map, List.getElem?_eq_getElem hi] at h1
      cases h1
      cases o1
    · rw [List.getElem?_append_right (by simp; omega), List.getElem?_replicate] at h1
      split at h1
      · cases h1; cases o1
      · cases h1
theorem fn_val (F : FunD K x qual params body scope dvs kws f fd) (S : FnScope N ps scope)
    (h : ∀ (cdv : Value) (A : Around) (outer : List PySem.Env) (s : Shared) (H F0 : Hp) (E : XK), Room k (A.deeper (envOfC qual scope s.heap.objs.size f cdv)) →
      ∃ t, FB2 (cxOf (L2N.CX P w) P w K mg base N qual scope f cdv A outer s H E) (cg0 K mg E F0 H) body t m) : FnOk P w K mg base (L2N.CX P w) (k + 1) f fd ps (spV K mg ps.length (mFn N.length m)) := by
  refine F.ok S (fun vs H Q E h => h.1) (fun cdv A outer s H vs Q E hr hsp => ?_)
  obtain ⟨hl, F0, ds, sF, r, p⟩ := hsp
  obtain ⟨t, hb⟩ := h cdv A outer s H F0 E hr
  have hN : ps.length ≤ N.length := by
    have e := S.pre
    have := congrArg List.length e
    rw [List.length_take] at this
    omega
  refine ⟨t, hb.ps, hb.rd _ _ F0 H _ (env_start sF r (by omega)) ?_⟩
  unfold mFn at p
  revert p
  cases m (startG N.length ds) with
  | nx Γ => exact fun p σ' F' H' e y => p F' H' e.ext _ .non
  | rt d => exact fun p v F' H' e q => p F' H' e v q
  | rtL d => exact fun p q xs F' H' e n nF hq r => p _ H' (e.settle n nF hq) _ (.lst upd_same (r.mono (same_upd nF)))
  | bk Γ => exact fun p => p.elim
  | ct Γ => exact fun p => p.elim
  | ex Γ n d => exact fun p σ' F' H' cls dv e y q => p F' H' cls dv e.ext q
  | stuck => exact fun p => p.elim
theorem fn_lst (F : FunD K x qual params body scope dvs kws f fd) (S : FnScope N ps scope)
    (h : ∀ (cdv : Value) (A : Around) (outer : List PySem.Env) (s : Shared) (H F0 : Hp) (E : XK), Room k (A.deeper (envOfC qual scope s.heap.objs.size f cdv)) →
      ∃ t, FB2 (cxOf (L2N.CX P w) P w K mg base N qual scope f cdv A outer s H E) (cg0 K mg E F0 H) body t m) : FnOk P w K mg base (L2N.CX P w) (k + 1) f fd ps (spL K mg ps.length (mFnL N.length m)) := by
  refine F.ok S (fun vs H Q E h => h.1) (fun cdv A outer s H vs Q E hr hsp => ?_)
  obtain ⟨hl, F0, ds, sF, r, p⟩ := hsp
  obtain ⟨t, hb⟩ := h cdv A outer s H F0 E hr
  have hN : ps.length ≤ N.length := by
    have e := S.pre
    have := congrArg List.length e
    rw [List.length_take] at this
    omega
  refine ⟨t, hb.ps, hb.rd _ _ F0 H _ (env_start sF r (by omega)) ?_⟩
  unfold mFnL at p
  revert p
  cases m (startG N.length ds) with
  | nx Γ => exact fun p => p.elim
  | rt d => exact fun p => p.elim
  | rtL d => exact fun p q xs F' H' e n nF hq r => p F' H' e q xs n hq nF r
  | bk Γ => exact fun p => p.elim
  | ct Γ => exact fun p => p.elim
  | ex Γ n d => exact fun p σ' F' H' cls dv e y q => p F' H' cls dv e.ext q
  | stuck => exact fun p => p.elim
theorem funD_at (F : FunD K x qual params body scope dvs kws f fd) : ∃ oc od osl, K.lookup f = some ⟨oc, od, .func fd, osl⟩ := by
  obtain ⟨oc, od, dV, kV, doc, pm, an, cdv, ct, osl, e, lk, _⟩ := F.ex
  exact ⟨oc, od, osl, lk⟩
/-- a def by its name: what a caller needs -/
structure FnB (P : Program) (w : World) (K : PySem.W.Frag) (mg : Str → Option Value) (base : Heap) (x : Str) (k : Nat) (ps : List Str) (sp : Sp) : Prop where
  ex : ∃ f fd, mg x = some (.ref f) ∧ PySem.W.keepIn K (.ref f) = true ∧ (∀ (s : Shared) (us : List Value), us.length = ps.length → BindsTo s fd ⟨us, []⟩ (ps.zip us)) ∧ (∃ oc od osl, K.lookup f = some ⟨oc, od, .func fd, osl⟩) ∧ FnOk P w K mg base (L2N.CX P w) k f fd ps sp
/-- .. with its last parameters by default -/
structure FnBD (P : Program) (w : World) (K : PySem.W.Frag) (mg : Str → Option Value) (base : Heap) (x : Str) (k : Nat) (ps : List Str) (dds : List D) (sp : Sp) : Prop where
  ex : ∃ f fd dvs ds, mg x = some (.ref f) ∧ PySem.W.keepIn K (.ref f) = true ∧ Binds K fd ps ds ∧ Vals dvs ds ∧ (∀ F, Reps K mg F dds dvs) ∧ FnOk P w K mg base (L2N.CX P w) k f fd ps sp
theorem FnB.d {sp : Sp} (h : FnB P w K mg base x k ps sp) : FnBD P w K mg base x k ps [] sp := by
  obtain ⟨f, fd, h1, h2, h3, _, h4⟩ := h.ex
  exact ⟨f, fd, [], [], h1, h2, fun s us _ hl => by rw [List.append_nil] at hl ⊢; exact h3 s us hl, .nil, fun _ => .nil, h4⟩
end

/-! ### calls -/
section
variable {X : Cx} {CX : CXT} {k : Nat} {f : Addr} {fd : FuncData} {ps : List Str} {sp : Sp} {E : St → XK} {x : Str} {p pos : Pos} {e : Expr} {es : List Expr} {t : TA} {ds : List Value} {dvs : List V}
theorem run_fnSD {pins : List (Addr × Obj)} {σ : St} {H : Hp} {s : Shared} {Q : VK} {us : List Value} {vs : List V} (F : FnOk X.prog X.w X.K X.mg X.base CX k f fd ps sp) (hr : Room k X.A) (hb : Binds X.K fd ps ds) (hd : Vals dvs ds) (hx : PassesAt CX X σ (E σ))
    (I : Inv X pins σ H s) (r : Vals vs us) (h : sp (vs ++ dvs) H Q (E σ)) : wpAny (model X.prog X.w) X.A (call (.ref f) us) (EP X pins σ Q) X.xe s := by
  have r2 : Vals (vs ++ dvs) (us ++ ds) := r.append hd
  have hl : (us ++ ds).length = ps.length := by rw [← r2.length]; exact F.len _ _ _ _ h
  refine wpAny_call (codeAny_mono (F.run X.A X.stack s H ⟨us, []⟩ (us ++ ds) (vs ++ dvs) Q (E σ) hr I.env0 (hb s us I.kIn hl) r2 h) fun r s' hq => ?_)
  cases r with
  | error e => exact hx pins H s e s' I hq
  | ok fl =>
    cases fl with
    | ret u => exact I.after hq
    | next => exact False.elim hq
    | brk => exact False.elim hq
    | cont => exact False.elim hq
def tCallSD (sp : Sp) (dvs : List V) (E : St → XK) (t : TA) : TE := fun σ H Q => t σ H fun vs H1 => sp (vs ++ dvs) H1 Q (E σ)
theorem pe_callSD (F : FnOk X.prog X.w X.K X.mg X.base CX k f fd ps sp) (hr : Room k X.A) (hg : Gl X x) (hm : X.mg x = some (.ref f)) (hk : PySem.W.keepIn X.K (.ref f) = true) (hb : Binds X.K fd ps ds) (hd : Vals dvs ds) (hx : ∀ σ, PassesAt CX X σ (E σ))
    (ha : PA X (e :: es) t) (hdb : (x == ("__debug__" : Str)) = false := by decide) (he : starEach (e :: es) X.env = (false, eval e X.env) :: starEach es X.env := by rfl) (hpl : (backTo pos (starEach es X.env)).any (·.1) = false := by rfl) :
    PE X (.Call (.Name x p) (e :: es) [] pos) (tCallSD sp dvs E t) := by
  refine ⟨fun pins s σ H Q I h => ?_⟩
  refine wpAny_Call_Name_kw (ld_glob I hg hm ?_ hdb)
  refine PySem.W.callWith_K (h₀ := X.base) I.ok.mod.kin hk (thn (ha.run pos pins s σ H _ I h) fun us s1 ⟨vs, H1, I1, r, q⟩ => ⟨I1.kIn, ?_⟩) he hpl
  exact run_fnSD F hr hb hd (hx σ) I1 r q
theorem pe_callSD0 (F : FnOk X.prog X.w X.K X.mg X.base CX k f fd ps sp) (hr : Room k X.A) (hg : Gl X x) (hm : X.mg x = some (.ref f)) (hk : PySem.W.keepIn X.K (.ref f) = true) (hb : Binds X.K fd ps ds) (hd : Vals dvs ds) (hx : ∀ σ, PassesAt CX X σ (E σ))
    (hdb : (x == ("__debug__" : Str)) = false := by decide) : PE X (.Call (.Name x p) [] [] pos) (tCallSD sp dvs E tNil) := by
  refine ⟨fun pins s σ H Q I h => ?_⟩
  refine wpAny_Call_Name_kw (ld_glob I hg hm ?_ hdb)
  exact PySem.W.callWith_K0 I.kIn hk (run_fnSD (us := []) F hr hb hd (hx σ) I .nil h)
end
section
variable {X : Cx} {C : Cg} {k : Nat} {ps : List Str} {x : Str} {p pos : Pos} {e : Expr} {es : List Expr} {t : TA} {m : Env → R (List D)} {dds : List D}
def mCall {α : Type} (g : List D → R α) (m : Env → R (List D)) : Env → R α := fun Γ => do let ds ← m Γ; g ds
/-- the reading of a call: the callee's promise by its plain function -/
def tCal (sp : Sp) (W : WX) (dds : List D) (K : PySem.W.Frag) (mg : Str → Option Value) (t : TA) : TE := fun σ H Q => ∀ dvs, (∀ F, Reps K mg F dds dvs) → t σ H fun vs H1 => sp (vs ++ dvs) H1 Q (WE W σ)
theorem cal_pe {sp : Sp} (B : FnBD X.prog X.w X.K X.mg X.base x k ps dds sp) (hr : Room k X.A) (hg : Gl X x) (tk : L2N.Takes X C.W) (ha : PA X (e :: es) t) (hdb : (x == ("__debug__" : Str)) = false := by decide) (he : starEach (e :: es) X.env = (false, eval e X.env) :: starEach es X.env := by rfl) (hpl : (backTo pos (starEach es X.env)).any (·.1) = false := by rfl) :
    PE X (.Call (.Name x p) (e :: es) [] pos) (tCal sp C.W dds X.K X.mg t) := by
  obtain ⟨f, fd, dvs, ds, h1, h2, h3, h4, h5, h6⟩ := B.ex
  have q := pe_callSD (p := p) (pos := pos) h6 hr hg h1 h2 h3 h4 (fun σ => L2N.passAt tk σ) ha hdb he hpl
  exact ⟨fun pins s σ H Q I h => q.run pins s σ H Q I (h dvs h5)⟩
theorem cal_pe0 {sp : Sp} (B : FnBD X.prog X.w X.K X.mg X.base x k ps dds sp) (hr : Room k X.A) (hg : Gl X x) (tk : L2N.Takes X C.W) (hdb : (x == ("__debug__" : Str)) = false := by decide) :
    PE X (.Call (.Name x p) [] [] pos) (tCal sp C.W dds X.K X.mg tNil) := by
  obtain ⟨f, fd, dvs, ds, h1, h2, h3, h4, h5, h6⟩ := B.ex
  have q := pe_callSD0 (p := p) (pos := pos) h6 hr hg h1 h2 h3 h4 (fun σ => L2N.passAt tk σ) hdb
  exact ⟨fun pins s σ H Q I h => q.run pins s σ H Q I (h dvs h5)⟩
theorem post_cg {α : Type} {C C' : Cg} {E : XK} {F H : Hp} {r : R α} {k : α → Hp → Hp → Prop} (e1 : C'.K = C.K) (e2 : C'.mg = C.mg) (h : Post C E F H r k) : Post C' E F H r k := by
  cases r with
  | ok a => exact h
  | exc n d => exact fun F' H' cls dv x q => h F' H' cls dv x (by rw [← e1, ← e2]; exact q)
  | stuck => exact h
theorem cal_rdV {g : List D → R D} {n : Nat} {es : List Expr} (hK : X.K = C.K) (hmg : X.mg = C.mg) (ha : FA X C es t m) (hn : es.length + dds.length = n) (hl : ∀ Γ ds, m Γ = .ok ds → ds.length = es.length) : ∀ Γ σ F H Q, EnvOk C Γ σ F H → Post C (WE C.W σ) F H (mCall (fun ds => g (ds ++ dds)) m Γ) (kV C Q) → tCal (spV X.K X.mg n g) C.W dds X.K X.mg t σ H Q := fun Γ σ F H Q en p dvs hd => by
  unfold mCall at p
  have hl' := hl Γ
  refine ha.rd Γ σ F H _ en ?_
  revert p hl'
  cases m Γ with
  | ok ds =>
    intro p hl' F' H' x' vs rs
    have r2 : Reps C.K C.mg F' (ds ++ dds) (vs ++ dvs) := rs.append (by rw [← hK, ← hmg]; exact hd F')
    refine ⟨?_, F', ds ++ dds, x'.sub, by rw [hK, hmg]; exact r2, ?_⟩
    · rw [r2.length, List.length_append, hl' ds rfl]; exact hn
    · have p2 : Post C (WE C.W σ) F' H' (g (ds ++ dds)) (kV C Q) := Post.step (show Post C (WE C.W σ) F H (g (ds ++ dds)) (kV C Q) from p) x'
      refine post_cg hK hmg (p2.imp fun d F2 H2 _ q v r => q v (by rw [← hK, ← hmg]; exact r))
  | exc n d => exact fun p _ => p
  | stuck => exact fun p _ => p
theorem cal_rdL {g : List D → R (List D)} {n : Nat} {es : List Expr} (hK : X.K = C.K) (hmg : X.mg = C.mg) (ha : FA X C es t m) (hn : es.length + dds.length = n) (hl : ∀ Γ ds, m Γ = .ok ds → ds.length = es.length) : ∀ Γ σ F H Q, EnvOk C Γ σ F H → Post C (WE C.W σ) F H (mCall (fun ds => g (ds ++ dds)) m Γ) (kL C H Q) → tCal (spL X.K X.mg n g) C.W dds X.K X.mg t σ H Q := fun Γ σ F H Q en p dvs hd => by
  unfold mCall at p
  have hl' := hl Γ
  refine ha.rd Γ σ F H _ en ?_
  revert p hl'
  cases m Γ with
  | ok ds =>
    intro p hl' F' H' x' vs rs
    have r2 : Reps C.K C.mg F' (ds ++ dds) (vs ++ dvs) := rs.append (by rw [← hK, ← hmg]; exact hd F')
    refine ⟨?_, F', ds ++ dds, x'.sub, by rw [hK, hmg]; exact r2, ?_⟩
    · rw [r2.length, List.length_append, hl' ds rfl]; exact hn
    · have p2 : Post C (WE C.W σ) F' H' (g (ds ++ dds)) (kL C H Q) := Post.step (show Post C (WE C.W σ) F H (g (ds ++ dds)) (kL C H Q) from p) x'
      refine post_cg hK hmg (p2.imp fun d F2 H2 y q pp xs n hp nF r => q pp xs (x'.sH.free n) hp nF (by rw [← hK, ← hmg]; exact r))
  | exc n d => exact fun p _ => p
  | stuck => exact fun p _ => p
theorem mNil_len : ∀ Γ ds, mNil Γ = .ok ds → ds.length = ([] : List Expr).length := fun Γ ds h => by cases h; rfl
theorem mCons_len {ma : Env → R D} {mr : Env → R (List D)} {e : Expr} {es : List Expr} (h : ∀ Γ ds, mr Γ = .ok ds → ds.length = es.length) : ∀ Γ ds, mCons ma mr Γ = .ok ds → ds.length = (e :: es).length := fun Γ ds q => by
  unfold mCons at q
  revert q
  cases ma Γ with
  | ok x =>
    show (mr Γ >>= fun xs => pure (x :: xs)) = .ok ds → _
    have h' := h Γ
    revert h'
    cases mr Γ with
    | ok xs => intro h' q; cases q; simp [h' xs rfl]
    | exc n d => intro _ q; cases q
    | stuck => intro _ q; cases q
  | exc n d => intro q; cases q
  | stuck => intro q; cases q
/-- f(e, ..) -/
theorem fe_call {g : List D → R D} {n : Nat} (B : FnBD X.prog X.w X.K X.mg X.base x k ps dds (spV X.K X.mg n g)) (hK : X.K = C.K) (hmg : X.mg = C.mg) (hr : Room k X.A) (hg : Gl X x) (tk : L2N.Takes X C.W) (ha : FA X C (e :: es) t m) (hn : (e :: es).length + dds.length = n) (hl : ∀ Γ ds, m Γ = .ok ds → ds.length = (e :: es).length) (hdb : (x == ("__debug__" : Str)) = false := by decide) (he : starEach (e :: es) X.env = (false, eval e X.env) :: starEach es X.env := by rfl) (hpl : (backTo pos (starEach es X.env)).any (·.1) = false := by rfl) :
    FE X C (.Call (.Name x p) (e :: es) [] pos) (tCal (spV X.K X.mg n g) C.W dds X.K X.mg t) (mCall (fun ds => g (ds ++ dds)) m) := ⟨cal_pe B hr hg tk ha.pa hdb he hpl, cal_rdV hK hmg ha hn hl⟩
theorem fl_call {g : List D → R (List D)} {n : Nat} (B : FnBD X.prog X.w X.K X.mg X.base x k ps dds (spL X.K X.mg n g)) (hK : X.K = C.K) (hmg : X.mg = C.mg) (hr : Room k X.A) (hg : Gl X x) (tk : L2N.Takes X C.W) (ha : FA X C (e :: es) t m) (hn : (e :: es).length + dds.length = n) (hl : ∀ Γ ds, m Γ = .ok ds → ds.length = (e :: es).length) (hdb : (x == ("__debug__" : Str)) = false := by decide) (he : starEach (e :: es) X.env = (false, eval e X.env) :: starEach es X.env := by rfl) (hpl : (backTo pos (starEach es X.env)).any (·.1) = false := by rfl) :
    FL X C (.Call (.Name x p) (e :: es) [] pos) (tCal (spL X.K X.mg n g) C.W dds X.K X.mg t) (mCall (fun ds => g (ds ++ dds)) m) := ⟨cal_pe B hr hg tk ha.pa hdb he hpl, cal_rdL hK hmg ha hn hl⟩
theorem fe_call0 {g : List D → R D} {n : Nat} (B : FnBD X.prog X.w X.K X.mg X.base x k ps dds (spV X.K X.mg n g)) (hK : X.K = C.K) (hmg : X.mg = C.mg) (hr : Room k X.A) (hg : Gl X x) (tk : L2N.Takes X C.W) (hn : dds.length = n) (hdb : (x == ("__debug__" : Str)) = false := by decide) :
    FE X C (.Call (.Name x p) [] [] pos) (tCal (spV X.K X.mg n g) C.W dds X.K X.mg tNil) (mCall (fun ds => g (ds ++ dds)) mNil) := ⟨cal_pe0 B hr hg tk hdb, cal_rdV hK hmg fa_nil (by simpa using hn) mNil_len⟩
end
end FL

set_option Elab.async false
set_option linter.all false
set_option maxRecDepth 100000
set_option maxHeartbeats 2000000
/-! FL, part 5: operations by values. -/
namespace FL
open PySem PySem.Spec PyProof.Rows L2
set_option autoImplicit false
/-! ### == -/
mutual
def D.eqv : D → D → Bool
  | .non, .non => true
  | .bl a, .bl b => a == b
  | .bl a, .int j => decide ((if a then 1 else 0) = j)
  | .int i, .bl b => decide (i = if b then 1 else 0)
  | .int i, .int j => decide (i = j)
  | .str x, .str y => decide (x = y)
  | .lst xs, .lst ys => D.eqvs xs ys
  | .tup xs, .tup ys => D.eqvs xs ys
  | _, _ => false
def D.eqvs : List D → List D → Bool
  | [], [] => true
  | x :: xs, y :: ys => D.eqv x y && D.eqvs xs ys
  | _, _ => false
end
mutual
def D.py : D → PyData
  | .non => .none
  | .bl b => .bool b
  | .int i => .int i
  | .str s => .str (mk s)
  | .lst ds => .list (D.pys ds)
  | .tup ds => .tuple (D.pys ds)
  | _ => .none
def D.pys : List D → List PyData
  | [] => []
  | d :: ds => D.py d :: D.pys ds
end
mutual
def D.pl : D → Bool
  | .lst ds => D.pls ds
  | .tup ds => D.pls ds
  | .dct _ => false
  | .scr _ => false
  | .glo _ => false
  | .ty _ => false
  | _ => true
def D.pls : List D → Bool
  | [] => true
  | d :: ds => D.pl d && D.pls ds
end
mutual
def D.dep : D → Nat
  | .lst ds => D.deps ds + 1
  | .tup ds => D.deps ds + 1
  | _ => 0
def D.deps : List D → Nat
  | [] => 0
  | d :: ds => max (D.dep d) (D.deps ds)
end
theorem mk_beq (a b : List Nat) : (mk a == mk b) = decide (a = b) := by
  by_cases h : a = b
  · subst h; simp
  · rw [decide_eq_false h]
    exact beq_eq_false_iff_ne.mpr fun e => h (mk_inj e)
theorem int_beq (a b : Int) : (a == b) = decide (a = b) := rfl
mutual
theorem eqv_py : ∀ a b : D, a.pl = true → b.pl = true → PyData.eqv a.py b.py = D.eqv a b
  | .non, b, _, hb => by cases b <;> first | rfl | cases hb
  | .bl x, b, _, hb => by cases b <;> first | rfl | cases hb
  | .int x, b, _, hb => by cases b <;> first | rfl | cases hb
  | .str x, b, _, hb => by
    cases b <;> first | rfl | cases hb | skip
    exact mk_beq _ _
  | .lst xs, b, ha, hb => by
    cases b <;> first | rfl | cases hb | skip
    exact eqvs_py xs _ ha hb
  | .tup xs, b, ha, hb => by
    cases b <;> first | rfl | cases hb | skip
    exact eqvs_py xs _ ha hb
  | .dct _, _, ha, _ => by cases ha
  | .scr _, _, ha, _ => by cases ha
  | .glo _, _, ha, _ => by cases ha
  | .ty _, _, ha, _ => by cases ha
theorem eqvs_py : ∀ a b : List D, D.pls a = true → D.pls b = true → PyData.eqvAll (D.pys a) (D.pys b) = D.eqvs a b
  | [], [], _, _ => rfl
  | [], _ :: _, _, _ => rfl
  | _ :: _, [], _, _ => rfl
  | x :: xs, y :: ys, ha, hb => by
    have ha' := Bool.and_eq_true_iff.mp (show (D.pl x && D.pls xs) = true from ha)
    have hb' := Bool.and_eq_true_iff.mp (show (D.pl y && D.pls ys) = true from hb)
    show (PyData.eqv x.py y.py && PyData.eqvAll (D.pys xs) (D.pys ys)) = (D.eqv x y && D.eqvs xs ys)
    rw [eqv_py x y ha'.1 hb'.1, eqvs_py xs ys ha'.2 hb'.2]
end
mutual
theorem depth_py : ∀ a : D, PyData.depth a.py = a.dep
  | .non => rfl
  | .bl _ => rfl
  | .int _ => rfl
  | .str _ => rfl
  | .lst xs => congrArg (· + 1) (depths_py xs)
  | .tup xs => congrArg (· + 1) (depths_py xs)
  | .dct _ => rfl
  | .scr _ => rfl
  | .glo _ => rfl
  | .ty _ => rfl
theorem depths_py : ∀ a : List D, PyData.depthAll (D.pys a) = D.deps a
  | [] => rfl
  | x :: xs => by
    show max (PyData.depth x.py) (PyData.depthAll (D.pys xs)) = max x.dep (D.deps xs)
    rw [depth_py x, depths_py xs]
end
section
variable {K : PySem.W.Frag} {mg : Str → Option Value} {F H : Hp}
theorem strOk_mk {s : List Nat} (h : okS s) : PyData.strOk (mk s) = true := by
  unfold PyData.strOk mk
  rw [Array.all_eq_true]
  intro i hi
  have : s.toArray[i] ∈ s := by
    have := Array.getElem_mem hi
    simpa using this
  exact decide_eq_true (h _ this)
mutual
theorem Rep.dp (s : Same F H) : ∀ {d : D} {v : V}, Rep K mg F d v → d.pl = true → Dp K H v d.py ∧ PyData.canLay0 d.py = true
  | _, _, .non, _ => ⟨.non, rfl⟩
  | _, _, .bl b, _ => ⟨.bl b, rfl⟩
  | _, _, .int i, _ => ⟨.int i, rfl⟩
  | _, _, .str _ ok, _ => ⟨.str _, strOk_mk ok⟩
  | _, _, .lst h r, p => ⟨.lst (.inl (.inl (s _ _ h))) (Reps.dp s r p).1, (Reps.dp s r p).2⟩
  | _, _, .tup h r, p => ⟨.tup (sqT_same s h) (Reps.dp s r p).1, (Reps.dp s r p).2⟩
  | _, _, .dct _ _ _ _, p => by cases p
  | _, _, .scr _, p => by cases p
  | _, _, .glo _, p => by cases p
  | _, _, .ty _, p => by cases p
theorem Reps.dp (s : Same F H) : ∀ {ds : List D} {vs : List V}, Reps K mg F ds vs → D.pls ds = true → DpAll K H vs (D.pys ds) ∧ PyData.canLayAll0 (D.pys ds) = true
  | _, _, .nil, _ => ⟨.nil, rfl⟩
  | _, _, .cons h r, p => by
    have p' := Bool.and_eq_true_iff.mp (show (D.pl _ && D.pls _) = true from p)
    have a := Rep.dp s h p'.1
    have b := Reps.dp s r p'.2
    exact ⟨.cons a.1 b.1, Bool.and_eq_true_iff.mpr ⟨a.2, b.2⟩⟩
end
end
theorem RepR.dp {C : Cg} {F H : Hp} {d : D} {v : V} (s : Same F H) (h : RepR C F H d v) (p : d.pl = true) (q : d.dep ≤ 64) : Dp C.K H v d.py ∧ SeqAt.shaped d.py = true := by
  have fin : Dp C.K H v d.py ∧ PyData.canLay0 d.py = true → Dp C.K H v d.py ∧ SeqAt.shaped d.py = true := fun ⟨a, b⟩ => ⟨a, by
    unfold SeqAt.shaped
    rw [b, depth_py, decide_eq_true q]; rfl⟩
  rcases h with h | ⟨p', ds, xs, rfl, rfl, h3, h4, r⟩
  · exact fin (h.dp s p)
  · have z := Reps.dp s r p
    exact fin ⟨.lst (.inl (.inl h3)) z.1, z.2⟩
def D.cmpOk (a b : D) : Bool := a.pl && b.pl && decide (a.dep ≤ 64) && decide (b.dep ≤ 64)
def D.eq (a b : D) : R D := if D.cmpOk a b = true then .ok (.bl (D.eqv a b)) else .stuck
def D.ne (a b : D) : R D := if D.cmpOk a b = true then .ok (.bl (!D.eqv a b)) else .stuck
theorem cmpOk_of {a b : D} (h : D.cmpOk a b = true) : a.pl = true ∧ b.pl = true ∧ a.dep ≤ 64 ∧ b.dep ≤ 64 := by
  unfold D.cmpOk at h
  simp only [Bool.and_eq_true, decide_eq_true_eq] at h
  exact ⟨h.1.1.1, h.1.1.2, h.1.2, h.2⟩
theorem os_eq {C : Cg} : OpS C (rEqD C.K) D.eq := fun d1 d2 v1 v2 F H E Q s r1 r2 p => by
  unfold D.eq at p
  split at p
  · rename_i h
    obtain ⟨a1, a2, a3, a4⟩ := cmpOk_of h
    have e1 := r1.dp s a1 a3
    have e2 := r2.dp s a2 a4
    refine ⟨_, _, e1.1, e2.1, e1.2, e2.2, ?_⟩
    rw [eqv_py _ _ a1 a2]
    exact p F H (Ext.refl s) _ (.bl _)
  · exact p.elim
theorem os_ne {C : Cg} : OpS C (rNeD C.K) D.ne := fun d1 d2 v1 v2 F H E Q s r1 r2 p => by
  unfold D.ne at p
  split at p
  · rename_i h
    obtain ⟨a1, a2, a3, a4⟩ := cmpOk_of h
    have e1 := r1.dp s a1 a3
    have e2 := r2.dp s a2 a4
    refine ⟨_, _, e1.1, e2.1, e1.2, e2.2, ?_⟩
    rw [eqv_py _ _ a1 a2]
    exact p F H (Ext.refl s) _ (.bl _)
  · exact p.elim

/-! ### ints -/
def iop (g : Int → Int → R D) : D → D → R D
  | .int i, .int j => g i j
  | _, _ => .stuck
theorem os_int {C : Cg} {c : Int → Int → Prop} {h : Int → Int → D} {h' : Int → Int → V} {g : Int → Int → R D} (hg : ∀ i j, (c i j ∧ g i j = .ok (h i j)) ∨ g i j = .stuck) (hr : ∀ i j F, Rep C.K C.mg F (h i j) (h' i j)) : OpS C (rI c h') (iop g) := fun d1 d2 v1 v2 F H E Q s r1 r2 p => by
  unfold iop at p
  split at p
  · rename_i i j
    have e1 := r1.int
    have e2 := r2.int
    subst e1 e2
    rcases hg i j with ⟨hc, e⟩ | e
    · rw [e] at p
      exact ⟨i, j, rfl, rfl, hc, p F H (Ext.refl s) _ (hr i j F)⟩
    · rw [e] at p; exact p.elim
  · exact p.elim
theorem os_int0 {C : Cg} {h : Int → Int → D} {h' : Int → Int → V} (hr : ∀ i j F, Rep C.K C.mg F (h i j) (h' i j)) : OpS C (rI0 h') (iop fun i j => .ok (h i j)) := fun d1 d2 v1 v2 F H E Q s r1 r2 p => by
  unfold iop at p
  split at p
  · rename_i i j
    have e1 := r1.int
    have e2 := r2.int
    subst e1 e2
    exact ⟨i, j, rfl, rfl, p F H (Ext.refl s) _ (hr i j F)⟩
  · exact p.elim
def D.sub : D → D → R D := iop fun i j => .ok (.int (i - j))
def D.lt : D → D → R D
  | .int i, .int j => .ok (.bl (decide (i < j)))
  | .str a, .str b => .ok (.bl (decide (a < b)))
  | _, _ => .stuck
def D.le : D → D → R D
  | .int i, .int j => .ok (.bl (decide (i ≤ j)))
  | .str a, .str b => .ok (.bl (!decide (b < a)))
  | _, _ => .stuck
def D.gt : D → D → R D
  | .int i, .int j => .ok (.bl (decide (j < i)))
  | .str a, .str b => .ok (.bl (decide (b < a)))
  | _, _ => .stuck
def D.ge : D → D → R D
  | .int i, .int j => .ok (.bl (decide (j ≤ i)))
  | .str a, .str b => .ok (.bl (!decide (a < b)))
  | _, _ => .stuck
def D.fdiv : D → D → R D := iop fun i j => if 0 < j ∧ j.natAbs.log2 < 9000 then .ok (.int (i / j)) else .stuck
def D.mod : D → D → R D := iop fun i j => if 0 < j then .ok (.int (i % j)) else .stuck
def D.pow : D → D → R D := iop fun i j => if 0 ≤ j ∧ j ≤ 1000000 ∧ i.natAbs < 18446744073709551616 then .ok (.int (i ^ j.toNat)) else .stuck
section
variable {C : Cg}
theorem os_sub : OpS C (rI0 fun i j => .int (i - j)) D.sub := os_int0 fun _ _ _ => .int _
def rLtA : R2 := fun x y H Q => rI0 (fun i j => .bl (decide (i < j))) x y H Q ∨ ∃ i j, x = .str i ∧ y = .str j ∧ Q (.bl (decide (i.cps.toList < j.cps.toList))) H
theorem op_ltA {X : Cx} : OpR X (compareOp .Lt) rLtA := op_lt.or op_lt_str
theorem os_lt : OpS C rLtA D.lt := fun d1 d2 v1 v2 F H E Q s r1 r2 p => by
  unfold D.lt at p
  split at p
  · have e1 := r1.int
    have e2 := r2.int
    subst e1 e2
    exact .inl ⟨_, _, rfl, rfl, p F H (Ext.refl s) _ (.bl _)⟩
  · obtain ⟨e1, o1⟩ := r1.str
    obtain ⟨e2, o2⟩ := r2.str
    subst e1 e2
    refine .inr ⟨_, _, rfl, rfl, ?_⟩
    rw [mk_list, mk_list]
    exact p F H (Ext.refl s) _ (.bl _)
  · exact p.elim
def rLeA : R2 := fun x y H Q => rI0 (fun i j => .bl (decide (i ≤ j))) x y H Q ∨ ∃ i j, x = .str i ∧ y = .str j ∧ Q (.bl (!decide (j.cps.toList < i.cps.toList))) H
theorem op_leA {X : Cx} : OpR X (compareOp .LtE) rLeA := op_le.or op_le_str
theorem os_le : OpS C rLeA D.le := fun d1 d2 v1 v2 F H E Q s r1 r2 p => by
  unfold D.le at p
  split at p
  · have e1 := r1.int
    have e2 := r2.int
    subst e1 e2
    exact .inl ⟨_, _, rfl, rfl, p F H (Ext.refl s) _ (.bl _)⟩
  · obtain ⟨e1, o1⟩ := r1.str
    obtain ⟨e2, o2⟩ := r2.str
    subst e1 e2
    refine .inr ⟨_, _, rfl, rfl, ?_⟩
    rw [mk_list, mk_list]
    exact p F H (Ext.refl s) _ (.bl _)
  · exact p.elim
def rGtA : R2 := fun x y H Q => rI0 (fun i j => .bl (decide (j < i))) x y H Q ∨ ∃ i j, x = .str i ∧ y = .str j ∧ Q (.bl (decide (j.cps.toList < i.cps.toList))) H
theorem op_gtA {X : Cx} : OpR X (compareOp .Gt) rGtA := op_gt.or op_gt_str
theorem os_gt : OpS C rGtA D.gt := fun d1 d2 v1 v2 F H E Q s r1 r2 p => by
  unfold D.gt at p
  split at p
  · have e1 := r1.int
    have e2 := r2.int
    subst e1 e2
    exact .inl ⟨_, _, rfl, rfl, p F H (Ext.refl s) _ (.bl _)⟩
  · obtain ⟨e1, o1⟩ := r1.str
    obtain ⟨e2, o2⟩ := r2.str
    subst e1 e2
    refine .inr ⟨_, _, rfl, rfl, ?_⟩
    rw [mk_list, mk_list]
    exact p F H (Ext.refl s) _ (.bl _)
  · exact p.elim
def rGeA : R2 := fun x y H Q => rI0 (fun i j => .bl (decide (j ≤ i))) x y H Q ∨ ∃ i j, x = .str i ∧ y = .str j ∧ Q (.bl (!decide (i.cps.toList < j.cps.toList))) H
theorem op_geA {X : Cx} : OpR X (compareOp .GtE) rGeA := op_ge.or op_ge_str
theorem os_ge : OpS C rGeA D.ge := fun d1 d2 v1 v2 F H E Q s r1 r2 p => by
  unfold D.ge at p
  split at p
  · have e1 := r1.int
    have e2 := r2.int
    subst e1 e2
    exact .inl ⟨_, _, rfl, rfl, p F H (Ext.refl s) _ (.bl _)⟩
  · obtain ⟨e1, o1⟩ := r1.str
    obtain ⟨e2, o2⟩ := r2.str
    subst e1 e2
    refine .inr ⟨_, _, rfl, rfl, ?_⟩
    rw [mk_list, mk_list]
    exact p F H (Ext.refl s) _ (.bl _)
  · exact p.elim
theorem os_fdiv : OpS C (rI CDivW fun i j => .int (i / j)) D.fdiv := os_int (h := fun i j => .int (i / j)) (fun i j => by
  by_cases h : 0 < j ∧ j.natAbs.log2 < 9000
  · exact .inl ⟨h, if_pos h⟩
  · exact .inr (if_neg h)) fun _ _ _ => .int _
theorem os_mod : OpS C (rI (fun _ j => 0 < j) fun i j => .int (i % j)) D.mod := os_int (h := fun i j => .int (i % j)) (fun i j => by
  by_cases h : 0 < j
  · exact .inl ⟨h, if_pos h⟩
  · exact .inr (if_neg h)) fun _ _ _ => .int _
theorem os_pow : OpS C (rI CPow fun i j => .int (i ^ j.toNat)) D.pow := os_int (h := fun i j => .int (i ^ j.toNat)) (fun i j => by
  by_cases h : 0 ≤ j ∧ j ≤ 1000000 ∧ i.natAbs < 18446744073709551616
  · exact .inl ⟨h, if_pos h⟩
  · exact .inr (if_neg h)) fun _ _ _ => .int _
end

/-! ### + and * -/
def D.add : D → D → R D
  | .int i, .int j => .ok (.int (i + j))
  | .str a, .str b => if a.length + b.length ≤ 16777216 then .ok (.str (a ++ b)) else .stuck
  | .lst a, .lst b => if a.length + b.length ≤ 16777216 then .ok (.lst (a ++ b)) else .stuck
  | _, _ => .stuck
def rAddS : R2 := fun x y H Q => ∃ i j, x = .str i ∧ y = .str j ∧ i.length + j.length ≤ sizeLine ∧ Q (.str (i ++ j)) H
def rAddA : R2 := fun x y H Q => rI0 (fun i j => .int (i + j)) x y H Q ∨ rAddS x y H Q ∨ rCat x y H Q
theorem op_addA {X : Cx} : OpR X (binaryOp .Add) rAddA := op_add.or (op_add_str.or op_cat)
theorem os_add {C : Cg} : OpS C rAddA D.add := fun d1 d2 v1 v2 F H E Q s r1 r2 p => by
  unfold D.add at p
  split at p
  · rename_i i j
    have e1 := r1.int
    have e2 := r2.int
    subst e1 e2
    exact .inl ⟨i, j, rfl, rfl, p F H (Ext.refl s) _ (.int _)⟩
  · rename_i a b
    obtain ⟨e1, o1⟩ := r1.str
    obtain ⟨e2, o2⟩ := r2.str
    subst e1 e2
    split at p
    · rename_i hl
      refine .inr (.inl ⟨_, _, rfl, rfl, by rw [mk_len, mk_len, sizeLine_eq]; exact hl, ?_⟩)
      rw [mk_app]
      exact p F H (Ext.refl s) _ (.str _ (o1.app o2))
    · exact p.elim
  · rename_i a b
    obtain ⟨p1, xs, rfl, h1, q1⟩ := r1.lst s
    obtain ⟨p2, ys, rfl, h2, q2⟩ := r2.lst s
    split at p
    · rename_i hl
      refine .inr (.inr ⟨p1, p2, xs, ys, rfl, rfl, h1, h2, by rw [q1.length, q2.length, sizeLine_eq]; exact hl, fun z nz => ?_⟩)
      exact p _ _ (Ext.new s nz) _ (.lst upd_same ((q1.append q2).mono (same_upd (sub_none s nz))))
    · exact p.elim
  · exact p.elim
/-- + of two lists, the new one not settled -/
def lcat : D → D → R (List D)
  | .lst a, .lst b => if a.length + b.length ≤ 16777216 then .ok (a ++ b) else .stuck
  | _, _ => .stuck
def mOpL (g : D → D → R (List D)) (ma mb : Env → R D) : Env → R (List D) := fun Γ => do let x ← ma Γ; let y ← mb Γ; g x y
def OpL (C : Cg) (r : R2) (g : D → D → R (List D)) : Prop := ∀ (d1 d2 : D) (v1 v2 : V) (F H : Hp) (E : XK) (Q : VK), Same F H → RepR C F H d1 v1 → RepR C F H d2 v2 → Post C E F H (g d1 d2) (kL C H Q) → r v1 v2 H Q
theorem kL_step {C : Cg} {H H' : Hp} {Q : VK} {ds : List D} {F2 H2 : Hp} (x : Same H H') (h : kL C H Q ds F2 H2) : kL C H' Q ds F2 H2 := fun p xs n hp nF r => h p xs (x.free n) hp nF r
theorem opL_rd {X : Cx} {C : Cg} {a b : Expr} {ta tb : TE} {ma mb : Env → R D} {r : R2} {g : D → D → R (List D)} (hs : OpL C r g) (ha : FR X C a ta ma) (hb : FR X C b tb mb) : ∀ Γ σ F H Q, EnvOk C Γ σ F H → Post C (WE C.W σ) F H (mOpL g ma mb Γ) (kL C H Q) → tOp r ta tb σ H Q := fun Γ σ F H Q e p =>
  ha.rd Γ σ F H _ e (Post.bind p fun x F1 H1 x1 p1 v1 r1 => hb.rd Γ σ F1 H1 _ (e.step x1) (Post.bind p1 fun y F2 H2 x2 p2 v2 r2 => hs x y v1 v2 F2 H2 _ Q x2.sub (r1.ext x2) r2 (p2.imp fun ds F3 H3 x3 q => kL_step (x1.sH.trans x2.sH) q)))
theorem fl_op {X : Cx} {C : Cg} {a b : Expr} {ta tb : TE} {ma mb : Env → R D} {pos : Pos} {op : Operator} {r : R2} {g : D → D → R (List D)} (ho : OpR X (binaryOp op) r) (hs : OpL C r g) (ha : FR X C a ta ma) (hb : FR X C b tb mb) : FL X C (.BinOp a op b pos) (tOp r ta tb) (mOpL g ma mb) := ⟨pe_op ho ha.pe hb.pe, opL_rd hs ha hb⟩
theorem ol_cat {C : Cg} : OpL C rCat lcat := fun d1 d2 v1 v2 F H E Q s r1 r2 p => by
  unfold lcat at p
  split at p
  · obtain ⟨p1, xs, rfl, h1, q1⟩ := r1.lst s
    obtain ⟨p2, ys, rfl, h2, q2⟩ := r2.lst s
    split at p
    · rename_i hl
      exact ⟨p1, p2, xs, ys, rfl, rfl, h1, h2, by rw [q1.length, q2.length, sizeLine_eq]; exact hl, fun z nz => p _ _ (Ext.raw s nz) z _ nz upd_same (sub_none s nz) (q1.append q2)⟩
    · exact p.elim
  · exact p.elim
/-- text * int -/
def repS (a : List Nat) (n : Nat) : List Nat := (List.replicate n a).flatten
def D.mul : D → D → R D
  | .int i, .int j => if i.natAbs.log2 + j.natAbs.log2 < 100000000 then .ok (.int (i * j)) else .stuck
  | .str a, .int k => if -1000000 ≤ k ∧ k ≤ 1000000 ∧ a.length * k.toNat ≤ 16777216 then .ok (.str (repS a k.toNat)) else .stuck
  | .lst a, .int k => if -1000000 ≤ k ∧ k ≤ 1000000 ∧ a.length * k.toNat ≤ 16777216 then .ok (.lst (List.replicate k.toNat a).flatten) else .stuck
  | _, _ => .stuck
def rRepS : R2 := fun x y H Q => ∃ (a : List Nat) (k : Int), x = .str (mk a) ∧ y = .int k ∧ -1000000 ≤ k ∧ k ≤ 1000000 ∧ a.length * k.toNat ≤ 16777216 ∧ Q (.str (mk (repS a k.toNat))) H
theorem foldl_mk (a : List Nat) : ∀ (k : Nat) (acc : List Nat), (List.replicate k (mk a).cps).foldl (fun x y => x ++ y) acc.toArray = (acc ++ repS a k).toArray
  | 0, acc => by simp [repS]
  | k + 1, acc => by
    rw [List.replicate_succ, List.foldl_cons, show acc.toArray ++ (mk a).cps = (acc ++ a).toArray by simp [mk], foldl_mk a k]
    simp [repS, List.replicate_succ]
theorem repS_one (a : List Nat) : repS a 1 = a := by simp [repS]
theorem repS_nil (k : Nat) : repS [] k = [] := by simp [repS]
theorem repS_succ (a : List Nat) (k : Nat) : repS a (k + 1) = a ++ repS a k := by
  unfold repS
  rw [List.replicate_succ, List.flatten_cons]
theorem repS_len (a : List Nat) : ∀ k : Nat, (repS a k).length = a.length * k
  | 0 => by simp [repS]
  | k + 1 => by rw [repS_succ, List.length_append, repS_len a k, Nat.mul_succ, Nat.add_comm]
theorem repS_ok {a : List Nat} (h : okS a) (k : Nat) : okS (repS a k) := fun c hc => by
  obtain ⟨l, h1, h2⟩ := List.mem_flatten.mp hc
  rw [(List.mem_replicate.mp h1).2] at h2
  exact h c h2
theorem op_repS {X : Cx} : OpR X (binaryOp .Mult) rRepS := by
  intro pins s σ H x y v u Q I rx ry h
  obtain ⟨a, k, rfl, rfl, h1, h2, h3, q⟩ := h
  obtain ⟨t, rfl⟩ := rx
  obtain ⟨t', rfl⟩ := ry
  have hl : (mk a).length = a.length := mk_len a
  refine PySem.P.mul_str (by rw [decide_eq_false (by omega), decide_eq_false (by omega)]; rfl) (fun g1 g2 => ?_) (fun g1 g2 => ?_) ?_
  · have hk : 0 < k := by omega
    rw [hl]
    have hz : a.length ≤ 16777216 := by
      have : 1 ≤ k.toNat := by omega
      exact Nat.le_trans (Nat.le_mul_of_pos_right _ this) h3
    have : (2 ^ 63 - 1 : Int) / k ≥ (2 ^ 63 - 1) / 1000000 := by
      rw [ge_iff_le, Int.le_ediv_iff_mul_le hk]
      have h4 : ((2 : Int) ^ 63 - 1) / 1000000 = 9223372036854 := by decide
      rw [h4]
      have : 9223372036854 * k ≤ 9223372036854 * 1000000 := Int.mul_le_mul_of_nonneg_left h2 (by decide)
      have h5 : (9223372036854 : Int) * 1000000 ≤ 2 ^ 63 - 1 := by decide
      omega
    have h4 : ((2 : Int) ^ 63 - 1) / 1000000 = 9223372036854 := by decide
    omega
  · rw [hl]
    simp [Builtin.Str.tooLong, sizeLine_eq]
    omega
  · by_cases g1 : k < 1
    · rw [if_pos g1]
      refine ⟨by decide, .str _, H, I.tok _, ⟨_, rfl⟩, ?_⟩
      have e : repS a k.toNat = [] := by
        rw [show k.toNat = 0 by omega]; rfl
      rw [e] at q
      exact q
    · rw [if_neg g1]
      by_cases g2 : (k == 1 || (mk a).length == 0) = true
      · rw [if_pos g2]
        have e : repS a k.toNat = a := by
          rcases Bool.or_eq_true_iff.mp g2 with g | g
          · have : k = 1 := eq_of_beq g
            subst this; exact repS_one a
          · have : a.length = 0 := by rw [← hl]; exact eq_of_beq g
            have : a = [] := List.length_eq_zero_iff.mp this
            subst this; exact repS_nil _
        rw [e] at q
        exact ⟨.str _, H, I, ⟨_, rfl⟩, q⟩
      · rw [if_neg g2]
        have e := foldl_mk a k.toNat []
        have e2 : (⟨(List.replicate k.toNat (mk a).cps).foldl (fun x y => x ++ y) #[]⟩ : Str) = mk (repS a k.toNat) := by
          show Str.mk _ = Str.mk _
          exact congrArg Str.mk (by simpa using e)
        show Made.post (Made.str ⟨(List.replicate k.toNat (mk a).cps).foldl (fun x y => x ++ y) #[]⟩) _ _
        rw [e2]
        refine ⟨?_, .str _, H, I.tok _, ⟨_, rfl⟩, q⟩
        rw [mk_len, repS_len, sizeLine_eq]
        exact h3
/-- * of great numbers -/
def CMulX (i j : Int) : Prop := i.natAbs.log2 + j.natAbs.log2 < 100000000
theorem CMulX.ok {i j : Int} (h : CMulX i j) : IntMulOk i j := by
  have b : ∀ x : Int, Builtin.Int.intBits x ≤ x.natAbs.log2 + 1 := fun x => by
    unfold Builtin.Int.intBits
    split <;> omega
  have h1 := b i
  have h2 := b j
  have h3 : i.natAbs.log2 + j.natAbs.log2 < 100000000 := h
  have e : bitsLine = 134217728 := by decide
  unfold IntMulOk
  intro z
  rw [Bool.and_eq_true] at z
  have z2 := z.2
  unfold Builtin.Int.intTooBig at z2
  have z3 := of_decide_eq_true z2
  rw [e] at z3
  omega
theorem op_mulX {X : Cx} : OpR X (binaryOp .Mult) (rI CMulX fun i j => .int (i * j)) := opI fun _ _ _ _ _ _ _ hc q => mul_int q hc.ok
def rMulA : R2 := fun x y H Q => rI CMulX (fun i j => .int (i * j)) x y H Q ∨ rRepS x y H Q ∨ rRep x y H Q
theorem op_mulA {X : Cx} : OpR X (binaryOp .Mult) rMulA := op_mulX.or (op_repS.or op_rep)
theorem os_mul {C : Cg} : OpS C rMulA D.mul := fun d1 d2 v1 v2 F H E Q s r1 r2 p => by
  unfold D.mul at p
  split at p
  · rename_i i j
    have e1 := r1.int
    have e2 := r2.int
    subst e1 e2
    split at p
    · rename_i hc
      exact .inl ⟨i, j, rfl, rfl, hc, p F H (Ext.refl s) _ (.int _)⟩
    · exact p.elim
  · rename_i a k
    obtain ⟨e1, o1⟩ := r1.str
    have e2 := r2.int
    subst e1 e2
    split at p
    · rename_i hc
      exact .inr (.inl ⟨a, k, rfl, rfl, hc.1, hc.2.1, hc.2.2, p F H (Ext.refl s) _ (.str _ (repS_ok o1 _))⟩)
    · exact p.elim
  · rename_i a k
    obtain ⟨p1, xs, rfl, h1, q1⟩ := r1.lst s
    have e2 := r2.int
    subst e2
    split at p
    · rename_i hc
      refine .inr (.inr ⟨p1, k, xs, rfl, rfl, h1, by omega, by omega, by rw [q1.length, sizeLine_eq]; exact hc.2.2, fun z nz => ?_⟩)
      exact p _ _ (Ext.new s nz) _ (.lst upd_same ((q1.rep _).mono (same_upd (sub_none s nz))))
    · exact p.elim
  · exact p.elim
end FL

set_option Elab.async false
set_option linter.all false
set_option maxRecDepth 100000
set_option maxHeartbeats 2000000
/-! FL, part 6: subscripts, slices, len, in, isinstance, walks. -/
namespace FL
open PySem PySem.Spec PyProof.Rows L2
set_option autoImplicit false
/-! ### x[i] -/
def D.ix : D → D → R D
  | .str a, .int i => if a.length ≤ 16777216 then (match atI a i with
      | some c => .ok (.str [c])
      | none => .stuck) else .stuck
  | .lst a, .int i => (match atI a i with
      | some d => .ok d
      | none => .stuck)
  | .tup a, .int i => (match atI a i with
      | some d => .ok d
      | none => .stuck)
  | .scr a, .int i => (match atI a i with
      | some d => .ok (.int d)
      | none => .stuck)
  | _, _ => .stuck
theorem atI_iff {α : Type} {xs : List α} {i : Int} {v : α} : atI xs i = some v ↔ ∃ j, ixN xs.length i = some j ∧ xs[j]? = some v := by
  unfold atI
  rw [Option.bind_eq_some_iff]
theorem Reps.atI {K : PySem.W.Frag} {mg : Str → Option Value} {F : Hp} {ds : List D} {vs : List V} {i : Int} {d : D} (r : Reps K mg F ds vs) (h : atI ds i = some d) : ∃ v, L2.atI vs i = some v ∧ Rep K mg F d v := by
  obtain ⟨j, h1, h2⟩ := atI_iff.mp h
  obtain ⟨v, h3, h4⟩ := r.get h2
  exact ⟨v, atI_iff.mpr ⟨j, by rw [r.length]; exact h1, h3⟩, h4⟩
theorem okS_at {a : List Nat} {i : Int} {c : Nat} (o : okS a) (h : atI a i = some c) : okS [c] := fun x hx => by
  obtain ⟨j, _, h2⟩ := atI_iff.mp h
  rw [List.mem_singleton.mp hx]
  exact o c (List.mem_of_getElem? h2)
theorem os_ix {C : Cg} : OpS C (rIx C.K) D.ix := fun d1 d2 v1 v2 F H E Q s r1 r2 p => by
  unfold D.ix at p
  split at p
  · rename_i a i
    obtain ⟨e1, o1⟩ := r1.str
    have e2 := r2.int
    subst e1 e2
    split at p
    · rename_i hl
      split at p
      · rename_i c hc
        exact .inr (.inr ⟨_, i, c, rfl, rfl, by rw [mk_len, sizeLine_eq]; exact hl, by rw [mk_list]; exact hc, p F H (Ext.refl s) _ (.str [c] (okS_at o1 hc))⟩)
      · exact p.elim
    · exact p.elim
  · rename_i a i
    obtain ⟨p1, xs, rfl, h1, q1⟩ := r1.lst s
    have e2 := r2.int
    subst e2
    split at p
    · rename_i d hd
      obtain ⟨v, g1, g2⟩ := q1.atI hd
      exact .inl ⟨p1, xs, i, v, rfl, rfl, .inl (.inl h1), g1, p F H (Ext.refl s) _ g2⟩
    · exact p.elim
  · rename_i a i
    obtain ⟨p1, xs, rfl, h1, q1⟩ := r1.tup s
    have e2 := r2.int
    subst e2
    split at p
    · rename_i d hd
      obtain ⟨v, g1, g2⟩ := q1.atI hd
      exact .inr (.inl ⟨p1, xs, i, v, rfl, rfl, h1, g1, p F H (Ext.refl s) _ g2⟩)
    · exact p.elim
  · rename_i a i
    obtain ⟨p1, rfl, h1⟩ := r1.scr s
    have e2 := r2.int
    subst e2
    split at p
    · rename_i d hd
      obtain ⟨j, g1, g2⟩ := atI_iff.mp hd
      exact .inl ⟨p1, _, i, .int d, rfl, rfl, h1, atI_iff.mpr ⟨j, by simpa using g1, by rw [List.getElem?_map, g2]; rfl⟩, p F H (Ext.refl s) _ (.int d)⟩
    · exact p.elim
  · exact p.elim

/-! ### x[i:j] -/
/-- a written end of a slice -/
structure FO (X : Cx) (C : Cg) (e : Option Expr) (t : TO) (m : Env → R (Option Int)) : Prop where
  po : PO X e t
  rd : ∀ Γ σ F H (Q : Option Int → Hp → Prop), EnvOk C Γ σ F H → Post C (WE C.W σ) F H (m Γ) (fun i _ H' => Q i H') → t σ H Q
def mPn : Env → R (Option Int) := fun _ => pure none
def asI : D → R Int
  | .int i => .ok i
  | _ => .stuck
def mPs (m : Env → R D) : Env → R (Option Int) := fun Γ => do let x ← m Γ; let i ← asI x; pure (some i)
/-- the place that an end means -/
def cutIx (n d : Nat) (i : Option Int) : Nat := HT.sIx n d i
def cutL {α : Type} (xs : List α) (lo hi : Option Int) : List α := (xs.drop (HT.sIx xs.length 0 lo)).take (HT.sIx xs.length xs.length hi - HT.sIx xs.length 0 lo)
def D.sl (d : D) (lo hi : Option Int) : R D := match d with
  | .str a => if a.length ≤ 16777216 then .ok (.str (cutL a lo hi)) else .stuck
  | .lst a => .ok (.lst (cutL a lo hi))
  | .scr a => .ok (.lst ((cutL a lo hi).map .int))
  | _ => .stuck
def lsl (d : D) (lo hi : Option Int) : R (List D) := match d with
  | .lst a => .ok (cutL a lo hi)
  | .scr a => .ok ((cutL a lo hi).map .int)
  | _ => .stuck
theorem Reps.cut {K : PySem.W.Frag} {mg : Str → Option Value} {F : Hp} {ds : List D} {vs : List V} (lo hi : Option Int) (r : Reps K mg F ds vs) : Reps K mg F (cutL ds lo hi) (cutV vs lo hi) := by
  unfold cutL cutV
  rw [r.length]
  exact (r.drop _).take _
theorem okS_cut {a : List Nat} (o : okS a) (lo hi : Option Int) : okS (cutL a lo hi) := fun c hc => o c (List.drop_subset _ _ (List.take_subset _ _ hc))
theorem mk_cut (a : List Nat) (lo hi : Option Int) : cutS (mk a) lo hi = mk (cutL a lo hi) := by
  unfold cutS cutL
  rw [mk_list, mk_len]
  rfl
theorem map_cut (ns : List Int) (lo hi : Option Int) : cutV (ns.map V.int) lo hi = (cutL ns lo hi).map V.int := by
  unfold cutV cutL
  simp [List.map_take, List.map_drop]
def rSlA (K : PySem.W.Frag) : V → Option Int → Option Int → Hp → VK → Prop := fun x lo hi H Q => rSlL K x lo hi H Q ∨ rSlS x lo hi H Q
theorem sl_A {X : Cx} : SlR X (rSlA X.K) := sl_list.or sl_str
section
variable {X : Cx} {C : Cg} {a : Expr} {te : TE} {ma : Env → R D} {pos p2 : Pos} {lo hi : Option Expr} {tl th : TO} {ml mh : Env → R (Option Int)}
theorem fo_none : FO X C none tNoPart mPn := ⟨po_none, fun Γ σ F H Q e p => p F H (Ext.refl e.sub)⟩
theorem fo_some (h : FE X C a te ma) : FO X C (some a) (tPart te) (mPs ma) := ⟨po_some h.pe, fun Γ σ F H Q e p => h.rd Γ σ F H _ e (Post.bind p fun x F1 H1 x1 p1 v r => by
  cases r with
  | int i => exact ⟨i, rfl, p1 F1 H1 (Ext.refl x1.sub)⟩
  | _ => exact p1.elim)⟩
def mSl (ma : Env → R D) (ml mh : Env → R (Option Int)) : Env → R D := fun Γ => do let x ← ma Γ; let i ← ml Γ; let j ← mh Γ; D.sl x i j
def mSlL (ma : Env → R D) (ml mh : Env → R (Option Int)) : Env → R (List D) := fun Γ => do let x ← ma Γ; let i ← ml Γ; let j ← mh Γ; lsl x i j
theorem fe_slice (hK : X.K = C.K) (ha : FR X C a te ma) (hl : FO X C lo tl ml) (hh : FO X C hi th mh) : FE X C (.Subscript a (.Slice lo hi none p2) pos) (tSl (rSlA X.K) te tl th) (mSl ma ml mh) :=
  ⟨pe_slice sl_A ha.pe hl.po hh.po, fun Γ σ F H Q e p => ha.rd Γ σ F H _ e (Post.bind p fun x F1 H1 x1 p1 v1 r1 => hl.rd Γ σ F1 H1 _ (e.step x1) (Post.bind p1 fun i F2 H2 x2 p2 => hh.rd Γ σ F2 H2 _ ((e.step x1).step x2) (Post.bind p2 fun j F3 H3 x3 p3 => by
    have r3 := (r1.ext x2).ext x3
    have s := x3.sub
    unfold D.sl at p3
    split at p3
    · obtain ⟨e1, o1⟩ := r3.str
      subst e1
      split at p3
      · rename_i hz
        refine .inr ⟨_, rfl, by rw [mk_len, sizeLine_eq]; exact hz, ?_⟩
        rw [mk_cut]
        exact p3 F3 H3 (Ext.refl s) _ (.str _ (okS_cut o1 _ _))
      · exact p3.elim
    · obtain ⟨q, xs, rfl, h1, q1⟩ := r3.lst s
      exact .inl ⟨q, xs, rfl, .inl (.inl h1), fun z nz => p3 _ _ (Ext.new s nz) _ (.lst upd_same ((q1.cut i j).mono (same_upd (sub_none s nz))))⟩
    · obtain ⟨q, rfl, h1⟩ := r3.scr s
      refine .inl ⟨q, _, rfl, hK ▸ h1, fun z nz => p3 _ _ (Ext.new s nz) _ (.lst upd_same ?_)⟩
      rw [map_cut]
      exact reps_ints
    · exact p3.elim)))⟩
theorem fl_slice (hK : X.K = C.K) (ha : FR X C a te ma) (hl : FO X C lo tl ml) (hh : FO X C hi th mh) : FL X C (.Subscript a (.Slice lo hi none p2) pos) (tSl (rSlL X.K) te tl th) (mSlL ma ml mh) :=
  ⟨pe_slice sl_list ha.pe hl.po hh.po, fun Γ σ F H Q e p => ha.rd Γ σ F H _ e (Post.bind p fun x F1 H1 x1 p1 v1 r1 => hl.rd Γ σ F1 H1 _ (e.step x1) (Post.bind p1 fun i F2 H2 x2 p2 => hh.rd Γ σ F2 H2 _ ((e.step x1).step x2) (Post.bind p2 fun j F3 H3 x3 p3 => by
    have r3 := (r1.ext x2).ext x3
    have s := x3.sub
    have sH : Same H H3 := (x1.sH.trans x2.sH).trans x3.sH
    unfold lsl at p3
    split at p3
    · obtain ⟨q, xs, rfl, h1, q1⟩ := r3.lst s
      exact ⟨q, xs, rfl, .inl (.inl h1), fun z nz => p3 _ _ (Ext.raw s nz) z _ (sH.free nz) upd_same (sub_none s nz) (q1.cut i j)⟩
    · obtain ⟨q, rfl, h1⟩ := r3.scr s
      refine ⟨q, _, rfl, hK ▸ h1, fun z nz => p3 _ _ (Ext.raw s nz) z _ (sH.free nz) upd_same (sub_none s nz) ?_⟩
      rw [map_cut]
      exact reps_ints
    · exact p3.elim)))⟩
end

/-! ### is None; in -/
def D.isN : D → D → R D
  | .non, .non => .ok (.bl true)
  | _, .non => .ok (.bl false)
  | _, _ => .stuck
def D.notN : D → D → R D
  | .non, .non => .ok (.bl false)
  | _, .non => .ok (.bl true)
  | _, _ => .stuck
theorem repR_non {C : Cg} {F H : Hp} {d : D} {v : V} (h : RepR C F H d v) : v = .non ↔ d = .non := by
  constructor
  · intro e; subst e
    rcases h with h | ⟨p, ds, xs, _, h2, _⟩
    · cases h; rfl
    · cases h2
  · intro e; subst e; exact h.non
theorem os_isN {C : Cg} : OpS C (fun x y H Q => y = .non ∧ Q (.bl (decide (x = .non))) H) D.isN := fun d1 d2 v1 v2 F H E Q s r1 r2 p => by
  unfold D.isN at p
  split at p
  · have e1 := r1.non
    have e2 := r2.non
    subst e1 e2
    exact ⟨rfl, p F H (Ext.refl s) _ (.bl _)⟩
  · rename_i h
    have e2 := r2.non
    subst e2
    refine ⟨rfl, ?_⟩
    rw [decide_eq_false (fun z => h ((repR_non r1).mp z))]
    exact p F H (Ext.refl s) _ (.bl _)
  · exact p.elim
theorem os_notN {C : Cg} : OpS C (fun x y H Q => y = .non ∧ Q (.bl (!decide (x = .non))) H) D.notN := fun d1 d2 v1 v2 F H E Q s r1 r2 p => by
  unfold D.notN at p
  split at p
  · have e1 := r1.non
    have e2 := r2.non
    subst e1 e2
    exact ⟨rfl, p F H (Ext.refl s) _ (.bl _)⟩
  · rename_i h
    have e2 := r2.non
    subst e2
    refine ⟨rfl, ?_⟩
    rw [decide_eq_false (fun z => h ((repR_non r1).mp z))]
    exact p F H (Ext.refl s) _ (.bl _)
  · exact p.elim
/-- flat things, as they are compared by in -/
def D.flat : D → Bool
  | .non => true
  | .bl _ => true
  | .int _ => true
  | .str _ => true
  | _ => false
def isSub (a b : List Nat) : Bool := !(Builtin.Str.occurrences (mk b) (mk a) 0 (mk b).length 1).isEmpty
/-- x in y: one sign or a text in a text; a flat thing in a list, a tuple of such -/
def D.isIn : D → D → R Bool
  | .str a, .str b => (match a with
      | [c] => .ok (decide (c ∈ b))
      | a => .ok (isSub a b))
  | d, .lst ds => if d.flat && ds.all D.flat then .ok (ds.any fun y => D.eqv y d) else .stuck
  | d, .tup ds => if d.flat && ds.all D.flat then .ok (ds.any fun y => D.eqv y d) else .stuck
  | _, _ => .stuck
def D.in_ (a b : D) : R D := do let x ← D.isIn a b; pure (.bl x)
def D.notIn (a b : D) : R D := do let x ← D.isIn a b; pure (.bl !x)
section
variable {C : Cg} {F H : Hp}
theorem flat_rep {d : D} {v : V} (h : RepR C F H d v) (f : d.flat = true) : flatV v = true := by
  rcases h with h | ⟨p, ds, xs, h1, _⟩
  · cases h <;> first | rfl | cases f
  · subst h1; cases f
theorem flat_eqv {d e : D} {v u : V} (h : RepR C F H d v) (h' : RepR C F H e u) (f : d.flat = true) (f' : e.flat = true) : eqV v u = D.eqv d e := by
  rcases h with h | ⟨p, ds, xs, h1, _⟩
  · rcases h' with h' | ⟨p, ds, xs, h1, _⟩
    · cases h <;> first | cases f | skip
      all_goals cases h' <;> first | cases f' | skip
      all_goals first
        | rfl
        | (simp only [eqV, D.eqv]; first | rfl | exact mk_beq _ _)
        | (rename_i a b; cases a <;> cases b <;> rfl)
        | (rename_i a b; cases a <;> rfl)
        | (rename_i a b; cases b <;> rfl)
        | skip
    · subst h1; cases f'
  · subst h1; cases f
theorem flats {ds : List D} {vs : List V} {d : D} {v : V} (h' : RepR C F H d v) (f' : d.flat = true) (r : Reps C.K C.mg F ds vs) : ds.all D.flat = true → vs.all flatV = true ∧ inV v vs = ds.any fun y => D.eqv y d := by
  induction ds generalizing vs with
  | nil => intro _; cases r; exact ⟨rfl, rfl⟩
  | cons e es ih =>
    intro f
    cases r with
    | cons r1 r2 =>
      rw [List.all_cons, Bool.and_eq_true] at f
      obtain ⟨a1, a2⟩ := ih r2 f.2
      refine ⟨by rw [List.all_cons, flat_rep (F := F) (H := H) (.inl r1) f.1, a1]; rfl, ?_⟩
      unfold inV at a2 ⊢
      rw [List.any_cons, List.any_cons, a2, flat_eqv (F := F) (H := H) (.inl r1) h' f.1 f']
end
def rInT : R2 := fun x y H Q => ∃ i j, x = .str i ∧ y = .str j ∧ Q (.bl (!(Builtin.Str.occurrences j i 0 j.length 1).isEmpty)) H
def rNotInT : R2 := fun x y H Q => ∃ i j, x = .str i ∧ y = .str j ∧ Q (.bl (!(!(Builtin.Str.occurrences j i 0 j.length 1).isEmpty))) H
def rInSg : R2 := fun x y H Q => ∃ (c : Nat) (z : Str), x = .str ⟨#[c]⟩ ∧ y = .str z ∧ Q (.bl (decide (c ∈ z.cps.toList))) H
def rNotInSg : R2 := fun x y H Q => ∃ (c : Nat) (z : Str), x = .str ⟨#[c]⟩ ∧ y = .str z ∧ Q (.bl (!decide (c ∈ z.cps.toList))) H
def rInA (K : PySem.W.Frag) : R2 := fun x y H Q => rInSg x y H Q ∨ rInT x y H Q ∨ rIn K false x y H Q
def rNotInA (K : PySem.W.Frag) : R2 := fun x y H Q => rNotInSg x y H Q ∨ rNotInT x y H Q ∨ rIn K true x y H Q
theorem op_inA {X : Cx} : OpR X (compareOp .In) (rInA X.K) := op_in_sign.or (op_in_str.or op_in_seq)
theorem op_notInA {X : Cx} : OpR X (compareOp .NotIn) (rNotInA X.K) := op_notIn_sign.or (op_notIn_str.or op_notIn_seq)
theorem os_in {C : Cg} : OpS C (rInA C.K) D.in_ := fun d1 d2 v1 v2 F H E Q s r1 r2 p => by
  unfold D.in_ D.isIn at p
  split at p
  · obtain ⟨e1, o1⟩ := r1.str
    obtain ⟨e2, o2⟩ := r2.str
    subst e1 e2
    split at p
    · rename_i c
      refine .inl ⟨c, _, rfl, rfl, ?_⟩
      rw [mk_list]
      exact p F H (Ext.refl s) _ (.bl _)
    · exact .inr (.inl ⟨_, _, rfl, rfl, p F H (Ext.refl s) _ (.bl _)⟩)
  · split at p
    · rename_i hf
      rw [Bool.and_eq_true] at hf
      obtain ⟨q, xs, rfl, h1, q1⟩ := r2.lst s
      obtain ⟨a1, a2⟩ := flats r1 hf.1 q1 hf.2
      refine .inr (.inr ⟨q, xs, rfl, .inl (.inl (.inl h1)), flat_rep r1 hf.1, a1, ?_⟩)
      rw [if_neg Bool.false_ne_true, a2]
      exact p F H (Ext.refl s) _ (.bl _)
    · exact p.elim
  · split at p
    · rename_i hf
      rw [Bool.and_eq_true] at hf
      obtain ⟨q, xs, rfl, h1, q1⟩ := r2.tup s
      obtain ⟨a1, a2⟩ := flats r1 hf.1 q1 hf.2
      refine .inr (.inr ⟨q, xs, rfl, .inr h1, flat_rep r1 hf.1, a1, ?_⟩)
      rw [if_neg Bool.false_ne_true, a2]
      exact p F H (Ext.refl s) _ (.bl _)
    · exact p.elim
  · exact p.elim
theorem os_notIn {C : Cg} : OpS C (rNotInA C.K) D.notIn := fun d1 d2 v1 v2 F H E Q s r1 r2 p => by
  unfold D.notIn D.isIn at p
  split at p
  · obtain ⟨e1, o1⟩ := r1.str
    obtain ⟨e2, o2⟩ := r2.str
    subst e1 e2
    split at p
    · rename_i c
      refine .inl ⟨c, _, rfl, rfl, ?_⟩
      rw [mk_list]
      exact p F H (Ext.refl s) _ (.bl _)
    · exact .inr (.inl ⟨_, _, rfl, rfl, p F H (Ext.refl s) _ (.bl _)⟩)
  · split at p
    · rename_i hf
      rw [Bool.and_eq_true] at hf
      obtain ⟨q, xs, rfl, h1, q1⟩ := r2.lst s
      obtain ⟨a1, a2⟩ := flats r1 hf.1 q1 hf.2
      refine .inr (.inr ⟨q, xs, rfl, .inl (.inl (.inl h1)), flat_rep r1 hf.1, a1, ?_⟩)
      rw [if_pos rfl, a2]
      exact p F H (Ext.refl s) _ (.bl _)
    · exact p.elim
  · split at p
    · rename_i hf
      rw [Bool.and_eq_true] at hf
      obtain ⟨q, xs, rfl, h1, q1⟩ := r2.tup s
      obtain ⟨a1, a2⟩ := flats r1 hf.1 q1 hf.2
      refine .inr (.inr ⟨q, xs, rfl, .inr h1, flat_rep r1 hf.1, a1, ?_⟩)
      rw [if_pos rfl, a2]
      exact p F H (Ext.refl s) _ (.bl _)
    · exact p.elim
  · exact p.elim

/-! ### built-ins by values -/
def CallS (C : Cg) (r : List V → Hp → VK → Prop) (g : List D → R D) : Prop := ∀ (ds : List D) (vs : List V) (F H : Hp) (E : XK) (Q : VK), Same F H → RepRs C F H ds vs → Post C E F H (g ds) (kV C Q) → r vs H Q
section
variable {X : Cx} {C : Cg} {x : Str} {id T : String} {p pos : Pos} {e : Expr} {es : List Expr} {t : TA} {m : Env → R (List D)} {r : List V → Hp → VK → Prop} {g : List D → R D}
theorem cb_rd (hs : CallS C r g) (ha : FB X C es t m) : ∀ Γ σ F H Q, EnvOk C Γ σ F H → Post C (WE C.W σ) F H (mCall g m Γ) (kV C Q) → tCB r t σ H Q := fun Γ σ F H Q en q =>
  ha.rd Γ σ F H _ en (Post.bind q fun ds F1 H1 x1 p1 vs rs => hs ds vs F1 H1 _ Q x1.sub rs p1)
theorem fe_callB (hc : CallR X (.builtin id) r) (hs : CallS C r g) (hg : Gl X x) (hm : X.mg x = none) (hv : bootBuiltins x = some (.builtin id)) (ha : FB X C (e :: es) t m) (hn : x ≠ "__name__" := by decide) (hdb : (x == ("__debug__" : Str)) = false := by decide)
    (he : starEach (e :: es) X.env = (false, eval e X.env) :: starEach es X.env := by rfl) (hpl : (backTo pos (starEach es X.env)).any (·.1) = false := by rfl) : FE X C (.Call (.Name x p) (e :: es) [] pos) (tCB r t) (mCall g m) :=
  ⟨pe_callB hc hg hm hv ha.pa hn hdb he hpl, cb_rd hs ha⟩
theorem fe_callTy (hc : CallR X (.type T) r) (hs : CallS C r g) (hg : Gl X x) (hm : X.mg x = none) (hv : bootBuiltins x = some (.type T)) (ha : FB X C (e :: es) t m) (hn : x ≠ "__name__" := by decide) (hdb : (x == ("__debug__" : Str)) = false := by decide)
    (he : starEach (e :: es) X.env = (false, eval e X.env) :: starEach es X.env := by rfl) (hpl : (backTo pos (starEach es X.env)).any (·.1) = false := by rfl) : FE X C (.Call (.Name x p) (e :: es) [] pos) (tCB r t) (mCall g m) :=
  ⟨pe_callTy hc hg hm hv ha.pa hn hdb he hpl, cb_rd hs ha⟩
end
theorem CallR.or {X : Cx} {f : Value} {r r' : List V → Hp → VK → Prop} (h : CallR X f r) (h' : CallR X f r') : CallR X f (fun xs H Q => r xs H Q ∨ r' xs H Q) := by
  intro pins s σ H xs us Q I rs q
  rcases q with q | q
  · exact h pins s σ H xs us Q I rs q
  · exact h' pins s σ H xs us Q I rs q
/-- len -/
def gLen : List D → R D
  | [.str a] => if a.length ≤ 16777216 then .ok (.int a.length) else .stuck
  | [.lst a] => .ok (.int a.length)
  | [.tup a] => .ok (.int a.length)
  | [.scr a] => .ok (.int a.length)
  | _ => .stuck
def rLenV (K : PySem.W.Frag) : List V → Hp → VK → Prop := fun xs H Q => ∃ x n, xs = [x] ∧ LenV K x H n ∧ Q (.int n) H
theorem call_lenV {X : Cx} : CallR X (.builtin "len") (rLenV X.K) := call_len
theorem cs_len {C : Cg} : CallS C (rLenV C.K) gLen := fun ds vs F H E Q s rs p => by
  unfold gLen at p
  split at p
  · rename_i a
    cases rs with
    | cons r rs =>
      cases rs
      obtain ⟨e1, o1⟩ := r.str
      subst e1
      split at p
      · rename_i hl
        exact ⟨_, a.length, rfl, ⟨by rw [mk_len, sizeLine_eq]; exact hl, (mk_len a).symm⟩, p F H (Ext.refl s) _ (.int _)⟩
      · exact p.elim
  · rename_i a
    cases rs with
    | cons r rs =>
      cases rs
      obtain ⟨q, xs, rfl, h1, q1⟩ := r.lst s
      exact ⟨_, a.length, rfl, .inl ⟨xs, .inl (.inl h1), q1.length.symm⟩, p F H (Ext.refl s) _ (.int _)⟩
  · rename_i a
    cases rs with
    | cons r rs =>
      cases rs
      obtain ⟨q, xs, rfl, h1, q1⟩ := r.tup s
      exact ⟨_, a.length, rfl, .inr ⟨xs, h1, q1.length.symm⟩, p F H (Ext.refl s) _ (.int _)⟩
  · rename_i a
    cases rs with
    | cons r rs =>
      cases rs
      obtain ⟨q, rfl, h1⟩ := r.scr s
      exact ⟨_, a.length, rfl, .inl ⟨_, h1, by simp⟩, p F H (Ext.refl s) _ (.int _)⟩
  · exact p.elim
/-- isinstance of a value and a built-in class -/
def D.tyn : D → Option String
  | .non => some "NoneType"
  | .bl _ => some "bool"
  | .int _ => some "int"
  | .str _ => some "str"
  | .lst _ => some "list"
  | .tup _ => some "tuple"
  | .dct _ => some "dict"
  | .scr _ => some "list"
  | _ => none
/-- of built-in types: what isinstance tells -/
def isTy (a b : String) : Option Bool := if ["NoneType", "bool", "int", "str", "list", "tuple", "dict"].contains a && ["bool", "int", "str", "list", "tuple", "dict"].contains b then some (a == b || (a == "bool" && b == "int")) else none
theorem isTy_kit {a b : String} {r : Bool} (h : isTy a b = some r) : kitB a b = some r := by
  unfold isTy at h
  split at h
  · rename_i hc
    rw [Bool.and_eq_true] at hc
    obtain ⟨h1, h2⟩ := hc
    have h3 : ∀ x ∈ ["NoneType", "bool", "int", "str", "list", "tuple", "dict"], ∀ y ∈ ["bool", "int", "str", "list", "tuple", "dict"], kitB x y = some (x == y || (x == "bool" && y == "int")) := by decide +kernel
    rw [← h]
    exact h3 a (by simpa using h1) b (by simpa using h2)
  · cases h
def gIsi : List D → R D
  | [d, .ty n] => match d.tyn with
    | some t => (match isTy t n with
      | some b => .ok (.bl b)
      | none => .stuck)
    | none => .stuck
  | _ => .stuck
theorem tyX_of {C : Cg} {F H : Hp} {d : D} {v : V} {t : String} (s : Same F H) (r : RepR C F H d v) (h : d.tyn = some t) : TyX C.K H v (.type t) := by
  unfold D.tyn at h
  split at h <;> first | cases h | skip
  · rw [r.non]; exact .base .non
  · rw [r.bl]; exact .base (.bl _)
  · rw [r.int]; exact .base (.int _)
  · rw [r.str.1]; exact .base (.str _)
  · obtain ⟨q, xs, rfl, h1, _⟩ := r.lst s; exact .base (.lst h1)
  · obtain ⟨q, xs, rfl, h1, _⟩ := r.tup s
    rcases h1 with (h1 | ⟨o, h1⟩) | ⟨o, its, n, h1, h2, _⟩
    · exact .base (.tup h1)
    · exact .fTuple h1
    · exact .kTuple h1 h2
  · obtain ⟨q, ks, xs, ds, rfl, _, _, _, h1, _⟩ := r.dct s; exact .base (.dK h1)
  · obtain ⟨q, rfl, h1⟩ := r.scr s
    rcases h1 with (h1 | ⟨o, h1⟩) | ⟨o, its, n, h1, h2, _⟩
    · exact .base (.lst h1)
    · exact .base (.frz h1)
    · exact .kList h1 h2
theorem cs_isi {C : Cg} : CallS C (rIsi C.K) gIsi := fun ds vs F H E Q s rs p => by
  unfold gIsi at p
  split at p
  · rename_i d n
    cases rs with
    | cons r rs =>
      cases rs with
      | cons r2 rs =>
        cases rs
        have e2 := r2.ty
        subst e2
        split at p
        · rename_i t ht
          split at p
          · rename_i b hb
            exact ⟨_, _, _, _, b, rfl, .ty n, tyX_of s r ht, kit_ty (isTy_kit hb), p F H (Ext.refl s) _ (.bl _)⟩
          · exact p.elim
        · exact p.elim
  · exact p.elim
/-- min, max of two ints; abs; int of a truth, of an int -/
def gMax2 : List D → R D
  | [.int i, .int j] => .ok (.int (if j > i then j else i))
  | _ => .stuck
def gMin2 : List D → R D
  | [.int i, .int j] => .ok (.int (if j < i then j else i))
  | _ => .stuck
def gAbs : List D → R D
  | [.int i] => .ok (.int (if i < 0 then -i else i))
  | _ => .stuck
def rMax2 : List V → Hp → VK → Prop := fun xs H Q => ∃ i j, xs = [.int i, .int j] ∧ Q (.int (if j > i then j else i)) H
def rMin2 : List V → Hp → VK → Prop := fun xs H Q => ∃ i j, xs = [.int i, .int j] ∧ Q (.int (if j < i then j else i)) H
def rAbs : List V → Hp → VK → Prop := fun xs H Q => ∃ i, xs = [.int i] ∧ Q (.int (if i < 0 then -i else i)) H
theorem call_max2' {X : Cx} (hc : X.calm = true) : CallR X (.builtin "max") rMax2 := call_max2 hc
theorem call_min2' {X : Cx} (hc : X.calm = true) : CallR X (.builtin "min") rMin2 := call_min2 hc
theorem call_abs' {X : Cx} : CallR X (.builtin "abs") rAbs := call_abs
section
variable {C : Cg}
theorem two_ints {F H : Hp} {i j : Int} {vs : List V} (rs : RepRs C F H [.int i, .int j] vs) : vs = [.int i, .int j] := by
  cases rs with
  | cons r rs =>
    cases rs with
    | cons r2 rs =>
      cases rs
      rw [r.int, r2.int]
theorem one_int {F H : Hp} {i : Int} {vs : List V} (rs : RepRs C F H [.int i] vs) : vs = [.int i] := by
  cases rs with
  | cons r rs => cases rs; rw [r.int]
theorem cs_max2 : CallS C rMax2 gMax2 := fun ds vs F H E Q s rs p => by
  unfold gMax2 at p
  split at p
  · exact ⟨_, _, two_ints rs, p F H (Ext.refl s) _ (.int _)⟩
  · exact p.elim
theorem cs_min2 : CallS C rMin2 gMin2 := fun ds vs F H E Q s rs p => by
  unfold gMin2 at p
  split at p
  · exact ⟨_, _, two_ints rs, p F H (Ext.refl s) _ (.int _)⟩
  · exact p.elim
theorem cs_abs : CallS C rAbs gAbs := fun ds vs F H E Q s rs p => by
  unfold gAbs at p
  split at p
  · exact ⟨_, one_int rs, p F H (Ext.refl s) _ (.int _)⟩
  · exact p.elim
end
def D.neg : D → R D
  | .int i => .ok (.int (-i))
  | _ => .stuck
theorem fe_neg {X : Cx} {C : Cg} {a : Expr} {ta : TE} {ma : Env → R D} {pos : Pos} (ha : FE X C a ta ma) : FE X C (.UnaryOp .USub a pos) (tUn (rU fun i => .int (-i)) ta) (fun Γ => do let x ← ma Γ; D.neg x) :=
  ⟨pe_un un_neg ha.pe, fun Γ σ F H Q e p => ha.rd Γ σ F H _ e (Post.bind p fun x F1 H1 x1 p1 v r => by
    cases r with
    | int i => exact ⟨i, rfl, p1 F1 H1 (Ext.refl x1.sub) _ (.int _)⟩
    | _ => exact p1.elim)⟩

/-! ### walks -/
section
variable {X : Cx} {C : Cg} {tg e : Expr} {te : TE} {me : Env → R D} {p pos : Pos}
def asL : D → R (List D)
  | .lst ds => .ok ds
  | .scr ns => .ok (ns.map .int)
  | _ => .stuck
def asTp : D → R (List D)
  | .tup ds => .ok ds
  | _ => .stuck
def asSt : D → R (List D)
  | .str s => .ok (s.map fun c => .str [c])
  | _ => .stuck
theorem itl_ok {a : Addr} {xs : List V} {ds : List D} {F1 : Hp} (h : ∀ F H, Same F1 F → Same F H → SqL C.K H a xs) (one : ∀ {H : Hp} {ys : List V}, SqL C.K H a xs → SqL C.K H a ys → True) (r : Reps C.K C.mg F1 ds xs) : ItOk C (Itl C.K a) ds F1 :=
  ⟨fun F H s1 s2 => ⟨xs, h F H s1 s2, by rw [r.length]; exact Nat.le_refl _⟩, fun F H i hi s1 s2 => ⟨xs, xs[i]'(by rw [r.length]; exact hi), h F H s1 s2, List.getElem?_eq_getElem _⟩,
    fun F H i d x H' hd s1 s2 y => by
      obtain ⟨e, y⟩ := y
      subst e
      obtain ⟨v, h1, h2⟩ := r.get hd
      have e2 : x = v := Option.some.inj ((y xs (h F _ s1 s2)).symm.trans h1)
      subst e2
      exact ⟨F, Ext.refl s2, h2.mono s1⟩⟩
theorem fi_list (hK : X.K = C.K) (he : FE X C e te me) : FI X C tg e (iList X.K te) (fun Γ => do let x ← me Γ; asL x) :=
  ⟨pi_list he.pe, fun Γ σ F H Q en p => he.rd Γ σ F H _ en (Post.bind p fun d F1 H1 x1 p1 v r => by
    rw [hK]
    unfold asL at p1
    split at p1
    · cases r with
      | lst h r => exact ⟨_, rfl, ⟨_, .inl (.inl (x1.sub _ _ h))⟩, p1 F1 H1 (Ext.refl x1.sub) _ (itl_ok (fun F2 H2 s1 s2 => .inl (.inl (s2 _ _ (s1 _ _ h)))) (fun _ _ => trivial) r)⟩
    · cases r with
      | scr h => exact ⟨_, rfl, ⟨_, x1.sub.seq h⟩, p1 F1 H1 (Ext.refl x1.sub) _ (itl_ok (fun F2 H2 s1 s2 => s2.seq (s1.seq h)) (fun _ _ => trivial) reps_ints)⟩
    · exact p1.elim)⟩
theorem fi_tup (hK : X.K = C.K) (he : FE X C e te me) : FI X C tg e (iTup X.K te) (fun Γ => do let x ← me Γ; asTp x) :=
  ⟨pi_tup he.pe, fun Γ σ F H Q en p => he.rd Γ σ F H _ en (Post.bind p fun d F1 H1 x1 p1 v r => by
    rw [hK]
    unfold asTp at p1
    split at p1
    · cases r with
      | @tup a xs ds h r =>
        have hh : ∀ F2 H2, Same F1 F2 → Same F2 H2 → SqT C.K H2 a xs := fun F2 H2 s1 s2 => sqT_same s2 (sqT_same s1 h)
        refine ⟨_, rfl, ⟨_, sqT_same x1.sub h⟩, p1 F1 H1 (Ext.refl x1.sub) _ ⟨fun F H s1 s2 => ⟨xs, hh F H s1 s2, by rw [r.length]; exact Nat.le_refl _⟩, fun F H i hi s1 s2 => ⟨xs, xs[i]'(by rw [r.length]; exact hi), hh F H s1 s2, List.getElem?_eq_getElem _⟩, fun F H i d x H' hd s1 s2 y => ?_⟩⟩
        obtain ⟨e, y⟩ := y
        subst e
        obtain ⟨v, h1, h2⟩ := r.get hd
        have e2 : x = v := Option.some.inj ((y xs (hh F _ s1 s2)).symm.trans h1)
        subst e2
        exact ⟨F, Ext.refl s2, h2.mono s1⟩
    · exact p1.elim)⟩
theorem fi_str (he : FE X C e te me) : FI X C tg e (iStr te) (fun Γ => do let x ← me Γ; asSt x) :=
  ⟨pi_str he.pe, fun Γ σ F H Q en p => he.rd Γ σ F H _ en (Post.bind p fun d F1 H1 x1 p1 v r => by
    unfold asSt at p1
    split at p1
    · rename_i st
      cases r with
      | str _ o =>
        refine ⟨_, rfl, p1 F1 H1 (Ext.refl x1.sub) _ ⟨fun F H s1 s2 => ?_, fun F H i hi s1 s2 => ?_, fun F H i d x H' hd s1 s2 y => ?_⟩⟩
        · show (mk st).cps.size ≤ _
          simp [mk]
        · show i < (mk st).cps.size
          simpa [mk] using hi
        · obtain ⟨e, c, hc, rfl⟩ := y
          subst e
          rw [List.getElem?_map] at hd
          have hc' : st[i]? = some c := by simpa [mk] using hc
          rw [hc'] at hd
          cases hd
          exact ⟨F, Ext.refl s2, .str [c] fun z hz => by rw [List.mem_singleton.mp hz]; exact o c (List.mem_of_getElem? hc')⟩
    · exact p1.elim)⟩
/-- lo, lo + c, .., n of them -/
def rngL (lo c : Int) (n : Nat) : List D := (List.range n).map fun (i : Nat) => .int (lo + (i : Int) * c)
theorem rngL_len (lo c : Int) (n : Nat) : (rngL lo c n).length = n := by simp [rngL]
theorem rngL_get {lo c : Int} {n i : Nat} {d : D} (h : (rngL lo c n)[i]? = some d) : i < n ∧ d = .int (lo + (i : Int) * c) := by
  unfold rngL at h
  rw [List.getElem?_map] at h
  by_cases hi : i < n
  · rw [List.getElem?_range hi] at h
    cases h
    exact ⟨hi, rfl⟩
  · rw [List.getElem?_eq_none (by simpa using hi)] at h
    cases h
def gRange1 : List D → R (List D)
  | [.int j] => if -1000000000 ≤ j ∧ j ≤ 1000000000 then .ok (rngL 0 1 j.toNat) else .stuck
  | _ => .stuck
def gRange2 : List D → R (List D)
  | [.int i, .int j] => if -1000000000 ≤ i ∧ i ≤ 1000000000 ∧ -1000000000 ≤ j ∧ j ≤ 1000000000 then .ok (rngL i 1 (j - i).toNat) else .stuck
  | _ => .stuck
/-- downward by one -/
def gRange3 : List D → R (List D)
  | [.int i, .int j, .int c] => if -1000000000 ≤ i ∧ i ≤ 1000000000 ∧ -1000000000 ≤ j ∧ j ≤ 1000000000 ∧ c = -1 then .ok (rngL i (-1) (i - j).toNat) else .stuck
  | _ => .stuck
theorem itr_ok {lo : Int} {n : Nat} {F1 : Hp} : ItOk C (Itr lo n) (rngL lo 1 n) F1 :=
  ⟨fun F H s1 s2 => by rw [rngL_len]; exact Nat.le_refl _, fun F H i hi s1 s2 => by rw [rngL_len] at hi; exact hi, fun F H i d x H' hd s1 s2 y => by
    obtain ⟨e, rfl⟩ := y
    subst e
    obtain ⟨_, rfl⟩ := rngL_get hd
    refine ⟨F, Ext.refl s2, ?_⟩
    rw [Int.mul_one]
    exact .int _⟩
theorem itc_ok {lo c : Int} {n : Nat} {F1 : Hp} : ItOk C (Itc lo c n) (rngL lo c n) F1 :=
  ⟨fun F H s1 s2 => by rw [rngL_len]; exact Nat.le_refl _, fun F H i hi s1 s2 => by rw [rngL_len] at hi; exact hi, fun F H i d x H' hd s1 s2 y => by
    obtain ⟨e, rfl⟩ := y
    subst e
    obtain ⟨_, rfl⟩ := rngL_get hd
    exact ⟨F, Ext.refl s2, .int _⟩⟩
variable {a b c : Expr} {t : TA} {m : Env → R (List D)}
theorem fi_range1 (hg : Gl X "range") (hm : X.mg "range" = none) (ha : FA X C [a] t m) (hs : starEach [a] X.env = [(false, eval a X.env)] := by rfl) : FI X C tg (.Call (.Name "range" p) [a] [] pos) (iRng1 t) (mCall gRange1 m) :=
  ⟨pi_range1 hg hm ha.pa hs, fun Γ σ F H Q en q => ha.rd Γ σ F H _ en (Post.bind q fun ds F1 H1 x1 p1 vs rs => by
    unfold gRange1 at p1
    split at p1
    · split at p1
      · rename_i j hj
        cases rs with
        | cons r rs =>
          cases rs
          cases r
          exact ⟨j, rfl, by omega, by omega, p1 F1 H1 (Ext.refl x1.sub) _ itr_ok⟩
      · exact p1.elim
    · exact p1.elim)⟩
theorem fi_range2 (hg : Gl X "range") (hm : X.mg "range" = none) (ha : FA X C [a, b] t m) (hs : starEach [a, b] X.env = [(false, eval a X.env), (false, eval b X.env)] := by rfl) (hs2 : starEach [b] X.env = [(false, eval b X.env)] := by rfl) : FI X C tg (.Call (.Name "range" p) [a, b] [] pos) (iRng2 t) (mCall gRange2 m) :=
  ⟨pi_range2 hg hm ha.pa hs hs2, fun Γ σ F H Q en q => ha.rd Γ σ F H _ en (Post.bind q fun ds F1 H1 x1 p1 vs rs => by
    unfold gRange2 at p1
    split at p1
    · split at p1
      · rename_i i j hj
        cases rs with
        | cons r rs =>
          cases rs with
          | cons r2 rs =>
            cases rs
            cases r
            cases r2
            exact ⟨i, j, rfl, ⟨by omega, by omega, by omega, by omega⟩, p1 F1 H1 (Ext.refl x1.sub) _ itr_ok⟩
      · exact p1.elim
    · exact p1.elim)⟩
theorem fi_range3 (hg : Gl X "range") (hm : X.mg "range" = none) (ha : FA X C [a, b, c] t m) (hs : starEach [a, b, c] X.env = (false, eval a X.env) :: starEach [b, c] X.env := by rfl) (hpl : (backTo pos (starEach [b, c] X.env)).any (·.1) = false := by rfl) : FI X C tg (.Call (.Name "range" p) [a, b, c] [] pos) (iRng3 t) (mCall gRange3 m) :=
  ⟨pi_range3 hg hm ha.pa hs hpl, fun Γ σ F H Q en q => ha.rd Γ σ F H _ en (Post.bind q fun ds F1 H1 x1 p1 vs rs => by
    unfold gRange3 at p1
    split at p1
    · split at p1
      · rename_i i j c hj
        cases rs with
        | cons r rs =>
          cases rs with
          | cons r2 rs =>
            cases rs with
            | cons r3 rs =>
              cases rs
              cases r
              cases r2
              cases r3
              obtain ⟨h1, h2, h3, h4, rfl⟩ := hj
              exact ⟨i, j, -1, _, rfl, RgC.neg (by omega) (by omega) (by omega) (by omega), p1 F1 H1 (Ext.refl x1.sub) _ itc_ok⟩
      · exact p1.elim
    · exact p1.elim)⟩
end
end FL

set_option Elab.async false
set_option linter.all false
set_option maxRecDepth 100000
set_option maxHeartbeats 2000000
/-! FL, part 7: what the printed texts name. -/
namespace FL
open PySem PySem.Spec PyProof.Rows L2
set_option autoImplicit false
abbrev mLe (m : Env → R (List D)) : Env → R D := fun Γ => do let x ← m Γ; pure (.lst x)
abbrev mNeg (m : Env → R D) : Env → R D := fun Γ => do let x ← m Γ; D.neg x
abbrev mWalk (f : D → R (List D)) (m : Env → R D) : Env → R (List D) := fun Γ => do let x ← m Γ; f x
abbrev mBrk : Env → SO := fun Γ => .bk Γ
abbrev mCnt : Env → SO := fun Γ => .ct Γ
theorem keeps {K : PySem.W.Frag} {mg : Str → Option Value} {E : XK} {F H : Hp} {i : Nat} : Keeps (cg0 K mg E F H) i := fun _ _ _ => trivial
theorem hu64 {k : Nat} {A : Around} (h : Room k A) : A.units + 64 < cLine := h.units
/-! ### the text's facts -/
structure Tx (fa : List He.Fa) (fn : List He.DefD) (K : PySem.W.Frag) (mg : Str → Option Value) : Prop where
  says : He.SaysD fa fn K
  ex : ∃ h : Heap, K.In h ∧ h.Ns mainGlobals mg
section
variable {fa : List He.Fa} {fn : List He.DefD} {K : PySem.W.Frag} {mg : Str → Option Value} {P : Program} {w : World} {base : Heap}
theorem Tx.glo (T : Tx fa fn K mg) (i : Nat) {x : Str} (h : fa[i]? = some (.glo x)) : mg x = some (.ref (He.ga K x)) := by
  obtain ⟨hp, X, G⟩ := T.ex
  exact He.glo_ok X G (T.says.fact i h)
theorem Tx.free (T : Tx fa fn K mg) (i : Nat) {x : Str} (h : fa[i]? = some (.free x)) : mg x = none := by
  obtain ⟨hp, X, G⟩ := T.ex
  exact He.free_ok X G (T.says.fact i h)
theorem Tx.str (T : Tx fa fn K mg) (i : Nat) {x z : Str} (h : fa[i]? = some (.str x z)) : ∃ t, mg x = some (.str z t) := by
  obtain ⟨hp, X, G⟩ := T.ex
  exact He.str_ok X G (T.says.fact i h)
theorem Tx.int (T : Tx fa fn K mg) (i : Nat) {x : Str} {z : Int} (h : fa[i]? = some (.int x z)) : ∃ t, mg x = some (.int z t) := by
  obtain ⟨hp, X, G⟩ := T.ex
  exact He.int_ok X G (T.says.fact i h)
/-- a def of the text, by its body's plain function -/
theorem Tx.fnbV (T : Tx fa fn K mg) (i j : Nat) {d : He.DefD} {x : Str} {N ps : List Str} {k : Nat} {m : Env → SO} (hd : fn[i]? = some d) (hx : fa[j]? = some (.glo x)) (ha : d.at_ = (x, none)) (hdf : d.dfl = []) (S : FnScope N ps d.scope)
    (hb : ∀ (kV doc pm : Value) (an : Option Addr) (cdv ct : Value) (us : List Value), us.length = ps.length → bindArgs (PySem.W.fnOf d.name d.qual d.params d.body d.scope .none kV doc pm an cdv ct) ⟨us, []⟩ = pure (ps.zip us))
    (h : ∀ (f : Addr) (cdv : Value) (A : Around) (outer : List PySem.Env) (s : Shared) (H F0 : Hp) (E : XK), Room k (A.deeper (envOfC d.qual d.scope s.heap.objs.size f cdv)) → L2N.Takes (cxOf (L2N.CX P w) P w K mg base N d.qual d.scope f cdv A outer s H E) (cg0 K mg E F0 H).W →
      PassesOwn (model P w) (A.deeper (envOfC d.qual d.scope s.heap.objs.size f cdv)) (envOfC d.qual d.scope s.heap.objs.size f cdv) (cxOf (L2N.CX P w) P w K mg base N d.qual d.scope f cdv A outer s H E).xe →
      ∃ t, FB2 (cxOf (L2N.CX P w) P w K mg base N d.qual d.scope f cdv A outer s H E) (cg0 K mg E F0 H) d.body t m) : FnB P w K mg base x (k + 1) ps (spV K mg ps.length (mFn N.length m)) := by
  obtain ⟨fd, F⟩ := T.says.def_ i hd
  have e : He.fAd K d.at_ = He.ga K x := by rw [ha]; rfl
  rw [e] at F
  have e2 : d.dvs K = [] := by
    show d.dfl.map (He.Dv.v K) = []
    rw [hdf]; rfl
  rw [e2] at F
  exact ⟨_, fd, T.glo j hx, F.kp, F.bindsA hb, funD_at F, fn_val F S fun cdv A outer s H F0 E hr => h _ cdv A outer s H F0 E hr (L2N.takes_of rfl rfl rfl rfl) (passes_of rfl)⟩
theorem Tx.fnbL (T : Tx fa fn K mg) (i j : Nat) {d : He.DefD} {x : Str} {N ps : List Str} {k : Nat} {m : Env → SO} (hd : fn[i]? = some d) (hx : fa[j]? = some (.glo x)) (ha : d.at_ = (x, none)) (hdf : d.dfl = []) (S : FnScope N ps d.scope)
    (hb : ∀ (kV doc pm : Value) (an : Option Addr) (cdv ct : Value) (us : List Value), us.length = ps.length → bindArgs (PySem.W.fnOf d.name d.qual d.params d.body d.scope .none kV doc pm an cdv ct) ⟨us, []⟩ = pure (ps.zip us))
    (h : ∀ (f : Addr) (cdv : Value) (A : Around) (outer : List PySem.Env) (s : Shared) (H F0 : Hp) (E : XK), Room k (A.deeper (envOfC d.qual d.scope s.heap.objs.size f cdv)) → L2N.Takes (cxOf (L2N.CX P w) P w K mg base N d.qual d.scope f cdv A outer s H E) (cg0 K mg E F0 H).W →
      PassesOwn (model P w) (A.deeper (envOfC d.qual d.scope s.heap.objs.size f cdv)) (envOfC d.qual d.scope s.heap.objs.size f cdv) (cxOf (L2N.CX P w) P w K mg base N d.qual d.scope f cdv A outer s H E).xe →
      ∃ t, FB2 (cxOf (L2N.CX P w) P w K mg base N d.qual d.scope f cdv A outer s H E) (cg0 K mg E F0 H) d.body t m) : FnB P w K mg base x (k + 1) ps (spL K mg ps.length (mFnL N.length m)) := by
  obtain ⟨fd, F⟩ := T.says.def_ i hd
  have e : He.fAd K d.at_ = He.ga K x := by rw [ha]; rfl
  rw [e] at F
  have e2 : d.dvs K = [] := by
    show d.dfl.map (He.Dv.v K) = []
    rw [hdf]; rfl
  rw [e2] at F
  exact ⟨_, fd, T.glo j hx, F.kp, F.bindsA hb, funD_at F, fn_lst F S fun cdv A outer s H F0 E hr => h _ cdv A outer s H F0 E hr (L2N.takes_of rfl rfl rfl rfl) (passes_of rfl)⟩
end
/-! ### module constants -/
section
variable {X : Cx} {C : Cg} {x : Str} {pos : Pos}
theorem fe_gstr {z : Str} (h : ∃ t, X.mg x = some (.str z t)) (l : List Nat) (hg : Gl X x) (e : z = mk l) (ok : (l.all fun c => decide (c < 1114112)) = true) (hd : (x == ("__debug__" : Str)) = false := by decide) : FE X C (.Name x pos) (tC (.str z)) (mC (.str l)) :=
  fe_tC (by obtain ⟨t, h⟩ := h; exact pe_glob hg h ⟨t, rfl⟩ hd) fun F => by rw [e]; exact .str l (okS_of ok)
theorem fe_gint {z : Int} (h : ∃ t, X.mg x = some (.int z t)) (hg : Gl X x) (hd : (x == ("__debug__" : Str)) = false := by decide) : FE X C (.Name x pos) (tC (.int z)) (mC (.int z)) :=
  fe_tC (by obtain ⟨t, h⟩ := h; exact pe_glob hg h ⟨t, rfl⟩ hd) fun F => .int z
/-! ### own lists -/
def mAppend (i : Nat) (me : Env → R D) : Env → SO := fun Γ => match Γ[i]? with
  | some (.own ds) => lift Γ (me Γ) fun d => if ds.length < 16777216 then .nx (Γ.set i (.own (ds ++ [d]))) else .stuck
  | _ => .stuck
theorem fs_append {e : Expr} {te : TE} {me : Env → R D} {i : Nat} {apos cpos xp : Pos} (hv : PE X (.Name x xp) (tVar i)) (he : FE X C e te me)
    (hbase : attributeBase (.Name x xp) "append" X.env (eval (.Name x xp) X.env) = eval (.Name x xp) X.env := by rfl)
    (hfew : ((backTo cpos (starEach [e] X.env)).all (fun x => !x.1) && (backToKw cpos (keywordEach [] X.env)).all (fun x => x.1.isSome)
      && decide ([e].length + ([] : List Keyword).length + (if ([] : List Keyword).isEmpty then 0 else 1) < 30)) = true := by rfl)
    (hline : (apos.endLine == cpos.line) = true := by rfl) (hs : starEach [e] X.env = (false, eval e X.env) :: starEach [] X.env := by rfl) (hplain : (backTo cpos (starEach [] X.env)).any (·.1) = false := by rfl)
    (hsw : swapsWith (.Call (.Attribute (.Name x xp) "append" apos) [e] [] cpos) none pos.line X.env = pure false := by rfl) :
    FS X C (.Expr (.Call (.Attribute (.Name x xp) "append" apos) [e] [] cpos) pos) (tDrop (tBM X.K "list" rAppend (tVar i) (tCons te tNil))) (mAppend i me) :=
  ⟨ps_expr (pe_bm PySem.F.plainAttrs_list PySem.F.slot_list_append PySem.F.type_list_append mt_append hv (pa_cons he.pe pa_nil hs) hbase hfew hline hs hplain) hsw, fun Γ σ F H D en p => by
    unfold mAppend at p
    split at p
    · rename_i ds hd
      obtain ⟨o, h1, q, h2, xs, h3, h4, h5, r⟩ := en.slot i _ hd
      subst h2
      refine ⟨.ref q, h1, .inl ⟨rfl, _, SqL.of h3⟩, ?_⟩
      refine he.rd Γ σ F H _ en (PostS.lift p en fun d F1 H1 x1 p1 v rv => ?_)
      split at p1
      · rename_i hl
        have g3 := x1.sH _ _ h3
        have g4 := x1.sep _ _ h3 h4
        have r1 := r.mono x1.sF
        have hz : xs.length < sizeLine := by rw [r.length, sizeLine_eq]; exact hl
        exact ⟨q, xs, v, rfl, rfl, g3, hz, p1 _ _ _ ((en.step x1).mut (s := .own (ds ++ [d])) hd rfl rfl h1 g4 h5 ⟨q, rfl, xs ++ [v], upd_same, g4, h5, r1.append (.cons rv .nil)⟩) (.refl _)⟩
      · exact p1.elim
    · exact p.elim⟩
end
end FL

set_option Elab.async false
set_option linter.all false
set_option maxRecDepth 100000
set_option maxHeartbeats 2000000
/-! FL, part 8: the end of a law. -/
namespace FL
open PySem PySem.Spec PyProof.Rows L2
set_option autoImplicit false
theorem cxN_no {P : Program} {w : World} {H : Hp} {s : Shared} {e : Value} {s' : Shared} (h : L2N.CX P w [] H s (fun _ _ _ => False) e s') : False := by
  unfold L2N.CX at h
  obtain ⟨_, _, _, _, _, h⟩ := h
  exact h.2.2.2.2.2.2.2
/-- the law's own def by its plain function, which tells True of every script -/
theorem walk_FL {l : PySem.W.OpenLaw} {n k : Nat} {q : Program} {loose : List Str} {XP : (Str → Option Value) → Heap → Prop} {fa : List He.Fa} {fn : List He.DefD} {d : DefRec} {x : Str} {g : List D → R D}
    (hn : l.most = some n) (hn2 : n ≤ sizeLine) (hdf : d.params.defaults = []) (hr : Room k callerA) (hd : d.name = ("law" : Str))
    (B : ∀ (w : World) (K : PySem.W.Frag) (mg : Str → Option Value) (base : Heap), Tx fa fn K mg → FnB l.prog w K mg base "law" k [x] (spV K mg 1 g)) (hg : ∀ ns : List Int, ns.length ≤ n → g [.scr ns] = .ok (.bl true)) :
    PySem.W.WalkO q loose XP (fun _ h => (∃ K : PySem.W.Frag, K.In h ∧ He.SaysD fa fn K)) l.row.toRowW d [] (fun f vs => PySem.call f vs) := by
  refine Att.attach_call hn hdf fun w s₀ s₁ mg mb fa0 o pm cd doc a vs ns G Y ho hd0 hcd hmg hobj hints hlen hg0 => ?_
  obtain ⟨K, KX, c⟩ := Y
  have T : Tx fa fn K mg := ⟨c, _, KX, G.T.g⟩
  obtain ⟨f, fd, h1, h2, h3, ⟨oc, od, osl, lk⟩, _⟩ := (B w K mg default T).ex
  have hmg' : mg ("law" : Str) = some (.ref fa0) := by rw [← hd]; exact hmg
  rw [h1] at hmg'
  cases hmg'
  refine law_call (sp := spV K mg 1 g) (CX := L2N.CX l.prog w) (w := w) KX G.T.g G.T.b G.T.builtins G.T.nolimit hg0 hobj hints (Nat.le_trans hlen hn2) hr (fun base kb gb => ?_) (fun s u => h3 s [u] rfl) (fun H hO hS => ?_) fun H e s' h => cxN_no h
  · obtain ⟨f', fd', g1, g2, g3, ⟨oc', od', osl', lk'⟩, g4⟩ := (B w K mg base T).ex
    rw [h1] at g1
    cases g1
    rw [lk] at lk'
    cases lk'
    exact g4
  · refine ⟨rfl, H, [.scr ns], Same.refl H, .cons (.scr hS) .nil, ?_⟩
    rw [hg ns hlen]
    exact fun F' H' x v r => by
      cases r
      rfl
end FL

set_option Elab.async false
set_option linter.all false
set_option maxRecDepth 100000
set_option maxHeartbeats 2000000
/-! FL, part 9: the plain functions reckoned. -/
namespace FL
open PySem PySem.Spec PyProof.Rows L2
set_option autoImplicit false
section
variable {Γ : Env} {i : Nat} {α β : Type}
def getV : Option Slot → R D
  | some (.val d) => .ok d
  | _ => .stuck
def getR : Option Slot → R D
  | some (.val d) => .ok d
  | some (.own ds) => .ok (.lst ds)
  | _ => .stuck
theorem mVar_ev : mVar i Γ = getV Γ[i]? := by
  unfold mVar getV
  split <;> simp_all
theorem mVarR_ev : mVarR i Γ = getR Γ[i]? := by
  unfold mVarR getR
  split <;> simp_all
theorem getV_val (d : D) : getV (some (.val d)) = .ok d := rfl
theorem getR_val (d : D) : getR (some (.val d)) = .ok d := rfl
theorem getR_own (d : List D) : getR (some (.own d)) = .ok (.lst d) := rfl
theorem mC_ev (d : D) : mC d Γ = .ok d := rfl
theorem mOp_ev (g : D → D → R D) (a b : Env → R D) : mOp g a b Γ = (a Γ >>= fun x => b Γ >>= fun y => g x y) := rfl
theorem mOpL_ev (g : D → D → R (List D)) (a b : Env → R D) : mOpL g a b Γ = (a Γ >>= fun x => b Γ >>= fun y => g x y) := rfl
theorem mT_ev (m : Env → R D) : mT m Γ = (m Γ >>= asB) := rfl
theorem asB_bl (b : Bool) : asB (.bl b) = .ok b := rfl
theorem mAnd_ev (p q : Env → R Bool) : mAnd p q Γ = (p Γ >>= fun x => if x = true then q Γ else .ok false) := rfl
theorem mOr_ev (p q : Env → R Bool) : mOr p q Γ = (p Γ >>= fun x => if x = true then .ok true else q Γ) := rfl
theorem mNot_ev (p : Env → R Bool) : mNot p Γ = (p Γ >>= fun x => .ok (!x)) := rfl
theorem mAndV_ev (p q : Env → R D) : mAndV p q Γ = (p Γ >>= fun x => asB x >>= fun k => if k = true then q Γ else .ok (.bl false)) := rfl
theorem mOrV_ev (p q : Env → R D) : mOrV p q Γ = (p Γ >>= fun x => asB x >>= fun k => if k = true then .ok (.bl true) else q Γ) := rfl
theorem mNotV_ev (p : Env → R D) : mNotV p Γ = (p Γ >>= fun x => asB x >>= fun k => .ok (.bl (!k))) := rfl
theorem mIf_ev (p : Env → R Bool) (q r : Env → R D) : mIf p q r Γ = (p Γ >>= fun x => if x = true then q Γ else r Γ) := rfl
theorem mNil_ev : mNil Γ = .ok [] := rfl
theorem mCons_ev (a : Env → R D) (m : Env → R (List D)) : mCons a m Γ = (a Γ >>= fun x => m Γ >>= fun xs => .ok (x :: xs)) := rfl
theorem mTup_ev (m : Env → R (List D)) : mTup m Γ = (m Γ >>= fun xs => if xs.length ≤ 16777216 then .ok (.tup xs) else .stuck) := rfl
theorem mLst_ev (m : Env → R (List D)) : mLst m Γ = (m Γ >>= fun xs => if xs.length ≤ 16777216 then .ok xs else .stuck) := rfl
theorem mCall_ev (g : List D → R α) (m : Env → R (List D)) : mCall g m Γ = (m Γ >>= g) := rfl
theorem mPn_ev : mPn Γ = .ok none := rfl
theorem mPs_ev (m : Env → R D) : mPs m Γ = (m Γ >>= fun x => asI x >>= fun i => .ok (some i)) := rfl
theorem asI_int (i : Int) : asI (.int i) = .ok i := rfl
theorem mSl_ev (m : Env → R D) (a b : Env → R (Option Int)) : mSl m a b Γ = (m Γ >>= fun x => a Γ >>= fun i => b Γ >>= fun j => D.sl x i j) := rfl
theorem mSlL_ev (m : Env → R D) (a b : Env → R (Option Int)) : mSlL m a b Γ = (m Γ >>= fun x => a Γ >>= fun i => b Γ >>= fun j => lsl x i j) := rfl
theorem mWalk_ev (f : D → R (List D)) (m : Env → R D) : mWalk f m Γ = (m Γ >>= f) := rfl
theorem mLe_ev (m : Env → R (List D)) : mLe m Γ = (m Γ >>= fun x => .ok (.lst x)) := rfl
theorem mNeg_ev (m : Env → R D) : mNeg m Γ = (m Γ >>= D.neg) := rfl
theorem asL_lst (ds : List D) : asL (.lst ds) = .ok ds := rfl
theorem asL_scr (ns : List Int) : asL (.scr ns) = .ok (ns.map .int) := rfl
theorem asTp_tup (ds : List D) : asTp (.tup ds) = .ok ds := rfl
theorem asSt_str (s : List Nat) : asSt (.str s) = .ok (s.map fun c => .str [c]) := rfl
theorem R_ite {c : Prop} [Decidable c] (a b : R α) (f : α → R β) : ((if c then a else b) >>= f) = if c then a >>= f else b >>= f := by
  split <;> rfl
/-! statements -/
theorem mSeq_ev (a b : Env → SO) : mSeq a b Γ = (a Γ).bind b := rfl
theorem mSkip_ev : mSkip Γ = .nx Γ := rfl
theorem bind_nx (k : Env → SO) : (SO.nx Γ).bind k = k Γ := rfl
theorem bind_rt (d : D) (k : Env → SO) : (SO.rt d).bind k = .rt d := rfl
theorem bind_rtL (d : List D) (k : Env → SO) : (SO.rtL d).bind k = .rtL d := rfl
theorem bind_bk (k : Env → SO) : (SO.bk Γ).bind k = .bk Γ := rfl
theorem bind_ct (k : Env → SO) : (SO.ct Γ).bind k = .ct Γ := rfl
theorem bind_ex (n : Str) (d : Option D) (k : Env → SO) : (SO.ex Γ n d).bind k = .ex Γ n d := rfl
theorem bind_ite {c : Prop} [Decidable c] (a b : SO) (k : Env → SO) : (if c then a else b).bind k = if c then a.bind k else b.bind k := by
  split <;> rfl
theorem lift_ok (a : α) (k : α → SO) : lift Γ (.ok a) k = k a := rfl
theorem lift_exc (n : Str) (d : Option D) (k : α → SO) : lift Γ (.exc n d) k = .ex Γ n d := rfl
theorem lift_ite {c : Prop} [Decidable c] (a b : R α) (k : α → SO) : lift Γ (if c then a else b) k = if c then lift Γ a k else lift Γ b k := by
  split <;> rfl
theorem mAsg_ev (m : Env → R D) : mAsg i m Γ = lift Γ (m Γ) fun d => .nx (Γ.set i (.val d)) := rfl
theorem mAsgL_ev (m : Env → R (List D)) : mAsgL i m Γ = lift Γ (m Γ) fun d => .nx (Γ.set i (.own d)) := rfl
theorem mDrop_ev (m : Env → R D) : mDrop m Γ = lift Γ (m Γ) fun d => .nx Γ := rfl
theorem mRet_ev (m : Env → R D) : mRet m Γ = lift Γ (m Γ) fun d => .rt d := rfl
theorem mRetL_ev (m : Env → R (List D)) : mRetL m Γ = lift Γ (m Γ) fun d => .rtL d := rfl
theorem mRetN_ev : mRetN Γ = .rt .non := rfl
def getO : Option Slot → SO
  | some (.own ds) => .rtL ds
  | _ => .stuck
theorem mRetOwn_ev : mRetOwn i Γ = getO Γ[i]? := by
  unfold mRetOwn getO
  split <;> simp_all
theorem getO_own (ds : List D) : getO (some (.own ds)) = .rtL ds := rfl
theorem mIfS_ev (c : Env → R Bool) (a b : Env → SO) : mIfS c a b Γ = lift Γ (c Γ) fun k => if k = true then a Γ else b Γ := rfl
def onO (Γ : Env) (i : Nat) (k : Env → SO) : Option Slot → SO
  | some (.own ds) => k (Γ.set i (.val (.lst ds)))
  | some (.ownd kvs) => k (Γ.set i (.val (.dct kvs)))
  | _ => k Γ
theorem mSet1_ev (k : Env → SO) : mSet1 i k Γ = onO Γ i k Γ[i]? := by
  unfold mSet1 onO
  split <;> simp_all
theorem onO_own (ds : List D) (k : Env → SO) : onO Γ i k (some (.own ds)) = k (Γ.set i (.val (.lst ds))) := rfl
theorem onO_val (d : D) (k : Env → SO) : onO Γ i k (some (.val d)) = k Γ := rfl
def putO (Γ : Env) (i : Nat) (r : R D) : Option Slot → SO
  | some (.own ds) => lift Γ r fun d => if ds.length < 16777216 then .nx (Γ.set i (.own (ds ++ [d]))) else .stuck
  | _ => .stuck
theorem mAppend_ev (m : Env → R D) : mAppend i m Γ = putO Γ i (m Γ) Γ[i]? := by
  unfold mAppend putO
  split <;> simp_all
theorem putO_own (ds : List D) (d : D) (h : ds.length < 16777216) : putO Γ i (.ok d) (some (.own ds)) = .nx (Γ.set i (.own (ds ++ [d]))) := by
  show (if ds.length < 16777216 then SO.nx (Γ.set i (.own (ds ++ [d]))) else .stuck) = _
  rw [if_pos h]
def optSO : Option Env → SO
  | some Γ' => .nx Γ'
  | none => .stuck
theorem mAsgG_ev (g : Env → D → Option Env) (m : Env → R D) : mAsgG g m Γ = lift Γ (m Γ) fun d => optSO (g Γ d) := by
  unfold mAsgG optSO
  rfl
theorem optSO_some : optSO (some Γ) = .nx Γ := rfl
theorem gSet_ev (d : D) : gSet i Γ d = some (Γ.set i (.val d)) := rfl
theorem gsNil_ev : gsNil Γ [] = some Γ := rfl
theorem gsCons_ev (m : Env → D → Option Env) (ms : Env → List D → Option Env) (d : D) (ds : List D) : gsCons m ms Γ (d :: ds) = (m Γ d).bind fun Γ1 => ms Γ1 ds := rfl
theorem obind_some {γ δ : Type} (a : γ) (f : γ → Option δ) : (some a).bind f = f a := rfl
theorem gTupM_1 (ms : Env → List D → Option Env) (d0 : D) : gTupM 1 ms Γ (.tup [d0]) = ms Γ [d0] := rfl
theorem gTupM_2 (ms : Env → List D → Option Env) (d0 d1 : D) : gTupM 2 ms Γ (.tup [d0, d1]) = ms Γ [d0, d1] := rfl
theorem gTupM_3 (ms : Env → List D → Option Env) (d0 d1 d2 : D) : gTupM 3 ms Γ (.tup [d0, d1, d2]) = ms Γ [d0, d1, d2] := rfl
theorem gTupM_4 (ms : Env → List D → Option Env) (d0 d1 d2 d3 : D) : gTupM 4 ms Γ (.tup [d0, d1, d2, d3]) = ms Γ [d0, d1, d2, d3] := rfl
theorem gTupM_5 (ms : Env → List D → Option Env) (d0 d1 d2 d3 d4 : D) : gTupM 5 ms Γ (.tup [d0, d1, d2, d3, d4]) = ms Γ [d0, d1, d2, d3, d4] := rfl
theorem gTupM_6 (ms : Env → List D → Option Env) (d0 d1 d2 d3 d4 d5 : D) : gTupM 6 ms Γ (.tup [d0, d1, d2, d3, d4, d5]) = ms Γ [d0, d1, d2, d3, d4, d5] := rfl
theorem mFor_ev (mi : Env → R (List D)) (g : Env → D → Option Env) (body : Env → SO) : mFor mi g body Γ = lift Γ (mi Γ) fun ds => forL g body ds Γ := rfl
theorem retD_nx : retD (.nx Γ) = .ok .non := rfl
theorem retD_rt (d : D) : retD (.rt d) = .ok d := rfl
theorem retD_rtL (d : List D) : retD (.rtL d) = .ok (.lst d) := rfl
theorem retD_ex (n : Str) (d : Option D) : retD (.ex Γ n d) = .exc n d := rfl
theorem retD_ite {c : Prop} [Decidable c] (a b : SO) : retD (if c then a else b) = if c then retD a else retD b := by
  split <;> rfl
theorem retLs_rtL (d : List D) : retLs (.rtL d) = .ok d := rfl
theorem retLs_ex (n : Str) (d : Option D) : retLs (.ex Γ n d) = .exc n d := rfl
theorem retLs_ite {c : Prop} [Decidable c] (a b : SO) : retLs (if c then a else b) = if c then retLs a else retLs b := by
  split <;> rfl
theorem nth_zero {a : Slot} {l : Env} : (a :: l)[0]? = some a := rfl
theorem nth_succ {a : Slot} {l : Env} {n : Nat} : (a :: l)[n + 1]? = l[n]? := rfl
theorem set_zero {a b : Slot} {l : Env} : (a :: l).set 0 b = b :: l := rfl
theorem set_succ {a b : Slot} {l : Env} {n : Nat} : (a :: l).set (n + 1) b = a :: l.set n b := rfl
/-! operations -/
theorem add_int (i j : Int) : D.add (.int i) (.int j) = .ok (.int (i + j)) := rfl
theorem add_str (a b : List Nat) (h : a.length + b.length ≤ 16777216) : D.add (.str a) (.str b) = .ok (.str (a ++ b)) := if_pos h
theorem add_lst (a b : List D) (h : a.length + b.length ≤ 16777216) : D.add (.lst a) (.lst b) = .ok (.lst (a ++ b)) := if_pos h
theorem lcat_lst (a b : List D) (h : a.length + b.length ≤ 16777216) : lcat (.lst a) (.lst b) = .ok (a ++ b) := if_pos h
theorem sub_int' (i j : Int) : D.sub (.int i) (.int j) = .ok (.int (i - j)) := rfl
theorem neg_int' (i : Int) : D.neg (.int i) = .ok (.int (-i)) := rfl
theorem lt_int' (i j : Int) : D.lt (.int i) (.int j) = .ok (.bl (decide (i < j))) := rfl
theorem le_int' (i j : Int) : D.le (.int i) (.int j) = .ok (.bl (decide (i ≤ j))) := rfl
theorem gt_int' (i j : Int) : D.gt (.int i) (.int j) = .ok (.bl (decide (j < i))) := rfl
theorem ge_int' (i j : Int) : D.ge (.int i) (.int j) = .ok (.bl (decide (j ≤ i))) := rfl
theorem mod_int' (i j : Int) (h : 0 < j) : D.mod (.int i) (.int j) = .ok (.int (i % j)) := if_pos h
theorem fdiv_int (i j : Int) (h : 0 < j) (h' : j < 1000000000000000000) : D.fdiv (.int i) (.int j) = .ok (.int (i / j)) := if_pos ⟨h, by
  have h1 : j.natAbs ≠ 0 := by omega
  have h2 : j.natAbs < 2 ^ 9000 := by
    have : (1000000000000000000 : Nat) < 2 ^ 9000 := by
      have : (2 : Nat) ^ 60 ≤ 2 ^ 9000 := Nat.pow_le_pow_right (by decide) (by decide)
      omega
    omega
  exact (Nat.log2_lt h1).mpr h2⟩
theorem mul_small (i j : Int) (h : i.natAbs < 2 ^ 500000) (h' : j.natAbs < 2 ^ 499999) : D.mul (.int i) (.int j) = .ok (.int (i * j)) := if_pos (by
  have h1 : i.natAbs.log2 < 500000 := by
    by_cases h0 : i.natAbs = 0
    · rw [h0]; decide
    · exact (Nat.log2_lt h0).mpr h
  have h2 : j.natAbs.log2 < 499999 := by
    by_cases h0 : j.natAbs = 0
    · rw [h0]; decide
    · exact (Nat.log2_lt h0).mpr h'
  omega)
theorem mul_big (i j : Int) (h : i.natAbs < 2 ^ 40000000) (h' : j.natAbs < 2 ^ 40000000) : D.mul (.int i) (.int j) = .ok (.int (i * j)) := if_pos (by
  have h1 : i.natAbs.log2 < 40000000 := by
    by_cases h0 : i.natAbs = 0
    · rw [h0]; decide
    · exact (Nat.log2_lt h0).mpr h
  have h2 : j.natAbs.log2 < 40000000 := by
    by_cases h0 : j.natAbs = 0
    · rw [h0]; decide
    · exact (Nat.log2_lt h0).mpr h'
  omega)
theorem big_pow {n k : Nat} (h : n < 2 ^ 64) (hk : 64 ≤ k) : n < 2 ^ k := Nat.lt_of_lt_of_le h (Nat.pow_le_pow_right (by decide) hk)
theorem mul_int' (i j : Int) (h : i.natAbs < 18446744073709551616) (h' : j.natAbs < 18446744073709551616) : D.mul (.int i) (.int j) = .ok (.int (i * j)) := mul_small i j (big_pow h (by decide)) (big_pow h' (by decide))
theorem mul_str' (a : List Nat) (k : Int) (h : -1000000 ≤ k) (h1 : k ≤ 1000000) (h2 : a.length * k.toNat ≤ 16777216) : D.mul (.str a) (.int k) = .ok (.str (repS a k.toNat)) := if_pos ⟨h, h1, h2⟩
theorem isN_non : D.isN .non .non = .ok (.bl true) := rfl
theorem isN_int (i : Int) : D.isN (.int i) .non = .ok (.bl false) := rfl
theorem notN_non : D.notN .non .non = .ok (.bl false) := rfl
theorem notN_int (i : Int) : D.notN (.int i) .non = .ok (.bl true) := rfl
theorem eq_int' (i j : Int) : D.eq (.int i) (.int j) = .ok (.bl (decide (i = j))) := rfl
theorem ne_int' (i j : Int) : D.ne (.int i) (.int j) = .ok (.bl (!decide (i = j))) := rfl
theorem eq_str' (i j : List Nat) : D.eq (.str i) (.str j) = .ok (.bl (decide (i = j))) := rfl
theorem ne_str' (i j : List Nat) : D.ne (.str i) (.str j) = .ok (.bl (!decide (i = j))) := rfl
theorem eq_bl' (i j : Bool) : D.eq (.bl i) (.bl j) = .ok (.bl (i == j)) := rfl
theorem ne_bl' (i j : Bool) : D.ne (.bl i) (.bl j) = .ok (.bl (!(i == j))) := rfl
theorem len_str' (a : List Nat) (h : a.length ≤ 16777216) : gLen [.str a] = .ok (.int a.length) := if_pos h
theorem len_lst (a : List D) : gLen [.lst a] = .ok (.int a.length) := rfl
theorem len_tup (a : List D) : gLen [.tup a] = .ok (.int a.length) := rfl
theorem len_scr (a : List Int) : gLen [.scr a] = .ok (.int a.length) := rfl
theorem max_int (i j : Int) : gMax2 [.int i, .int j] = .ok (.int (if j > i then j else i)) := rfl
theorem min_int (i j : Int) : gMin2 [.int i, .int j] = .ok (.int (if j < i then j else i)) := rfl
theorem sl_str' (a : List Nat) (lo hi : Option Int) (h : a.length ≤ 16777216) : D.sl (.str a) lo hi = .ok (.str (cutL a lo hi)) := if_pos h
theorem sl_lst (a : List D) (lo hi : Option Int) : D.sl (.lst a) lo hi = .ok (.lst (cutL a lo hi)) := rfl
theorem sl_scr (a : List Int) (lo hi : Option Int) : D.sl (.scr a) lo hi = .ok (.lst ((cutL a lo hi).map .int)) := rfl
theorem lsl_lst (a : List D) (lo hi : Option Int) : lsl (.lst a) lo hi = .ok (cutL a lo hi) := rfl
theorem lsl_scr (a : List Int) (lo hi : Option Int) : lsl (.scr a) lo hi = .ok ((cutL a lo hi).map .int) := rfl
theorem atI_pos {xs : List α} {i : Int} (d : α) (h : 0 ≤ i) (h' : i < xs.length) : atI xs i = some (xs.getD i.toNat d) := by
  obtain ⟨k, rfl⟩ : ∃ k : Nat, i = k := ⟨i.toNat, by omega⟩
  have hk : k < xs.length := by omega
  rw [atI_nat (v := xs[k]) (List.getElem?_eq_getElem hk), Int.toNat_natCast]
  simp [List.getD, List.getElem?_eq_getElem hk]
theorem ix_str' (a : List Nat) (i : Int) (h0 : a.length ≤ 16777216) (h : 0 ≤ i) (h' : i < a.length) : D.ix (.str a) (.int i) = .ok (.str [a.getD i.toNat 0]) := by
  show (if a.length ≤ 16777216 then _ else _) = _
  rw [if_pos h0, atI_pos 0 h h']
theorem ix_lst (a : List D) (i : Int) (h : 0 ≤ i) (h' : i < a.length) : D.ix (.lst a) (.int i) = .ok (a.getD i.toNat .non) := by
  show (match atI a i with | some d => R.ok d | none => .stuck) = _
  rw [atI_pos .non h h']
theorem ix_tup' (a : List D) (i : Int) (h : 0 ≤ i) (h' : i < a.length) : D.ix (.tup a) (.int i) = .ok (a.getD i.toNat .non) := by
  show (match atI a i with | some d => R.ok d | none => .stuck) = _
  rw [atI_pos .non h h']
theorem ix_scr (a : List Int) (i : Int) (h : 0 ≤ i) (h' : i < a.length) : D.ix (.scr a) (.int i) = .ok (.int (a.getD i.toNat 0)) := by
  show (match atI a i with | some d => R.ok (D.int d) | none => .stuck) = _
  rw [atI_pos 0 h h']
theorem range1_ok (j : Int) (h : -1000000000 ≤ j) (h' : j ≤ 1000000000) : gRange1 [.int j] = .ok (rngL 0 1 j.toNat) := if_pos ⟨h, h'⟩
theorem range2_ok (i j : Int) (h : -1000000000 ≤ i) (h1 : i ≤ 1000000000) (h2 : -1000000000 ≤ j) (h' : j ≤ 1000000000) : gRange2 [.int i, .int j] = .ok (rngL i 1 (j - i).toNat) := if_pos ⟨h, h1, h2, h'⟩
theorem range3_ok (i j : Int) (h : -1000000000 ≤ i) (h1 : i ≤ 1000000000) (h2 : -1000000000 ≤ j) (h' : j ≤ 1000000000) : gRange3 [.int i, .int j, .int (-1)] = .ok (rngL i (-1) (i - j).toNat) := if_pos ⟨h, h1, h2, h', rfl⟩
end
theorem mod_bd (a : Int) {b : Int} (h : 0 < b) : 0 ≤ a % b ∧ a % b < b := ⟨Int.emod_nonneg _ (by omega), Int.emod_lt_of_pos _ h⟩
/-! ### slices of lists -/
theorem cut_nn {α : Type} (xs : List α) (a b : Nat) : cutL xs (some (a : Int)) (some (b : Int)) = (xs.drop a).take (b - a) := by
  unfold cutL
  rw [HT.sIx_nat, HT.sIx_nat]
  apply List.ext_getElem?
  intro i
  simp only [List.getElem?_take, List.getElem?_drop]
  by_cases h : i < b - a
  · by_cases h2 : a + i < xs.length
    · rw [if_pos (by omega), if_pos h, Nat.min_eq_left (by omega)]
    · rw [if_pos h, List.getElem?_eq_none (by omega : xs.length ≤ a + i)]
      split
      · exact List.getElem?_eq_none (by omega)
      · rfl
  · rw [if_neg h]
    split
    · exact List.getElem?_eq_none (by omega)
    · rfl
theorem cut_map {α β : Type} (f : α → β) (xs : List α) (lo hi : Option Int) : cutL (xs.map f) lo hi = (cutL xs lo hi).map f := by
  unfold cutL
  simp [List.map_take, List.map_drop]
theorem cut_len {α : Type} (xs : List α) (lo hi : Option Int) : (cutL xs lo hi).length ≤ xs.length := by
  unfold cutL
  rw [List.length_take, List.length_drop]
  omega
theorem cut_int {α : Type} (xs : List α) (a b : Int) (ha : 0 ≤ a) (hb : 0 ≤ b) : cutL xs (some a) (some b) = (xs.drop a.toNat).take (b.toNat - a.toNat) := by
  obtain ⟨k, rfl⟩ : ∃ k : Nat, a = k := ⟨a.toNat, by omega⟩
  obtain ⟨l, rfl⟩ : ∃ l : Nat, b = l := ⟨b.toNat, by omega⟩
  rw [cut_nn]
  simp
theorem cut_none {α : Type} (xs : List α) (a : Int) (ha : 0 ≤ a) : cutL xs (some a) none = xs.drop a.toNat := by
  obtain ⟨k, rfl⟩ : ∃ k : Nat, a = k := ⟨a.toNat, by omega⟩
  unfold cutL
  rw [HT.sIx_nat]
  show (xs.drop (min k xs.length)).take (xs.length - min k xs.length) = xs.drop ((k : Int)).toNat
  rw [Int.toNat_natCast, List.take_of_length_le (by rw [List.length_drop]; exact Nat.le_refl _)]
  by_cases h : k ≤ xs.length
  · rw [Nat.min_eq_left h]
  · rw [Nat.min_eq_right (by omega), List.drop_length, List.drop_of_length_le (by omega)]
theorem none_cut {α : Type} (xs : List α) (b : Int) (hb : 0 ≤ b) : cutL xs none (some b) = xs.take b.toNat := by
  obtain ⟨k, rfl⟩ : ∃ k : Nat, b = k := ⟨b.toNat, by omega⟩
  unfold cutL
  rw [HT.sIx_nat]
  show (xs.drop 0).take (min k xs.length - 0) = xs.take ((k : Int)).toNat
  rw [Int.toNat_natCast, List.drop_zero, Nat.sub_zero]
  by_cases h : k ≤ xs.length
  · rw [Nat.min_eq_left h]
  · rw [Nat.min_eq_right (by omega), List.take_length, List.take_of_length_le (by omega)]
/-! ### loops -/
theorem forL_inv {g : Env → D → Option Env} {body : Env → SO} (I : Nat → Env → Prop) (Z : SO → Prop) : ∀ {ds : List D} {Γ : Env} (k : Nat), I k Γ →
    (∀ (i : Nat) (d : D) (Γ : Env), ds[i]? = some d → I (k + i) Γ → ∃ Γ1, g Γ d = some Γ1 ∧ ((∃ Γ', (body Γ1 = .nx Γ' ∨ body Γ1 = .ct Γ') ∧ I (k + i + 1) Γ') ∨ (∃ Γ', body Γ1 = .bk Γ' ∧ Z (.nx Γ')) ∨ ((∀ Γ', body Γ1 ≠ .nx Γ' ∧ body Γ1 ≠ .ct Γ' ∧ body Γ1 ≠ .bk Γ') ∧ Z (body Γ1)))) →
    (∃ Γ', forL g body ds Γ = .nx Γ' ∧ I (k + ds.length) Γ') ∨ Z (forL g body ds Γ)
  | [], Γ, k, h0, _ => .inl ⟨Γ, rfl, h0⟩
  | d :: ds, Γ, k, h0, hs => by
    obtain ⟨Γ1, hg, h⟩ := hs 0 d Γ rfl h0
    have next : ∀ Γ', I (k + 0 + 1) Γ' → (∃ Γ'', forL g body ds Γ' = .nx Γ'' ∧ I (k + (d :: ds).length) Γ'') ∨ Z (forL g body ds Γ') := fun Γ' h1 => by
      have := forL_inv I Z (ds := ds) (Γ := Γ') (k + 1) h1 fun i e Γ2 he h2 => by
        have q := hs (i + 1) e Γ2 he (by rw [show k + (i + 1) = k + 1 + i by omega]; exact h2)
        rw [show k + (i + 1) + 1 = k + 1 + i + 1 by omega] at q
        exact q
      rw [show k + (d :: ds).length = k + 1 + ds.length by rw [List.length_cons]; omega]
      exact this
    unfold forL
    rw [hg]
    dsimp only
    rcases h with ⟨Γ', h | h, h1⟩ | ⟨Γ', h, h1⟩ | ⟨h, h1⟩
    · simp only [h]; exact next Γ' h1
    · simp only [h]; exact next Γ' h1
    · simp only [h]; exact .inr h1
    · revert h h1
      cases body Γ1 with
      | nx Γ' => exact fun h _ => absurd rfl (h Γ').1
      | ct Γ' => exact fun h _ => absurd rfl (h Γ').2.1
      | bk Γ' => exact fun h _ => absurd rfl (h Γ').2.2
      | rt d => exact fun _ h1 => .inr h1
      | rtL d => exact fun _ h1 => .inr h1
      | ex Γ2 n d => exact fun _ h1 => .inr h1
      | stuck => exact fun _ h1 => .inr h1
/-- a loop that goes to its end -/
theorem forL_end {g : Env → D → Option Env} {body : Env → SO} {ds : List D} {Γ : Env} (I : Nat → Env → Prop) (h0 : I 0 Γ)
    (hs : ∀ (i : Nat) (d : D) (Γ : Env), ds[i]? = some d → I i Γ → ∃ Γ1, g Γ d = some Γ1 ∧ ∃ Γ', (body Γ1 = .nx Γ' ∨ body Γ1 = .ct Γ') ∧ I (i + 1) Γ') : ∃ Γ', forL g body ds Γ = .nx Γ' ∧ I ds.length Γ' := by
  rcases forL_inv (g := g) (body := body) (ds := ds) (Γ := Γ) I (fun _ => False) 0 h0 (fun i d Γ hd h => by
    rw [Nat.zero_add] at h ⊢
    obtain ⟨Γ1, a, b⟩ := hs i d Γ hd h
    exact ⟨Γ1, a, .inl b⟩) with h | h
  · rw [Nat.zero_add] at h; exact h
  · exact h.elim
theorem rngL_at {lo c : Int} {n i : Nat} (h : i < n) : (rngL lo c n)[i]? = some (.int (lo + (i : Int) * c)) := by
  unfold rngL
  rw [List.getElem?_map, List.getElem?_range h]
  rfl
theorem map_get {α : Type} {xs : List α} {f : α → D} {i : Nat} {d : D} (h : (xs.map f)[i]? = some d) : ∃ x, xs[i]? = some x ∧ d = f x := by
  rw [List.getElem?_map] at h
  cases e : xs[i]? with
  | none => rw [e] at h; cases h
  | some x => rw [e] at h; cases h; exact ⟨x, rfl, rfl⟩
/-- a while by a measure -/
theorem while_inv {c : Env → R Bool} {body : Env → SO} (I : Env → Prop) (μ : Env → Nat) (Z : SO → Prop)
    (hs : ∀ Γ, I Γ → (c Γ = .ok false ∧ Z (.nx Γ)) ∨ (c Γ = .ok true ∧ ((∃ Γ', (body Γ = .nx Γ' ∨ body Γ = .ct Γ') ∧ I Γ' ∧ μ Γ' < μ Γ) ∨ (∃ Γ', body Γ = .bk Γ' ∧ Z (.nx Γ')) ∨ ((∀ Γ', body Γ ≠ .nx Γ' ∧ body Γ ≠ .ct Γ' ∧ body Γ ≠ .bk Γ') ∧ Z (body Γ))))) : ∀ (n : Nat) (Γ : Env), I Γ → μ Γ < n → Z (whileN c body n Γ)
  | 0, _, _, h => absurd h (Nat.not_lt_zero _)
  | n + 1, Γ, h, hm => by
    unfold whileN
    rcases hs Γ h with ⟨h1, h2⟩ | ⟨h1, h2⟩
    · rw [h1]; exact h2
    · rw [h1]
      rw [lift_ok, if_pos rfl]
      rcases h2 with ⟨Γ', h2 | h2, h3, h4⟩ | ⟨Γ', h2, h3⟩ | ⟨h2, h3⟩
      · simp only [h2]; exact while_inv I μ Z hs n Γ' h3 (by omega)
      · simp only [h2]; exact while_inv I μ Z hs n Γ' h3 (by omega)
      · simp only [h2]; exact h3
      · revert h2 h3
        cases body Γ with
        | nx Γ' => exact fun h _ => absurd rfl (h Γ').1
        | ct Γ' => exact fun h _ => absurd rfl (h Γ').2.1
        | bk Γ' => exact fun h _ => absurd rfl (h Γ').2.2
        | rt d => exact fun _ h1 => h1
        | rtL d => exact fun _ h1 => h1
        | ex Γ2 n d => exact fun _ h1 => h1
        | stuck => exact fun _ h1 => h1
theorem mWhile_run {c : Env → R Bool} {body : Env → SO} {Γ : Env} (I : Env → Prop) (μ : Env → Nat) (Z : SO → Prop) (h0 : I Γ) (hm : μ Γ < 1000000)
    (hs : ∀ Γ, I Γ → (c Γ = .ok false ∧ Z (.nx Γ)) ∨ (c Γ = .ok true ∧ ((∃ Γ', (body Γ = .nx Γ' ∨ body Γ = .ct Γ') ∧ I Γ' ∧ μ Γ' < μ Γ) ∨ (∃ Γ', body Γ = .bk Γ' ∧ Z (.nx Γ')) ∨ ((∀ Γ', body Γ ≠ .nx Γ' ∧ body Γ ≠ .ct Γ' ∧ body Γ ≠ .bk Γ') ∧ Z (body Γ))))) : Z (mWhile c body Γ) := while_inv I μ Z hs FUEL Γ h0 hm
end FL

set_option Elab.async false
set_option linter.all false
set_option maxRecDepth 100000
set_option maxHeartbeats 2000000
/-! FL, part 10: comprehensions, chains, methods of texts. -/
namespace FL
open PySem PySem.Spec PyProof.Rows L2
set_option autoImplicit false
/-! ### comprehensions -/
theorem wipe_get (σ : St) (j : Nat) : ∀ vs : List Nat, (wipe σ vs)[j]? = if j ∈ vs then (if j < σ.length then some none else none) else σ[j]?
  | [] => by simp [wipe]
  | v :: vs => by
    show ((wipe σ vs).set v none)[j]? = _
    by_cases hj : v = j
    · subst hj
      rw [if_pos (List.mem_cons_self ..)]
      by_cases hl : v < σ.length
      · rw [if_pos hl, List.getElem?_set_self (by rw [wipe_length]; exact hl)]
      · rw [if_neg hl, List.getElem?_eq_none (by rw [List.length_set, wipe_length]; omega)]
    · rw [List.getElem?_set_ne hj, wipe_get σ j vs]
      have : (j ∈ v :: vs) = (j ∈ vs) := by
        apply propext
        constructor
        · intro h
          rcases List.mem_cons.mp h with h | h
          · exact absurd h.symm hj
          · exact h
        · exact List.mem_cons_of_mem _
      simp only [this]
theorem wipe_set {σ : St} {vs : List Nat} {i : Nat} {o : Option V} (h : i ∈ vs) : wipe (σ.set i o) vs = wipe σ vs := by
  apply List.ext_getElem?
  intro j
  rw [wipe_get, wipe_get, List.length_set]
  by_cases hj : j ∈ vs
  · rw [if_pos hj, if_pos hj]
  · rw [if_neg hj, if_neg hj, List.getElem?_set_ne (fun e : i = j => hj (by rw [← e]; exact h))]
theorem wipe_wipe {σ : St} {vs : List Nat} : wipe (wipe σ vs) vs = wipe σ vs := by
  apply List.ext_getElem?
  intro j
  rw [wipe_get, wipe_get, wipe_length]
  by_cases hj : j ∈ vs
  · rw [if_pos hj, if_pos hj]
  · rw [if_neg hj, if_neg hj]
/-- what is fixed within a comprehension's block: nothing is raised, the slots besides its own stay -/
def cgW (C : Cg) (vs : List Nat) (σ : St) : Cg := ⟨C.K, C.mg, fun _ _ _ _ => False, fun σ' => wipe σ' vs = wipe σ vs, C.F0, C.B⟩
theorem keepsW {C : Cg} {vs : List Nat} {σ : St} {i : Nat} (h : i ∈ vs) : Keeps (cgW C vs σ) i := fun σ' o e => (wipe_set h).trans e
theorem takesB {X : Cx} {C : Cg} {vs : List Nat} {σ : St} : L2N.Takes X (cgW C vs σ).W := fun u s' ⟨a, B, sI, pins, σ, H, cls, d, e, I, nb, up, sky, na, os, ag, w⟩ => w.elim
def wipeE (Γ : Env) : List Nat → Env
  | [] => Γ
  | v :: vs => (wipeE Γ vs).set v .no
structure FTs (X : Cx) (C : Cg) (ifs : List Expr) (t : TT) (m : Env → R Bool) : Prop where
  pt : PTs X ifs t
  rd : ∀ Γ σ F H Q, EnvOk C Γ σ F H → Post C (WE C.W σ) F H (m Γ) (fun b _ H' => Q b H') → t σ H Q
def mYes : Env → R Bool := fun _ => .ok true
theorem fts_nil {X : Cx} {C : Cg} : FTs X C [] tYes mYes := ⟨pts_nil, fun Γ σ F H Q e p => p F H (Ext.refl e.sub)⟩
theorem fts_one {X : Cx} {C : Cg} {c : Expr} {t : TT} {m : Env → R Bool} (h : FT X C c t m) : FTs X C [c] t m := ⟨pts_one h.pt, h.rd⟩
def noX {α : Type} : R α → R α
  | .ok a => .ok a
  | _ => .stuck
def turnC (g : Env → D → Option Env) (mt : Env → R Bool) (me : Env → R D) (Γ : Env) (d : D) : R (Option D) := match g Γ d with
  | none => .stuck
  | some Γ1 => noX (mt Γ1 >>= fun b => if b = true then me Γ1 >>= fun y => .ok (some y) else .ok none)
def compL (t : D → R (Option D)) : List D → R (List D)
  | [] => .ok []
  | d :: ds => t d >>= fun o => compL t ds >>= fun r => .ok (match o with | some y => y :: r | none => r)
def mComp (vs : List Nat) (mi : Env → R (List D)) (g : Env → D → Option Env) (mt : Env → R Bool) (me : Env → R D) : Env → R (List D) := fun Γ => mi Γ >>= fun ds => if ds.length < 16777216 then compL (turnC g mt me (wipeE Γ vs)) ds else .stuck
theorem turn_ok {g : Env → D → Option Env} {mt : Env → R Bool} {me : Env → R D} {Γ : Env} {d : D} {o : Option D} (h : turnC g mt me Γ d = .ok o) : ∃ Γ1, g Γ d = some Γ1 ∧ ((mt Γ1 = .ok true ∧ ∃ y, me Γ1 = .ok y ∧ o = some y) ∨ (mt Γ1 = .ok false ∧ o = none)) := by
  unfold turnC at h
  split at h
  · cases h
  · rename_i Γ1 hg
    refine ⟨Γ1, hg, ?_⟩
    revert h
    cases hm : mt Γ1 with
    | ok b =>
      cases b with
      | true =>
        show noX (me Γ1 >>= fun y => R.ok (some y)) = .ok o → _
        cases hy : me Γ1 with
        | ok y => intro h; cases h; exact .inl ⟨rfl, y, rfl, rfl⟩
        | exc n d => intro h; cases h
        | stuck => intro h; cases h
      | false => intro h; cases h; exact .inr ⟨rfl, rfl⟩
    | exc n d => intro h; cases h
    | stuck => intro h; cases h
theorem compL_cons {t : D → R (Option D)} {d : D} {ds res : List D} (h : compL t (d :: ds) = .ok res) : ∃ o r, t d = .ok o ∧ compL t ds = .ok r ∧ res = (match o with | some y => y :: r | none => r) := by
  have h' : (t d >>= fun o => compL t ds >>= fun r => R.ok (match o with | some y => y :: r | none => r)) = .ok res := h
  revert h'
  cases t d with
  | ok o =>
    show (compL t ds >>= fun r => R.ok (match o with | some y => y :: r | none => r)) = .ok res → _
    cases compL t ds with
    | ok r => intro h; cases h; exact ⟨o, r, rfl, rfl, rfl⟩
    | exc n d => intro h; cases h
    | stuck => intro h; cases h
  | exc n d => intro h; cases h
  | stuck => intro h; cases h
theorem compL_noX {g : Env → D → Option Env} {mt : Env → R Bool} {me : Env → R D} {Γ : Env} : ∀ ds : List D, (∃ r, compL (turnC g mt me Γ) ds = .ok r) ∨ compL (turnC g mt me Γ) ds = .stuck
  | [] => .inl ⟨[], rfl⟩
  | d :: ds => by
    have ht : (∃ o, turnC g mt me Γ d = .ok o) ∨ turnC g mt me Γ d = .stuck := by
      unfold turnC
      split
      · exact .inr rfl
      · rename_i Γ1 _
        cases (mt Γ1 >>= fun b => if b = true then me Γ1 >>= fun y => R.ok (some y) else R.ok none) with
        | ok o => exact .inl ⟨o, rfl⟩
        | exc n d => exact .inr rfl
        | stuck => exact .inr rfl
    unfold compL
    rcases ht with ⟨o, e⟩ | e
    · rw [e]
      rcases compL_noX (g := g) (mt := mt) (me := me) (Γ := Γ) ds with ⟨r, e2⟩ | e2
      · rw [e2]; exact .inl ⟨_, rfl⟩
      · rw [e2]; exact .inr rfl
    · rw [e]; exact .inr rfl
section
variable {X : Cx} {C : Cg}
theorem EnvOk.swap {Γ : Env} {σ : St} {F H : Hp} (e : EnvOk C Γ σ F H) (W : WX) (P : St → Prop) (hp : P σ) : EnvOk ⟨C.K, C.mg, W, P, C.F0, C.B⟩ Γ σ F H := ⟨e.ext, hp, e.len, e.slot, e.dist⟩
theorem EnvOk.wipe {Γ : Env} {σ : St} {F H : Hp} (hP : ∀ σ, C.P σ) (e : EnvOk C Γ σ F H) : ∀ vs : List Nat, EnvOk C (wipeE Γ vs) (L2.wipe σ vs) F H
  | [] => e
  | v :: vs => (EnvOk.wipe hP e vs).set (s := .no) (o := none) (hP _) trivial fun z => by cases z
theorem post_ok {α : Type} {E : XK} {F H : Hp} {a : α} {k : α → Hp → Hp → Prop} (h : ∀ F' H', Ext F H F' H' → k a F' H') : Post C E F H (.ok a) k := h
/-- the readings of a block's parts by their plain functions -/
def tCan (Cs : St → Cg) (me : Env → R D) : TE := fun σ' H Q => ∃ σ0 Γ F, EnvOk (Cs σ0) Γ σ' F H ∧ Post (Cs σ0) (WE (Cs σ0).W σ') F H (me Γ) (kV (Cs σ0) Q)
def ttCan (Cs : St → Cg) (mt : Env → R Bool) : TT := fun σ' H Q => ∃ σ0 Γ F, EnvOk (Cs σ0) Γ σ' F H ∧ Post (Cs σ0) (WE (Cs σ0).W σ') F H (mt Γ) (fun b _ H' => Q b H')
def tgCan (Cs : St → Cg) (mg : Env → D → Option Env) : TG := fun v σ' H Q => ∃ σ0 Γ F d Γ', EnvOk (Cs σ0) Γ σ' F H ∧ Rep (Cs σ0).K (Cs σ0).mg F d v ∧ mg Γ d = some Γ' ∧ ∀ σ'', EnvOk (Cs σ0) Γ' σ'' F H → Q σ'' H
section
variable {iter : Expr} {ifs : List Expr} {tg elt : Expr} {scope : Scope} {wi : TI} {mi : Env → R (List D)} {mg : Env → D → Option Env} {mt : Env → R Bool} {me : Env → R D} {vs : List Nat}
theorem comp_rd (hi : FI X C tg iter wi mi) : ∀ Γ σ F H Q, EnvOk C Γ σ F H → Post C (WE C.W σ) F H (mComp vs mi mg mt me Γ) (kL C H Q) → tLc wi (tgCan (cgW C vs) mg) (ttCan (cgW C vs) mt) (tCan (cgW C vs) me) vs σ H Q := fun Γ σ F H Q en p => by
  refine hi.rd Γ σ F H _ en (Post.bind p fun ds F1 H1 x1 p1 J ok D hD => ?_)
  split at p1
  case isFalse => exact p1.elim
  rename_i hsz
  rcases compL_noX (g := mg) (mt := mt) (me := me) (Γ := wipeE Γ vs) ds with ⟨res, hres⟩ | hres
  case inr => rw [hres] at p1; exact p1.elim
  rw [hres] at p1
  have en1 := en.step x1
  have enT : EnvOk ⟨C.K, C.mg, fun _ _ _ _ => False, fun _ => True, C.F0, C.B⟩ Γ σ F1 H1 := en1.swap _ _ trivial
  have enW : EnvOk (cgW C vs σ) (wipeE Γ vs) (wipe σ vs) F1 H1 := (enT.wipe (fun _ => trivial) vs).swap _ _ wipe_wipe
  have FD : F1 D = none := sub_none x1.sub hD
  refine ⟨fun i m H' => m = ds.length - i ∧ i ≤ ds.length ∧ ∃ F' acc ads rest, Ext F1 H1 F' H' ∧ H' D = some (.lst acc) ∧ F' D = none ∧ Reps C.K C.mg F' ads acc ∧ ads.length ≤ i ∧ res = ads ++ rest ∧ compL (turnC mg mt me (wipeE Γ vs)) (ds.drop i) = .ok rest,
    ⟨ds.length, by simp, Nat.zero_le _, F1, [], [], res, Ext.raw x1.sub hD, upd_same, FD, .nil, Nat.zero_le _, rfl, hres⟩, ?_⟩
  rintro i m H' ⟨rfl, hi', F', acc, ads, rest, xe, hDl, hDF, hr, hal, hre, hcl⟩
  by_cases hlt : i < ds.length
  · rw [List.drop_eq_getElem_cons hlt] at hcl
    obtain ⟨o, r, ho, hc2, hrr⟩ := compL_cons hcl
    obtain ⟨Γ1, hg1, hcase⟩ := turn_ok ho
    refine .inr ⟨ok.go F' H' i hlt xe.sF xe.sub, fun H2 => i + 1 ≤ ds.length ∧ ∃ F' acc ads rest, Ext F1 H1 F' H2 ∧ H2 D = some (.lst acc) ∧ F' D = none ∧ Reps C.K C.mg F' ads acc ∧ ads.length ≤ i + 1 ∧ res = ads ++ rest ∧ compL (turnC mg mt me (wipeE Γ vs)) (ds.drop (i + 1)) = .ok rest,
      fun H2 h2 => ⟨ds.length - (i + 1), by omega, rfl, h2⟩, fun x H2 y => ?_⟩
    obtain ⟨F2, x2, r2⟩ := ok.yld F' H' i ds[i] x H2 (List.getElem?_eq_getElem hlt) xe.sF xe.sub y
    have x12 := xe.trans x2
    refine ⟨σ, wipeE Γ vs, F2, ds[i], Γ1, enW.step x12, r2, hg1, fun σ3 en3 => ⟨en3.pre, ?_⟩⟩
    refine ⟨σ, Γ1, F2, en3, ?_⟩
    rcases hcase with ⟨hm, yv, hy, hoo⟩ | ⟨hm, hoo⟩
    · rw [hm]
      refine post_ok fun F4 H4 x4 => ?_
      refine iteT ⟨σ, Γ1, F4, en3.step x4, ?_⟩
      rw [hy]
      refine post_ok fun F5 H5 x5 v rv => ?_
      have x15 := (x12.trans x4).trans x5
      have g1 : H5 D = some (.lst acc) := x5.sH _ _ (x4.sH _ _ (x2.sH _ _ hDl))
      have g2 : F5 D = none := x5.sep _ _ (x4.sH _ _ (x2.sH _ _ hDl)) (x4.sep _ _ (x2.sH _ _ hDl) (x2.sep _ _ hDl hDF))
      refine ⟨acc, g1, ?_, hlt, F5, acc ++ [v], ads ++ [yv], r, ?_, upd_same, g2, (((hr.mono x2.sF).mono x4.sF).mono x5.sF).append (.cons rv .nil), by simp; omega, ?_, hc2⟩
      · rw [hr.length, sizeLine_eq]; omega
      · exact ⟨x15.sF, fun b q e => by rw [upd_ne (ne_of_none e hD)]; exact x15.sH b q e, fun b q e => by rw [upd_ne (ne_of_none e g2)]; exact x15.sub b q e, x15.sep⟩
      · rw [hre, hrr, hoo]; simp
    · rw [hm]
      refine post_ok fun F4 H4 x4 => ?_
      have hDl4 := x4.sH _ _ (x2.sH _ _ hDl)
      have hDF4 := x4.sep _ _ (x2.sH _ _ hDl) (x2.sep _ _ hDl hDF)
      refine iteF ⟨hlt, F4, acc, ads, r, x12.trans x4, hDl4, hDF4, (hr.mono x2.sF).mono x4.sF, by omega, ?_, hc2⟩
      rw [hre, hrr, hoo]
  · have e : i = ds.length := by omega
    subst e
    rw [List.drop_length] at hcl
    cases hcl
    refine .inl ⟨ok.stop F' H' xe.sF xe.sub, ?_⟩
    rw [List.append_nil] at hre
    subst hre
    exact p1 F' H' xe D acc (x1.sH.free hD) hDl hDF hr
/-- what is asked of a block's parts -/
def BGo (X : Cx) (C : Cg) (vs : List Nat) (scope : Scope) (tg : Expr) (mg : Env → D → Option Env) : Prop := ∀ (σ : St) (s : Shared) (H : Hp) (A : Addr) (cl : List (Str × Addr)) (fp : List Addr), ∃ g, FG (X.blk s H scope (compEnvC scope cl A X.env) fp) (cgW C vs σ) tg g mg
def BTo (X : Cx) (C : Cg) (vs : List Nat) (scope : Scope) (ifs : List Expr) (mt : Env → R Bool) : Prop := ∀ (σ : St) (s : Shared) (H : Hp) (A : Addr) (cl : List (Str × Addr)) (fp : List Addr), ∃ t, FTs (X.blk s H scope (compEnvC scope cl A X.env) fp) (cgW C vs σ) ifs t mt
def BEo (X : Cx) (C : Cg) (vs : List Nat) (scope : Scope) (elt : Expr) (me : Env → R D) : Prop := ∀ (σ : St) (s : Shared) (H : Hp) (A : Addr) (cl : List (Str × Addr)) (fp : List Addr), ∃ t, FE (X.blk s H scope (compEnvC scope cl A X.env) fp) (cgW C vs σ) elt t me
theorem BGo.pg (h : BGo X C vs scope tg mg) (s : Shared) (H : Hp) (A : Addr) (cl : List (Str × Addr)) (fp : List Addr) : PG (X.blk s H scope (compEnvC scope cl A X.env) fp) tg (tgCan (cgW C vs) mg) := by
  obtain ⟨g0, hg0⟩ := h [] s H A cl fp
  refine ⟨fun pins s' σ H' v u Q I r q => ?_⟩
  obtain ⟨σ0, Γ, F, d, Γ', en, rp, hm, k⟩ := q
  obtain ⟨g, hg⟩ := h σ0 s H A cl fp
  exact hg.pg.run pins s' σ H' v u Q I r (hg.rd Γ σ F H' d v Γ' Q en rp hm k)
theorem BTo.pt (h : BTo X C vs scope ifs mt) (s : Shared) (H : Hp) (A : Addr) (cl : List (Str × Addr)) (fp : List Addr) : PTs (X.blk s H scope (compEnvC scope cl A X.env) fp) ifs (ttCan (cgW C vs) mt) := by
  refine ⟨fun pins s' σ H' Q I q => ?_⟩
  obtain ⟨σ0, Γ, F, en, p⟩ := q
  obtain ⟨t, ht⟩ := h σ0 s H A cl fp
  exact ht.pt.run pins s' σ H' Q I (ht.rd Γ σ F H' Q en p)
theorem BEo.pe (h : BEo X C vs scope elt me) (s : Shared) (H : Hp) (A : Addr) (cl : List (Str × Addr)) (fp : List Addr) : PE (X.blk s H scope (compEnvC scope cl A X.env) fp) elt (tCan (cgW C vs) me) := by
  refine ⟨fun pins s' σ H' Q I q => ?_⟩
  obtain ⟨σ0, Γ, F, en, p⟩ := q
  obtain ⟨t, ht⟩ := h σ0 s H A cl fp
  exact ht.pe.run pins s' σ H' Q I (ht.rd Γ σ F H' Q en p)
theorem fl_comp {pos : Pos} (own : List (Str × Nat)) (hc : X.calm = true) (hN : X.N.Nodup) (hi : FI X C tg iter wi mi) (ok : BlkOk X.N X.env.scope scope own)
    (hg : BGo X C vs scope tg mg) (ht : BTo X C vs scope ifs mt) (he : BEo X C vs scope elt me) (hs : ∀ x, foldedSetIterable iter X.env x = pure x := by intro _; rfl) (hvs : own.map (·.2) = vs := by rfl) :
    FL X C (.ListComp elt [⟨tg, iter, ifs, 0⟩] scope pos) (tLc wi (tgCan (cgW C vs) mg) (ttCan (cgW C vs) mt) (tCan (cgW C vs) me) vs) (mComp vs mi mg mt me) := by
  subst hvs
  exact ⟨pe_lc hc hN hi.pi ok hg.pg ht.pt he.pe hs, comp_rd hi⟩
/-- y = [..], the name a local: y's own list; a settled one -/
theorem fs_setLcL {i : Nat} {y : Str} {py pos spos : Pos} (own : List (Str × Nat)) (k : Keeps C i) (hc : X.calm = true) (hN : X.N.Nodup) (hy : X.N[i]? = some y) (hyl : X.env.scope.names.lookup y = some .local)
    (hsw : swapsWith (.ListComp elt [⟨tg, iter, ifs, 0⟩] scope pos) (some (.Name y py)) spos.line X.env = pure true) (hi : FI X C tg iter wi mi) (ok : BlkOk X.N X.env.scope scope own)
    (hg : BGo X C vs scope tg mg) (ht : BTo X C vs scope ifs mt) (he : BEo X C vs scope elt me) (hs : ∀ x, foldedSetIterable iter X.env x = pure x := by intro _; rfl) (hvs : own.map (·.2) = vs := by rfl) :
    FS X C (.Assign [.Name y py] (.ListComp elt [⟨tg, iter, ifs, 0⟩] scope pos) spos) (tAsg (tLc wi (tgCan (cgW C vs) mg) (ttCan (cgW C vs) mt) (tCan (cgW C vs) me) vs) (gName i)) (mAsgL i (mComp vs mi mg mt me)) := by
  subst hvs
  exact ⟨ps_setLc hc hN hy hyl hsw hi.pi ok hg.pg ht.pt he.pe hs, asgL_rd k (comp_rd hi)⟩
theorem fs_setLc {i : Nat} {y : Str} {py pos spos : Pos} (own : List (Str × Nat)) (k : Keeps C i) (hc : X.calm = true) (hN : X.N.Nodup) (hy : X.N[i]? = some y) (hyl : X.env.scope.names.lookup y = some .local)
    (hsw : swapsWith (.ListComp elt [⟨tg, iter, ifs, 0⟩] scope pos) (some (.Name y py)) spos.line X.env = pure true) (hi : FI X C tg iter wi mi) (ok : BlkOk X.N X.env.scope scope own)
    (hg : BGo X C vs scope tg mg) (ht : BTo X C vs scope ifs mt) (he : BEo X C vs scope elt me) (hs : ∀ x, foldedSetIterable iter X.env x = pure x := by intro _; rfl) (hvs : own.map (·.2) = vs := by rfl) :
    FS X C (.Assign [.Name y py] (.ListComp elt [⟨tg, iter, ifs, 0⟩] scope pos) spos) (tAsg (tLc wi (tgCan (cgW C vs) mg) (ttCan (cgW C vs) mt) (tCan (cgW C vs) me) vs) (gName i)) (mAsg i (mLe (mComp vs mi mg mt me))) := by
  subst hvs
  exact ⟨ps_setLc hc hN hy hyl hsw hi.pi ok hg.pg ht.pt he.pe hs, asg_rd k fun Γ σ F H Q e p => comp_rd hi Γ σ F H Q e (by
    revert p
    show Post C (WE C.W σ) F H (mComp (own.map (·.2)) mi mg mt me Γ >>= fun x => pure (.lst x)) (kV C Q) → _
    cases mComp (own.map (·.2)) mi mg mt me Γ with
    | ok ds => exact fun p F' H' x q xs n hp nF r => p _ _ (x.settle n nF hp) _ (.lst upd_same (r.mono (same_upd nF)))
    | exc n d => exact id
    | stuck => exact id)⟩
end
end
/-! reckoned -/
theorem mComp_ev {Γ : Env} (vs : List Nat) (mi : Env → R (List D)) (g : Env → D → Option Env) (mt : Env → R Bool) (me : Env → R D) : mComp vs mi g mt me Γ = (mi Γ >>= fun ds => if ds.length < 16777216 then compL (turnC g mt me (wipeE Γ vs)) ds else .stuck) := rfl
theorem compL_map {t : D → R (Option D)} (f : D → D) : ∀ {ds : List D}, (∀ d ∈ ds, t d = .ok (some (f d))) → compL t ds = .ok (ds.map f)
  | [], _ => rfl
  | d :: ds, h => by
    unfold compL
    rw [h d (List.mem_cons_self ..), compL_map f fun e he => h e (List.mem_cons_of_mem _ he)]
    rfl
theorem compL_filterMap {t : D → R (Option D)} (f : D → Option D) : ∀ {ds : List D}, (∀ d ∈ ds, t d = .ok (f d)) → compL t ds = .ok (ds.filterMap f)
  | [], _ => rfl
  | d :: ds, h => by
    unfold compL
    rw [h d (List.mem_cons_self ..), compL_filterMap f fun e he => h e (List.mem_cons_of_mem _ he), List.filterMap_cons]
    cases f d <;> rfl
/-- of a list made by a map -/
theorem compL_of {α : Type} {t : D → R (Option D)} {g : α → D} (f : α → D) : ∀ {xs : List α}, (∀ x ∈ xs, t (g x) = .ok (some (f x))) → compL t (xs.map g) = .ok (xs.map f)
  | [], _ => rfl
  | d :: ds, h => by
    show (t (g d) >>= _) = _
    rw [h d (List.mem_cons_self ..)]
    show (compL t (ds.map g) >>= _) = _
    rw [compL_of f fun e he => h e (List.mem_cons_of_mem _ he)]
    rfl
theorem turnC_some {g : Env → D → Option Env} {mt : Env → R Bool} {me : Env → R D} {Γ Γ1 : Env} {d y : D} (h : g Γ d = some Γ1) (h1 : mt Γ1 = .ok true) (h2 : me Γ1 = .ok y) : turnC g mt me Γ d = .ok (some y) := by
  unfold turnC
  rw [h]
  show noX (mt Γ1 >>= _) = _
  rw [h1]
  show noX (me Γ1 >>= _) = _
  rw [h2]; rfl
theorem turnC_no {g : Env → D → Option Env} {mt : Env → R Bool} {me : Env → R D} {Γ Γ1 : Env} {d : D} (h : g Γ d = some Γ1) (h1 : mt Γ1 = .ok false) : turnC g mt me Γ d = .ok none := by
  unfold turnC
  rw [h]
  show noX (mt Γ1 >>= _) = _
  rw [h1]; rfl
theorem wipeE_nil {Γ : Env} : wipeE Γ [] = Γ := rfl
theorem wipeE_cons {Γ : Env} {v : Nat} {vs : List Nat} : wipeE Γ (v :: vs) = (wipeE Γ vs).set v .no := rfl
theorem mYes_ev {Γ : Env} : mYes Γ = .ok true := rfl

/-! ### chains -/
def mCh (g g' : D → D → R D) (ma mb mc : Env → R D) : Env → R D := fun Γ => ma Γ >>= fun x => mb Γ >>= fun y => g x y >>= fun z => asB z >>= fun k => if k = true then mc Γ >>= fun w => g' y w else .ok (.bl false)
theorem mCh_ev {Γ : Env} (g g' : D → D → R D) (ma mb mc : Env → R D) : mCh g g' ma mb mc Γ = (ma Γ >>= fun x => mb Γ >>= fun y => g x y >>= fun z => asB z >>= fun k => if k = true then mc Γ >>= fun w => g' y w else .ok (.bl false)) := rfl
section
variable {X : Cx} {C : Cg} {a b c : Expr} {ta tb tc : TE} {ma mb mc : Env → R D} {pos : Pos} {op op' : CmpOp} {r r' : R2} {g g' : D → D → R D}
theorem chain_rd (hs : OpS C r g) (hs' : OpS C r' g') (ha : FR X C a ta ma) (hb : FR X C b tb mb) (hc : FR X C c tc mc) : ∀ Γ σ F H Q, EnvOk C Γ σ F H → Post C (WE C.W σ) F H (mCh g g' ma mb mc Γ) (kV C Q) → tChain r r' ta tb tc σ H Q := fun Γ σ F H Q e p =>
  ha.rd Γ σ F H _ e (Post.bind p fun x F1 H1 x1 p1 v1 r1 => hb.rd Γ σ F1 H1 _ (e.step x1) (Post.bind p1 fun y F2 H2 x2 p2 v2 r2 => hs x y v1 v2 F2 H2 (WE C.W σ) _ x2.sub (r1.ext x2) r2 (Post.bind p2 fun z F3 H3 x3 p3 v3 r3 => by
    cases r3 with
    | bl k =>
      refine ⟨k, rfl, ?_⟩
      have p4 : Post C (WE C.W σ) F3 H3 (if k = true then mc Γ >>= fun w => g' y w else .ok (.bl false)) (kV C Q) := p3
      cases k with
      | true =>
        rw [if_pos rfl] at p4
        rw [if_pos rfl]
        exact hc.rd Γ σ F3 H3 _ (((e.step x1).step x2).step x3) (Post.bind p4 fun w F4 H4 x4 p5 v4 r4 => hs' y w v2 v4 F4 H4 (WE C.W σ) Q x4.sub ((r2.ext x3).ext x4) r4 p5)
      | false =>
        rw [if_neg Bool.false_ne_true] at p4
        rw [if_neg Bool.false_ne_true]
        exact p4 F3 H3 (Ext.refl x3.sub) _ (.bl false)
    | _ => exact p3.elim)))
theorem fe_chain (ho : OpR X (compareOp op) r) (hs : OpS C r g) (ho' : OpR X (compareOp op') r') (hs' : OpS C r' g') (ha : FR X C a ta ma) (hb : FR X C b tb mb) (hc : FR X C c tc mc) (hm : lastMarks [op, op'] [b, c] = false := by with_unfolding_all rfl) :
    FE X C (.Compare a [op, op'] [b, c] pos) (tChain r r' ta tb tc) (mCh g g' ma mb mc) := ⟨pe_chain ho ho' ha.pe hb.pe hc.pe hm, chain_rd hs hs' ha hb hc⟩
theorem ft_chain (ho : OpR X (compareOp op) r) (hs : OpS C r g) (ho' : OpR X (compareOp op') r') (hs' : OpS C r' g') (ha : FR X C a ta ma) (hb : FR X C b tb mb) (hc : FR X C c tc mc) (hm : lastMarks [op, op'] [b, c] = false := by with_unfolding_all rfl) :
    FT X C (.Compare a [op, op'] [b, c] pos) (tTest (tChain r r' ta tb tc)) (mT (mCh g g' ma mb mc)) := ⟨pt_chain ho ho' ha.pe hb.pe hc.pe hm, tB_rd (chain_rd hs hs' ha hb hc)⟩
end
end FL

set_option Elab.async false
set_option linter.all false
set_option maxRecDepth 100000
set_option maxHeartbeats 2000000
/-! FL, part 11: methods of texts, built-ins over lists. -/
namespace FL
open PySem PySem.Spec PyProof.Rows L2
set_option autoImplicit false
def onStr {α : Type} (x : D) (k : List Nat → R α) : R α := match x with
  | .str a => k a
  | _ => .stuck
theorem onStr_str {α : Type} (a : List Nat) (k : List Nat → R α) : onStr (.str a) k = k a := rfl
def mMeth {α : Type} (g : List Nat → List D → R α) (mo : Env → R D) (ma : Env → R (List D)) : Env → R α := fun Γ => mo Γ >>= fun x => onStr x fun a => ma Γ >>= fun xs => g a xs
theorem mMeth_ev {α : Type} {Γ : Env} (g : List Nat → List D → R α) (mo : Env → R D) (ma : Env → R (List D)) : mMeth g mo ma Γ = (mo Γ >>= fun x => onStr x fun a => ma Γ >>= fun xs => g a xs) := rfl
def SM (C : Cg) (r : V → List V → Hp → VK → Prop) (g : List Nat → List D → R D) : Prop := ∀ (a : List Nat) (ds : List D) (vs : List V) (F H : Hp) (E : XK) (Q : VK), Same F H → okS a → RepRs C F H ds vs → Post C E F H (g a ds) (kV C Q) → r (.str (mk a)) vs H Q
def SML (C : Cg) (r : V → List V → Hp → VK → Prop) (g : List Nat → List D → R (List D)) : Prop := ∀ (a : List Nat) (ds : List D) (vs : List V) (F H : Hp) (E : XK) (Q : VK), Same F H → okS a → RepRs C F H ds vs → Post C E F H (g a ds) (kL C H Q) → r (.str (mk a)) vs H Q
section
variable {X : Cx} {C : Cg} {o e : Expr} {es : List Expr} {to : TE} {t : TA} {mo : Env → R D} {ma : Env → R (List D)} {name : Str} {apos cpos : Pos} {id : String} {r : V → List V → Hp → VK → Prop} {g : List Nat → List D → R D} {gL : List Nat → List D → R (List D)}
theorem meth_rd (hs : SM C r g) (ho : FE X C o to mo) (ha : FB X C es t ma) : ∀ Γ σ F H Q, EnvOk C Γ σ F H → Post C (WE C.W σ) F H (mMeth g mo ma Γ) (kV C Q) → tBM X.K "str" r to t σ H Q := fun Γ σ F H Q en p =>
  ho.rd Γ σ F H _ en (Post.bind p fun x F1 H1 x1 p1 v r1 => by
    cases r1 with
    | str a ok => exact ⟨rfl, ha.rd Γ σ F1 H1 _ (en.step x1) (Post.bind (show Post C (WE C.W σ) F1 H1 (ma Γ >>= fun xs => g a xs) (kV C Q) from p1) fun xs F2 H2 x2 p2 vs rs => hs a xs vs F2 H2 _ Q x2.sub ok rs p2)⟩
    | _ => exact p1.elim)
theorem meth_rd0 (hs : SM C r g) (ho : FE X C o to mo) : ∀ Γ σ F H Q, EnvOk C Γ σ F H → Post C (WE C.W σ) F H (mMeth g mo mNil Γ) (kV C Q) → tBM0 X.K "str" r to σ H Q := fun Γ σ F H Q en p =>
  ho.rd Γ σ F H _ en (Post.bind p fun x F1 H1 x1 p1 v r1 => by
    cases r1 with
    | str a ok => exact ⟨rfl, hs a [] [] F1 H1 _ Q x1.sub ok .nil p1⟩
    | _ => exact p1.elim)
theorem meth_rdL (hs : SML C r gL) (ho : FE X C o to mo) (ha : FB X C es t ma) : ∀ Γ σ F H Q, EnvOk C Γ σ F H → Post C (WE C.W σ) F H (mMeth gL mo ma Γ) (kL C H Q) → tBM X.K "str" r to t σ H Q := fun Γ σ F H Q en p =>
  ho.rd Γ σ F H _ en (Post.bind p fun x F1 H1 x1 p1 v r1 => by
    cases r1 with
    | str a ok => exact ⟨rfl, ha.rd Γ σ F1 H1 _ (en.step x1) (Post.bind (show Post C (WE C.W σ) F1 H1 (ma Γ >>= fun xs => gL a xs) (kL C H Q) from p1) fun xs F2 H2 x2 p2 vs rs => hs a xs vs F2 H2 (WE C.W σ) Q x2.sub ok rs (p2.imp fun ds F3 H3 x3 q => kL_step (x1.sH.trans x2.sH) q))⟩
    | _ => exact p1.elim)
theorem fe_meth (slot : PySem.Slot "str" name id) (hty : typeOf (.builtin id) = pure (.type "method_descriptor")) (hm : MtR X id r) (hs : SM C r g) (ho : FE X C o to mo) (ha : FB X C (e :: es) t ma)
    (hbase : attributeBase o name X.env (eval o X.env) = eval o X.env := by rfl)
    (hfew : ((backTo cpos (starEach (e :: es) X.env)).all (fun x => !x.1) && (backToKw cpos (keywordEach [] X.env)).all (fun x => x.1.isSome)
      && decide ((e :: es).length + ([] : List Keyword).length + (if ([] : List Keyword).isEmpty then 0 else 1) < 30)) = true := by rfl)
    (hline : (apos.endLine == cpos.line) = true := by rfl) (hst : starEach (e :: es) X.env = (false, eval e X.env) :: starEach es X.env := by rfl) (hplain : (backTo cpos (starEach es X.env)).any (·.1) = false := by rfl) :
    FE X C (.Call (.Attribute o name apos) (e :: es) [] cpos) (tBM X.K "str" r to t) (mMeth g mo ma) := ⟨pe_bm PySem.F.plainAttrs_str slot hty hm ho.pe ha.pa hbase hfew hline hst hplain, meth_rd hs ho ha⟩
theorem fl_meth (slot : PySem.Slot "str" name id) (hty : typeOf (.builtin id) = pure (.type "method_descriptor")) (hm : MtR X id r) (hs : SML C r gL) (ho : FE X C o to mo) (ha : FB X C (e :: es) t ma)
    (hbase : attributeBase o name X.env (eval o X.env) = eval o X.env := by rfl)
    (hfew : ((backTo cpos (starEach (e :: es) X.env)).all (fun x => !x.1) && (backToKw cpos (keywordEach [] X.env)).all (fun x => x.1.isSome)
      && decide ((e :: es).length + ([] : List Keyword).length + (if ([] : List Keyword).isEmpty then 0 else 1) < 30)) = true := by rfl)
    (hline : (apos.endLine == cpos.line) = true := by rfl) (hst : starEach (e :: es) X.env = (false, eval e X.env) :: starEach es X.env := by rfl) (hplain : (backTo cpos (starEach es X.env)).any (·.1) = false := by rfl) :
    FL X C (.Call (.Attribute o name apos) (e :: es) [] cpos) (tBM X.K "str" r to t) (mMeth gL mo ma) := ⟨pe_bm PySem.F.plainAttrs_str slot hty hm ho.pe ha.pa hbase hfew hline hst hplain, meth_rdL hs ho ha⟩
theorem fe_meth0 (slot : PySem.Slot "str" name id) (hty : typeOf (.builtin id) = pure (.type "method_descriptor")) (hm : MtR X id r) (hs : SM C r g) (ho : FE X C o to mo)
    (hbase : attributeBase o name X.env (eval o X.env) = eval o X.env := by rfl) (hline : (apos.endLine == cpos.line) = true := by rfl) : FE X C (.Call (.Attribute o name apos) [] [] cpos) (tBM0 X.K "str" r to) (mMeth g mo mNil) :=
  ⟨pe_bm0 PySem.F.plainAttrs_str slot hty hm ho.pe hbase hline, meth_rd0 hs ho⟩
end
section
variable {C : Cg} {F H : Hp} {b : List Nat} {i j : Int} {vs : List V}
theorem args_s (rs : RepRs C F H [.str b] vs) : vs = [.str (mk b)] ∧ okS b := by
  cases rs with
  | cons r rs => cases rs; obtain ⟨e, o⟩ := r.str; exact ⟨by rw [e], o⟩
theorem args_si (rs : RepRs C F H [.str b, .int i] vs) : vs = [.str (mk b), .int i] ∧ okS b := by
  cases rs with
  | cons r rs => cases rs with
    | cons r2 rs => cases rs; obtain ⟨e, o⟩ := r.str; exact ⟨by rw [e, r2.int], o⟩
theorem args_ss {c : List Nat} (rs : RepRs C F H [.str b, .str c] vs) : vs = [.str (mk b), .str (mk c)] ∧ okS b ∧ okS c := by
  cases rs with
  | cons r rs => cases rs with
    | cons r2 rs => cases rs; obtain ⟨e, o⟩ := r.str; obtain ⟨e2, o2⟩ := r2.str; exact ⟨by rw [e, e2], o, o2⟩
theorem args_sij (rs : RepRs C F H [.str b, .int i, .int j] vs) : vs = [.str (mk b), .int i, .int j] ∧ okS b := by
  cases rs with
  | cons r rs => cases rs with
    | cons r2 rs => cases rs with
      | cons r3 rs => cases rs; obtain ⟨e, o⟩ := r.str; exact ⟨by rw [e, r2.int, r3.int], o⟩
theorem args_i (rs : RepRs C F H [.int i] vs) : vs = [.int i] := one_int rs
theorem args_n (rs : RepRs C F H [] vs) : vs = [] := by cases rs; rfl
end
/-- a text that a method tells, its signs looked at -/
def outS (s : Str) : R D := if (s.cps.toList.all fun c => decide (c < 1114112)) = true then .ok (.str s.cps.toList) else .stuck
theorem outS_ok {s : Str} {l : List Nat} (e : s = mk l) (h : okS l) : outS s = .ok (.str l) := by
  unfold outS
  rw [e, mk_list, if_pos]
  exact List.all_eq_true.mpr fun c hc => decide_eq_true (h c hc)
theorem outS_post {C : Cg} {E : XK} {F H : Hp} {Q : VK} {s : Str} (sb : Same F H) (p : Post C E F H (outS s) (kV C Q)) : Q (.str s) H := by
  unfold outS at p
  split at p
  · rename_i h
    have := p F H (Ext.refl sb) (.str (mk s.cps.toList)) (.str _ (okS_of h))
    rw [mk_of] at this
    exact this
  · exact p.elim

def g_find (a : List Nat) : List D → R D
  | [.str b] => .ok (.int (Txt.find (mk a) (mk b)))
  | _ => .stuck
theorem sm_find {C : Cg} : SM C (fun x xs H Q => ∃ a b, x = .str a ∧ xs = [.str b] ∧ Q (.int (Txt.find a b)) H) g_find := fun a ds vs F H E Q s o rs p => by
  unfold g_find at p
  split at p
  · obtain ⟨e, _⟩ := args_s rs
    subst e
    exact ⟨_, _, rfl, rfl, p F H (Ext.refl s) _ (.int _)⟩
  · exact p.elim
theorem g_find_ev (a b : List Nat) : g_find a [.str b] = .ok (.int (Txt.find (mk a) (mk b))) := rfl
def g_find3 (a : List Nat) : List D → R D
  | [.str b, .int i] => .ok (.int (Txt.find3 (mk a) (mk b) i))
  | _ => .stuck
theorem sm_find3 {C : Cg} : SM C (fun x xs H Q => ∃ (a b : Str) (i : Int), x = .str a ∧ xs = [.str b, .int i] ∧ Q (.int (Txt.find3 a b i)) H) g_find3 := fun a ds vs F H E Q s o rs p => by
  unfold g_find3 at p
  split at p
  · obtain ⟨e, _⟩ := args_si rs
    subst e
    exact ⟨_, _, _, rfl, rfl, p F H (Ext.refl s) _ (.int _)⟩
  · exact p.elim
theorem g_find3_ev (a b : List Nat) (i : Int) : g_find3 a [.str b, .int i] = .ok (.int (Txt.find3 (mk a) (mk b) i)) := rfl
def g_find4 (a : List Nat) : List D → R D
  | [.str b, .int i, .int j] => .ok (.int (Txt.findIn (mk a) (mk b) i j))
  | _ => .stuck
theorem sm_find4 {C : Cg} : SM C (fun x xs H Q => ∃ (a b : Str) (i j : Int), x = .str a ∧ xs = [.str b, .int i, .int j] ∧ Q (.int (Txt.findIn a b i j)) H) g_find4 := fun a ds vs F H E Q s o rs p => by
  unfold g_find4 at p
  split at p
  · obtain ⟨e, _⟩ := args_sij rs
    subst e
    exact ⟨_, _, _, _, rfl, rfl, p F H (Ext.refl s) _ (.int _)⟩
  · exact p.elim
theorem g_find4_ev (a b : List Nat) (i j : Int) : g_find4 a [.str b, .int i, .int j] = .ok (.int (Txt.findIn (mk a) (mk b) i j)) := rfl
def g_rfind (a : List Nat) : List D → R D
  | [.str b] => .ok (.int (Txt.rfind (mk a) (mk b)))
  | _ => .stuck
theorem sm_rfind {C : Cg} : SM C (fun x xs H Q => ∃ a b, x = .str a ∧ xs = [.str b] ∧ Q (.int (Txt.rfind a b)) H) g_rfind := fun a ds vs F H E Q s o rs p => by
  unfold g_rfind at p
  split at p
  · obtain ⟨e, _⟩ := args_s rs
    subst e
    exact ⟨_, _, rfl, rfl, p F H (Ext.refl s) _ (.int _)⟩
  · exact p.elim
theorem g_rfind_ev (a b : List Nat) : g_rfind a [.str b] = .ok (.int (Txt.rfind (mk a) (mk b))) := rfl
def g_rfind4 (a : List Nat) : List D → R D
  | [.str b, .int i, .int j] => .ok (.int (Txt.rfindIn (mk a) (mk b) i j))
  | _ => .stuck
theorem sm_rfind4 {C : Cg} : SM C (fun x xs H Q => ∃ (a b : Str) (i j : Int), x = .str a ∧ xs = [.str b, .int i, .int j] ∧ Q (.int (Txt.rfindIn a b i j)) H) g_rfind4 := fun a ds vs F H E Q s o rs p => by
  unfold g_rfind4 at p
  split at p
  · obtain ⟨e, _⟩ := args_sij rs
    subst e
    exact ⟨_, _, _, _, rfl, rfl, p F H (Ext.refl s) _ (.int _)⟩
  · exact p.elim
theorem g_rfind4_ev (a b : List Nat) (i j : Int) : g_rfind4 a [.str b, .int i, .int j] = .ok (.int (Txt.rfindIn (mk a) (mk b) i j)) := rfl
def g_count (a : List Nat) : List D → R D
  | [.str b] => .ok (.int (Txt.count (mk a) (mk b)))
  | _ => .stuck
theorem sm_count {C : Cg} : SM C (fun x xs H Q => ∃ a b, x = .str a ∧ xs = [.str b] ∧ Q (.int (Txt.count a b)) H) g_count := fun a ds vs F H E Q s o rs p => by
  unfold g_count at p
  split at p
  · obtain ⟨e, _⟩ := args_s rs
    subst e
    exact ⟨_, _, rfl, rfl, p F H (Ext.refl s) _ (.int _)⟩
  · exact p.elim
theorem g_count_ev (a b : List Nat) : g_count a [.str b] = .ok (.int (Txt.count (mk a) (mk b))) := rfl
def g_count3 (a : List Nat) : List D → R D
  | [.str b, .int i] => .ok (.int (Txt.count3 (mk a) (mk b) i))
  | _ => .stuck
theorem sm_count3 {C : Cg} : SM C (fun x xs H Q => ∃ (a b : Str) (i : Int), x = .str a ∧ xs = [.str b, .int i] ∧ Q (.int (Txt.count3 a b i)) H) g_count3 := fun a ds vs F H E Q s o rs p => by
  unfold g_count3 at p
  split at p
  · obtain ⟨e, _⟩ := args_si rs
    subst e
    exact ⟨_, _, _, rfl, rfl, p F H (Ext.refl s) _ (.int _)⟩
  · exact p.elim
theorem g_count3_ev (a b : List Nat) (i : Int) : g_count3 a [.str b, .int i] = .ok (.int (Txt.count3 (mk a) (mk b) i)) := rfl
def g_count4 (a : List Nat) : List D → R D
  | [.str b, .int i, .int j] => .ok (.int (Txt.countIn (mk a) (mk b) i j))
  | _ => .stuck
theorem sm_count4 {C : Cg} : SM C (fun x xs H Q => ∃ (a b : Str) (i j : Int), x = .str a ∧ xs = [.str b, .int i, .int j] ∧ Q (.int (Txt.countIn a b i j)) H) g_count4 := fun a ds vs F H E Q s o rs p => by
  unfold g_count4 at p
  split at p
  · obtain ⟨e, _⟩ := args_sij rs
    subst e
    exact ⟨_, _, _, _, rfl, rfl, p F H (Ext.refl s) _ (.int _)⟩
  · exact p.elim
theorem g_count4_ev (a b : List Nat) (i j : Int) : g_count4 a [.str b, .int i, .int j] = .ok (.int (Txt.countIn (mk a) (mk b) i j)) := rfl
def g_startswith (a : List Nat) : List D → R D
  | [.str b] => .ok (.bl (Txt.startswith (mk a) (mk b)))
  | _ => .stuck
theorem sm_startswith {C : Cg} : SM C (fun x xs H Q => ∃ a b, x = .str a ∧ xs = [.str b] ∧ Q (.bl (Txt.startswith a b)) H) g_startswith := fun a ds vs F H E Q s o rs p => by
  unfold g_startswith at p
  split at p
  · obtain ⟨e, _⟩ := args_s rs
    subst e
    exact ⟨_, _, rfl, rfl, p F H (Ext.refl s) _ (.bl _)⟩
  · exact p.elim
theorem g_startswith_ev (a b : List Nat) : g_startswith a [.str b] = .ok (.bl (Txt.startswith (mk a) (mk b))) := rfl
def g_startswith3 (a : List Nat) : List D → R D
  | [.str b, .int i] => .ok (.bl (Txt.startswith3 (mk a) (mk b) i))
  | _ => .stuck
theorem sm_startswith3 {C : Cg} : SM C (fun x xs H Q => ∃ (a b : Str) (i : Int), x = .str a ∧ xs = [.str b, .int i] ∧ Q (.bl (Txt.startswith3 a b i)) H) g_startswith3 := fun a ds vs F H E Q s o rs p => by
  unfold g_startswith3 at p
  split at p
  · obtain ⟨e, _⟩ := args_si rs
    subst e
    exact ⟨_, _, _, rfl, rfl, p F H (Ext.refl s) _ (.bl _)⟩
  · exact p.elim
theorem g_startswith3_ev (a b : List Nat) (i : Int) : g_startswith3 a [.str b, .int i] = .ok (.bl (Txt.startswith3 (mk a) (mk b) i)) := rfl
def g_endswith (a : List Nat) : List D → R D
  | [.str b] => .ok (.bl (Txt.endswith (mk a) (mk b)))
  | _ => .stuck
theorem sm_endswith {C : Cg} : SM C (fun x xs H Q => ∃ a b, x = .str a ∧ xs = [.str b] ∧ Q (.bl (Txt.endswith a b)) H) g_endswith := fun a ds vs F H E Q s o rs p => by
  unfold g_endswith at p
  split at p
  · obtain ⟨e, _⟩ := args_s rs
    subst e
    exact ⟨_, _, rfl, rfl, p F H (Ext.refl s) _ (.bl _)⟩
  · exact p.elim
theorem g_endswith_ev (a b : List Nat) : g_endswith a [.str b] = .ok (.bl (Txt.endswith (mk a) (mk b))) := rfl
def g_isdigit (a : List Nat) : List D → R D
  | [] => .ok (.bl (Txt.isdigit (mk a)))
  | _ => .stuck
theorem sm_isdigit {C : Cg} : SM C (fun x xs H Q => ∃ a, x = .str a ∧ xs = [] ∧ True ∧ Q (.bl (Txt.isdigit a)) H) g_isdigit := fun a ds vs F H E Q s o rs p => by
  unfold g_isdigit at p
  split at p
  · have e := args_n rs
    subst e
    exact ⟨_, rfl, rfl, trivial, p F H (Ext.refl s) _ (.bl _)⟩
  · exact p.elim
theorem g_isdigit_ev (a : List Nat) : g_isdigit a [] = .ok (.bl (Txt.isdigit (mk a))) := rfl
def g_isalpha (a : List Nat) : List D → R D
  | [] => .ok (.bl (Txt.isalpha (mk a)))
  | _ => .stuck
theorem sm_isalpha {C : Cg} : SM C (fun x xs H Q => ∃ a, x = .str a ∧ xs = [] ∧ True ∧ Q (.bl (Txt.isalpha a)) H) g_isalpha := fun a ds vs F H E Q s o rs p => by
  unfold g_isalpha at p
  split at p
  · have e := args_n rs
    subst e
    exact ⟨_, rfl, rfl, trivial, p F H (Ext.refl s) _ (.bl _)⟩
  · exact p.elim
theorem g_isalpha_ev (a : List Nat) : g_isalpha a [] = .ok (.bl (Txt.isalpha (mk a))) := rfl
def g_isalnum (a : List Nat) : List D → R D
  | [] => .ok (.bl (Txt.isalnum (mk a)))
  | _ => .stuck
theorem sm_isalnum {C : Cg} : SM C (fun x xs H Q => ∃ a, x = .str a ∧ xs = [] ∧ True ∧ Q (.bl (Txt.isalnum a)) H) g_isalnum := fun a ds vs F H E Q s o rs p => by
  unfold g_isalnum at p
  split at p
  · have e := args_n rs
    subst e
    exact ⟨_, rfl, rfl, trivial, p F H (Ext.refl s) _ (.bl _)⟩
  · exact p.elim
theorem g_isalnum_ev (a : List Nat) : g_isalnum a [] = .ok (.bl (Txt.isalnum (mk a))) := rfl
def g_isspace (a : List Nat) : List D → R D
  | [] => .ok (.bl (Txt.isspace (mk a)))
  | _ => .stuck
theorem sm_isspace {C : Cg} : SM C (fun x xs H Q => ∃ a, x = .str a ∧ xs = [] ∧ True ∧ Q (.bl (Txt.isspace a)) H) g_isspace := fun a ds vs F H E Q s o rs p => by
  unfold g_isspace at p
  split at p
  · have e := args_n rs
    subst e
    exact ⟨_, rfl, rfl, trivial, p F H (Ext.refl s) _ (.bl _)⟩
  · exact p.elim
theorem g_isspace_ev (a : List Nat) : g_isspace a [] = .ok (.bl (Txt.isspace (mk a))) := rfl
def g_strip (a : List Nat) : List D → R D
  | [] => if a.length ≤ 16777216 then outS (Txt.strip (mk a)) else .stuck
  | _ => .stuck
theorem sm_strip {C : Cg} : SM C (fun x xs H Q => ∃ a, x = .str a ∧ xs = [] ∧ a.length ≤ sizeLine ∧ Q (.str (Txt.strip a)) H) g_strip := fun a ds vs F H E Q s o rs p => by
  unfold g_strip at p
  split at p
  · split at p
    · rename_i hl
      have e := args_n rs
      subst e
      exact ⟨_, rfl, rfl, by rw [mk_len]; rw [sizeLine_eq]; exact hl, outS_post s p⟩
    · exact p.elim
  · exact p.elim
theorem g_strip_ev (a : List Nat) (h : a.length ≤ 16777216) : g_strip a [] = outS (Txt.strip (mk a)) := if_pos h
def g_lstrip (a : List Nat) : List D → R D
  | [] => if a.length ≤ 16777216 then outS (Txt.lstrip (mk a)) else .stuck
  | _ => .stuck
theorem sm_lstrip {C : Cg} : SM C (fun x xs H Q => ∃ a, x = .str a ∧ xs = [] ∧ a.length ≤ sizeLine ∧ Q (.str (Txt.lstrip a)) H) g_lstrip := fun a ds vs F H E Q s o rs p => by
  unfold g_lstrip at p
  split at p
  · split at p
    · rename_i hl
      have e := args_n rs
      subst e
      exact ⟨_, rfl, rfl, by rw [mk_len]; rw [sizeLine_eq]; exact hl, outS_post s p⟩
    · exact p.elim
  · exact p.elim
theorem g_lstrip_ev (a : List Nat) (h : a.length ≤ 16777216) : g_lstrip a [] = outS (Txt.lstrip (mk a)) := if_pos h
def g_rstrip (a : List Nat) : List D → R D
  | [] => if a.length ≤ 16777216 then outS (Txt.rstrip (mk a)) else .stuck
  | _ => .stuck
theorem sm_rstrip {C : Cg} : SM C (fun x xs H Q => ∃ a, x = .str a ∧ xs = [] ∧ a.length ≤ sizeLine ∧ Q (.str (Txt.rstrip a)) H) g_rstrip := fun a ds vs F H E Q s o rs p => by
  unfold g_rstrip at p
  split at p
  · split at p
    · rename_i hl
      have e := args_n rs
      subst e
      exact ⟨_, rfl, rfl, by rw [mk_len]; rw [sizeLine_eq]; exact hl, outS_post s p⟩
    · exact p.elim
  · exact p.elim
theorem g_rstrip_ev (a : List Nat) (h : a.length ≤ 16777216) : g_rstrip a [] = outS (Txt.rstrip (mk a)) := if_pos h
def g_lower (a : List Nat) : List D → R D
  | [] => if a.length ≤ 5592405 then outS (Txt.lower (mk a)) else .stuck
  | _ => .stuck
theorem sm_lower {C : Cg} : SM C (fun x xs H Q => ∃ a, x = .str a ∧ xs = [] ∧ a.length ≤ 5592405 ∧ Q (.str (Txt.lower a)) H) g_lower := fun a ds vs F H E Q s o rs p => by
  unfold g_lower at p
  split at p
  · split at p
    · rename_i hl
      have e := args_n rs
      subst e
      exact ⟨_, rfl, rfl, by rw [mk_len]; exact hl, outS_post s p⟩
    · exact p.elim
  · exact p.elim
theorem g_lower_ev (a : List Nat) (h : a.length ≤ 5592405) : g_lower a [] = outS (Txt.lower (mk a)) := if_pos h
def g_upper (a : List Nat) : List D → R D
  | [] => if a.length ≤ 5592405 then outS (Txt.upper (mk a)) else .stuck
  | _ => .stuck
theorem sm_upper {C : Cg} : SM C (fun x xs H Q => ∃ a, x = .str a ∧ xs = [] ∧ a.length ≤ 5592405 ∧ Q (.str (Txt.upper a)) H) g_upper := fun a ds vs F H E Q s o rs p => by
  unfold g_upper at p
  split at p
  · split at p
    · rename_i hl
      have e := args_n rs
      subst e
      exact ⟨_, rfl, rfl, by rw [mk_len]; exact hl, outS_post s p⟩
    · exact p.elim
  · exact p.elim
theorem g_upper_ev (a : List Nat) (h : a.length ≤ 5592405) : g_upper a [] = outS (Txt.upper (mk a)) := if_pos h
def g_stripChars (a : List Nat) : List D → R D
  | [.str b] => if a.length ≤ 16777216 then outS (Txt.stripChars (mk a) (mk b)) else .stuck
  | _ => .stuck
theorem sm_stripChars {C : Cg} : SM C (fun x xs H Q => ∃ a b, x = .str a ∧ xs = [.str b] ∧ a.length ≤ sizeLine ∧ Q (.str (Txt.stripChars a b)) H) g_stripChars := fun a ds vs F H E Q s o rs p => by
  unfold g_stripChars at p
  split at p
  · split at p
    · rename_i hl
      obtain ⟨e, _⟩ := args_s rs
      subst e
      exact ⟨_, _, rfl, rfl, by rw [mk_len, sizeLine_eq]; exact hl, outS_post s p⟩
    · exact p.elim
  · exact p.elim
theorem g_stripChars_ev (a b : List Nat) (h : a.length ≤ 16777216) : g_stripChars a [.str b] = outS (Txt.stripChars (mk a) (mk b)) := if_pos h
def g_lstripChars (a : List Nat) : List D → R D
  | [.str b] => if a.length ≤ 16777216 then outS (Txt.lstripChars (mk a) (mk b)) else .stuck
  | _ => .stuck
theorem sm_lstripChars {C : Cg} : SM C (fun x xs H Q => ∃ a b, x = .str a ∧ xs = [.str b] ∧ a.length ≤ sizeLine ∧ Q (.str (Txt.lstripChars a b)) H) g_lstripChars := fun a ds vs F H E Q s o rs p => by
  unfold g_lstripChars at p
  split at p
  · split at p
    · rename_i hl
      obtain ⟨e, _⟩ := args_s rs
      subst e
      exact ⟨_, _, rfl, rfl, by rw [mk_len, sizeLine_eq]; exact hl, outS_post s p⟩
    · exact p.elim
  · exact p.elim
theorem g_lstripChars_ev (a b : List Nat) (h : a.length ≤ 16777216) : g_lstripChars a [.str b] = outS (Txt.lstripChars (mk a) (mk b)) := if_pos h
def g_rstripChars (a : List Nat) : List D → R D
  | [.str b] => if a.length ≤ 16777216 then outS (Txt.rstripChars (mk a) (mk b)) else .stuck
  | _ => .stuck
theorem sm_rstripChars {C : Cg} : SM C (fun x xs H Q => ∃ a b, x = .str a ∧ xs = [.str b] ∧ a.length ≤ sizeLine ∧ Q (.str (Txt.rstripChars a b)) H) g_rstripChars := fun a ds vs F H E Q s o rs p => by
  unfold g_rstripChars at p
  split at p
  · split at p
    · rename_i hl
      obtain ⟨e, _⟩ := args_s rs
      subst e
      exact ⟨_, _, rfl, rfl, by rw [mk_len, sizeLine_eq]; exact hl, outS_post s p⟩
    · exact p.elim
  · exact p.elim
theorem g_rstripChars_ev (a b : List Nat) (h : a.length ≤ 16777216) : g_rstripChars a [.str b] = outS (Txt.rstripChars (mk a) (mk b)) := if_pos h
def g_removeprefix (a : List Nat) : List D → R D
  | [.str b] => if a.length ≤ 16777216 then outS (Txt.removeprefix (mk a) (mk b)) else .stuck
  | _ => .stuck
theorem sm_removeprefix {C : Cg} : SM C (fun x xs H Q => ∃ a b, x = .str a ∧ xs = [.str b] ∧ a.length ≤ sizeLine ∧ Q (.str (Txt.removeprefix a b)) H) g_removeprefix := fun a ds vs F H E Q s o rs p => by
  unfold g_removeprefix at p
  split at p
  · split at p
    · rename_i hl
      obtain ⟨e, _⟩ := args_s rs
      subst e
      exact ⟨_, _, rfl, rfl, by rw [mk_len, sizeLine_eq]; exact hl, outS_post s p⟩
    · exact p.elim
  · exact p.elim
theorem g_removeprefix_ev (a b : List Nat) (h : a.length ≤ 16777216) : g_removeprefix a [.str b] = outS (Txt.removeprefix (mk a) (mk b)) := if_pos h
def g_removesuffix (a : List Nat) : List D → R D
  | [.str b] => if a.length ≤ 16777216 then outS (Txt.removesuffix (mk a) (mk b)) else .stuck
  | _ => .stuck
theorem sm_removesuffix {C : Cg} : SM C (fun x xs H Q => ∃ a b, x = .str a ∧ xs = [.str b] ∧ a.length ≤ sizeLine ∧ Q (.str (Txt.removesuffix a b)) H) g_removesuffix := fun a ds vs F H E Q s o rs p => by
  unfold g_removesuffix at p
  split at p
  · split at p
    · rename_i hl
      obtain ⟨e, _⟩ := args_s rs
      subst e
      exact ⟨_, _, rfl, rfl, by rw [mk_len, sizeLine_eq]; exact hl, outS_post s p⟩
    · exact p.elim
  · exact p.elim
theorem g_removesuffix_ev (a b : List Nat) (h : a.length ≤ 16777216) : g_removesuffix a [.str b] = outS (Txt.removesuffix (mk a) (mk b)) := if_pos h
/-! ### join -/
def strsOf : List D → Option (List (List Nat))
  | [] => some []
  | .str s :: ds => (strsOf ds).map (s :: ·)
  | _ :: _ => none
def sumLen (xs : List (List Nat)) : Nat := (xs.map List.length).sum
def g_join (a : List Nat) : List D → R D
  | [.lst ds] => (match strsOf ds with
      | some xs => if sumLen xs + xs.length * a.length ≤ 16777216 then .ok (.str (TL.joinL a xs)) else .stuck
      | none => .stuck)
  | [.tup ds] => (match strsOf ds with
      | some xs => if sumLen xs + xs.length * a.length ≤ 16777216 then .ok (.str (TL.joinL a xs)) else .stuck
      | none => .stuck)
  | _ => .stuck
theorem strsOf_map (xs : List (List Nat)) : strsOf (xs.map D.str) = some xs := by
  induction xs with
  | nil => rfl
  | cons x xs ih =>
    show (strsOf (xs.map D.str)).map (x :: ·) = _
    rw [ih]; rfl
theorem strs_reps {K : PySem.W.Frag} {mg : Str → Option Value} {F : Hp} : ∀ {ds : List D} {vs : List V} {xs : List (List Nat)}, Reps K mg F ds vs → strsOf ds = some xs → vs = (xs.map mk).map V.str ∧ ∀ x ∈ xs, okS x
  | _, _, _, .nil, h => by cases h; exact ⟨rfl, fun x hx => by cases hx⟩
  | _, _, _, .cons r rs, h => by
    cases r with
    | str s o =>
      obtain ⟨ys, h1, h2⟩ := Option.map_eq_some_iff.mp (show (strsOf _).map (s :: ·) = some _ from h)
      obtain ⟨e, q⟩ := strs_reps rs h1
      subst h2
      exact ⟨by rw [e]; rfl, fun x hx => by
        rcases List.mem_cons.mp hx with h | h
        · subst h; exact o
        · exact q x h⟩
    | _ => cases h
theorem joinL_mem {S : List Nat} {c : Nat} : ∀ {xs : List (List Nat)}, c ∈ TL.joinL S xs → c ∈ S ∨ ∃ x ∈ xs, c ∈ x
  | [], h => by cases h
  | [x], h => .inr ⟨x, List.mem_singleton.mpr rfl, h⟩
  | x :: y :: r, h => by
    have h' : c ∈ x ++ (S ++ TL.joinL S (y :: r)) := by simpa [TL.joinL] using h
    rcases List.mem_append.mp h' with h1 | h1
    · exact .inr ⟨x, List.mem_cons_self .., h1⟩
    · rcases List.mem_append.mp h1 with h2 | h2
      · exact .inl h2
      · rcases joinL_mem h2 with h3 | ⟨z, h3, h4⟩
        · exact .inl h3
        · exact .inr ⟨z, List.mem_cons_of_mem _ h3, h4⟩
theorem okS_joinL {S : List Nat} (o : okS S) {xs : List (List Nat)} (h : ∀ x ∈ xs, okS x) : okS (TL.joinL S xs) := fun c hc => by
  rcases joinL_mem hc with h1 | ⟨x, h1, h2⟩
  · exact o c h1
  · exact h x h1 c h2
theorem join_mk (a : List Nat) (xs : List (List Nat)) : Txt.join (mk a) (xs.map mk) = mk (TL.joinL a xs) := by
  rw [TL.join_eq]
  have h := TL.tl_join (mk a) (xs.map mk)
  have e1 : TL.tl (mk a) = a := mk_list a
  have e2 : (xs.map mk).map TL.tl = xs := by
    rw [List.map_map]
    have : ∀ x ∈ xs, (TL.tl ∘ mk) x = id x := fun x _ => mk_list x
    rw [List.map_congr_left this, List.map_id]
  rw [e1, e2] at h
  rw [← mk_of (Str.join (mk a) (xs.map mk))]
  exact congrArg mk h
theorem sum_mk (xs : List (List Nat)) : ((xs.map mk).map (·.length)).sum = sumLen xs := by
  unfold sumLen
  rw [List.map_map]
  congr 1
theorem sm_join {C : Cg} : SM C (fun x xs H Q => ∃ a p, ∃ ys : List Str, x = .str a ∧ xs = [.ref p] ∧ (SqL C.K H p (ys.map V.str) ∨ SqT C.K H p (ys.map V.str)) ∧
    (ys.map (·.length)).sum + ys.length * a.length ≤ 16777216 ∧ Q (.str (Txt.join a ys)) H) g_join := fun a ds vs F H E Q s o rs p => by
  unfold g_join at p
  split at p
  · split at p
    · rename_i xs hx
      split at p
      · rename_i hz
        cases rs with
        | cons r rs =>
          cases rs
          obtain ⟨q, vs, rfl, h1, q1⟩ := r.lst s
          obtain ⟨e, q2⟩ := strs_reps q1 hx
          subst e
          refine ⟨_, q, xs.map mk, rfl, rfl, .inl (.inl (.inl h1)), by rw [sum_mk, List.length_map, mk_len]; exact hz, ?_⟩
          rw [join_mk]
          exact p F H (Ext.refl s) _ (.str _ (okS_joinL o q2))
      · exact p.elim
    · exact p.elim
  · split at p
    · rename_i xs hx
      split at p
      · rename_i hz
        cases rs with
        | cons r rs =>
          cases rs
          obtain ⟨q, vs, rfl, h1, q1⟩ := r.tup s
          obtain ⟨e, q2⟩ := strs_reps q1 hx
          subst e
          refine ⟨_, q, xs.map mk, rfl, rfl, .inr h1, by rw [sum_mk, List.length_map, mk_len]; exact hz, ?_⟩
          rw [join_mk]
          exact p F H (Ext.refl s) _ (.str _ (okS_joinL o q2))
      · exact p.elim
    · exact p.elim
  · exact p.elim
theorem g_join_ev (a : List Nat) (xs : List (List Nat)) (h : sumLen xs + xs.length * a.length ≤ 16777216) : g_join a [.lst (xs.map D.str)] = .ok (.str (TL.joinL a xs)) := by
  show (match strsOf (xs.map D.str) with | some xs => if sumLen xs + xs.length * a.length ≤ 16777216 then R.ok (D.str (TL.joinL a xs)) else .stuck | none => .stuck) = _
  rw [strsOf_map]
  exact if_pos h
theorem joinL_nil : ∀ xs : List (List Nat), TL.joinL [] xs = xs.flatten
  | [] => rfl
  | [x] => by simp [TL.joinL]
  | x :: y :: r => by
    show x ++ ([] ++ TL.joinL [] (y :: r)) = _
    rw [joinL_nil (y :: r)]; simp
/-! ### split -/
def outL : List Str → R (List D)
  | [] => .ok []
  | s :: r => outS s >>= fun d => outL r >>= fun ds => .ok (d :: ds)
def g_split (a : List Nat) : List D → R (List D)
  | [.str b] => if b ≠ [] ∧ a.length + 2 ≤ 16777216 then outL (Txt.split (mk a) (mk b)) else .stuck
  | _ => .stuck
theorem outL_ok : ∀ {ss : List Str} {ds : List D}, outL ss = .ok ds → ∀ (K : PySem.W.Frag) (mg : Str → Option Value) (F : Hp), Reps K mg F ds (ss.map V.str)
  | [], _, h, _, _, _ => by cases h; exact .nil
  | s :: r, ds, h, K, mg, F => by
    have h' : (outS s >>= fun d => outL r >>= fun ds => R.ok (d :: ds)) = .ok ds := h
    unfold outS at h'
    split at h'
    · rename_i ho
      have h2 : (outL r >>= fun ds => R.ok (D.str s.cps.toList :: ds)) = .ok ds := h'
      cases e : outL r with
      | ok es =>
        rw [e] at h2
        cases h2
        have q := Rep.str (K := K) (mg := mg) (F := F) _ (okS_of ho)
        rw [mk_of] at q
        exact .cons q (outL_ok e K mg F)
      | exc n d => rw [e] at h2; cases h2
      | stuck => rw [e] at h2; cases h2
    · cases h'
theorem outL_noX : ∀ ss : List Str, (∃ ds, outL ss = .ok ds) ∨ outL ss = .stuck
  | [] => .inl ⟨_, rfl⟩
  | s :: r => by
    show (∃ ds, (outS s >>= fun d => outL r >>= fun ds => R.ok (d :: ds)) = .ok ds) ∨ (outS s >>= fun d => outL r >>= fun ds => R.ok (d :: ds)) = .stuck
    unfold outS
    split
    · rcases outL_noX r with ⟨ds, e⟩ | e
      · rw [e]; exact .inl ⟨_, rfl⟩
      · rw [e]; exact .inr rfl
    · exact .inr rfl
theorem sm_split {C : Cg} : SML C (fun x xs H Q => ∃ a b, x = .str a ∧ xs = [.str b] ∧ (b.length == 0) = false ∧ a.length + 2 ≤ sizeLine ∧ rNewStrs (Txt.split a b) H Q) g_split := fun a ds vs F H E Q s o rs p => by
  unfold g_split at p
  split at p
  · split at p
    · rename_i b hb
      obtain ⟨e, _⟩ := args_s rs
      subst e
      refine ⟨_, _, rfl, rfl, ?_, by rw [mk_len, sizeLine_eq]; exact hb.2, fun q nq => ?_⟩
      · rw [mk_len]
        exact beq_eq_false_iff_ne.mpr fun z => hb.1 (List.length_eq_zero_iff.mp z)
      · rcases outL_noX (Txt.split (mk a) (mk b)) with ⟨ds, e⟩ | e
        · rw [e] at p
          exact p F _ (Ext.raw s nq) q _ nq upd_same (sub_none s nq) (outL_ok e _ _ _)
        · rw [e] at p; exact p.elim
    · exact p.elim
  · exact p.elim
/-! ### replace -/

end FL

set_option Elab.async false
set_option linter.all false
set_option maxRecDepth 100000
set_option maxHeartbeats 2000000
/-! FL, part 12: more built-ins; raise. -/
namespace FL
open PySem PySem.Spec PyProof.Rows L2
set_option autoImplicit false
/-! ### int(..) of an int, a truth, a text; str(int); ord -/
def gInt : List D → R D
  | [.int i] => .ok (.int i)
  | [.bl k] => .ok (.int (if k then 1 else 0))
  | [.str a] => (match PySem.intText? (mk a) with
      | some n => if a.length ≤ 640 then .ok (.int n) else .stuck
      | none => .stuck)
  | _ => .stuck
def rIntA : List V → Hp → VK → Prop := fun xs H Q => ((∃ i, xs = [.int i] ∧ Q (.int i) H) ∨ ∃ k, xs = [.bl k] ∧ Q (.int (if k then 1 else 0)) H) ∨ (∃ a n, xs = [.str a] ∧ PySem.intText? a = some n ∧ a.length ≤ 640 ∧ Q (.int n) H)
theorem call_intA {X : Cx} : CallR X (.type "int") rIntA := call_int1.or call_int_str
section
variable {C : Cg} {F H : Hp} {vs : List V}
theorem one_bl {k : Bool} (rs : RepRs C F H [.bl k] vs) : vs = [.bl k] := by
  cases rs with
  | cons r rs => cases rs; rw [r.bl]
theorem cs_int : CallS C rIntA gInt := fun ds vs F H E Q s rs p => by
  unfold gInt at p
  split at p
  · exact .inl (.inl ⟨_, one_int rs, p F H (Ext.refl s) _ (.int _)⟩)
  · exact .inl (.inr ⟨_, one_bl rs, p F H (Ext.refl s) _ (.int _)⟩)
  · split at p
    · split at p
      · rename_i hn hl
        obtain ⟨e, _⟩ := args_s rs
        exact .inr ⟨_, _, e, hn, by rw [mk_len]; exact hl, p F H (Ext.refl s) _ (.int _)⟩
      · exact p.elim
    · exact p.elim
  · exact p.elim
def gStr : List D → R D
  | [.int i] => if i.natAbs.log2 < 1920 then outS (Str.ofString (toString i)) else .stuck
  | _ => .stuck
theorem cs_strI : CallS C (fun xs H Q => ∃ i : Int, xs = [.int i] ∧ i.natAbs.log2 < 1920 ∧ Q (.str (Str.ofString (toString i))) H) gStr := fun ds vs F H E Q s rs p => by
  unfold gStr at p
  split at p
  · split at p
    · rename_i hl
      exact ⟨_, one_int rs, hl, outS_post s p⟩
    · exact p.elim
  · exact p.elim
def gOrd : List D → R D
  | [.str [c]] => .ok (.int (c : Nat))
  | _ => .stuck
theorem cs_ord : CallS C (fun xs H Q => ∃ x : Str, xs = [.str x] ∧ x.length = 1 ∧ Q (.int (x.cps.getD 0 0 : Nat)) H) gOrd := fun ds vs F H E Q s rs p => by
  unfold gOrd at p
  split at p
  · rename_i c
    obtain ⟨e, _⟩ := args_s rs
    exact ⟨_, e, rfl, p F H (Ext.refl s) _ (.int _)⟩
  · exact p.elim
end
theorem lt_str' (a b : List Nat) : D.lt (.str a) (.str b) = .ok (.bl (decide (a < b))) := rfl
theorem le_str' (a b : List Nat) : D.le (.str a) (.str b) = .ok (.bl (!decide (b < a))) := rfl
theorem gt_str' (a b : List Nat) : D.gt (.str a) (.str b) = .ok (.bl (decide (b < a))) := rfl
theorem ge_str' (a b : List Nat) : D.ge (.str a) (.str b) = .ok (.bl (!decide (a < b))) := rfl
theorem int_int (i : Int) : gInt [.int i] = .ok (.int i) := rfl
theorem int_bl (k : Bool) : gInt [.bl k] = .ok (.int (if k = true then 1 else 0)) := rfl
theorem ord_one (c : Nat) : gOrd [.str [c]] = .ok (.int c) := rfl
/-! ### sum, all, any, max, min of a list -/
def intsOf : List D → Option (List Int)
  | [] => some []
  | .int i :: ds => (intsOf ds).map (i :: ·)
  | _ :: _ => none
def blsOf : List D → Option (List Bool)
  | [] => some []
  | .bl i :: ds => (blsOf ds).map (i :: ·)
  | _ :: _ => none
theorem intsOf_map (xs : List Int) : intsOf (xs.map D.int) = some xs := by
  induction xs with
  | nil => rfl
  | cons x xs ih =>
    show (intsOf (xs.map D.int)).map (x :: ·) = _
    rw [ih]; rfl
theorem blsOf_map (xs : List Bool) : blsOf (xs.map D.bl) = some xs := by
  induction xs with
  | nil => rfl
  | cons x xs ih =>
    show (blsOf (xs.map D.bl)).map (x :: ·) = _
    rw [ih]; rfl
theorem ints_reps {K : PySem.W.Frag} {mg : Str → Option Value} {F : Hp} : ∀ {ds : List D} {vs : List V} {xs : List Int}, Reps K mg F ds vs → intsOf ds = some xs → vs = xs.map V.int
  | _, _, _, .nil, h => by cases h; rfl
  | _, _, _, .cons r rs, h => by
    cases r with
    | int s =>
      obtain ⟨ys, h1, h2⟩ := Option.map_eq_some_iff.mp (show (intsOf _).map (s :: ·) = some _ from h)
      rw [ints_reps rs h1, ← h2]; rfl
    | _ => cases h
theorem bls_reps {K : PySem.W.Frag} {mg : Str → Option Value} {F : Hp} : ∀ {ds : List D} {vs : List V} {xs : List Bool}, Reps K mg F ds vs → blsOf ds = some xs → vs = xs.map V.bl
  | _, _, _, .nil, h => by cases h; rfl
  | _, _, _, .cons r rs, h => by
    cases r with
    | bl s =>
      obtain ⟨ys, h1, h2⟩ := Option.map_eq_some_iff.mp (show (blsOf _).map (s :: ·) = some _ from h)
      rw [bls_reps rs h1, ← h2]; rfl
    | _ => cases h
def onInts (k : List Int → R D) : List D → R D
  | [.lst ds] => (match intsOf ds with
      | some ns => k ns
      | none => .stuck)
  | _ => .stuck
def onBls (k : List Bool → R D) : List D → R D
  | [.lst ds] => (match blsOf ds with
      | some ns => k ns
      | none => .stuck)
  | _ => .stuck
theorem onInts_map (k : List Int → R D) (xs : List Int) : onInts k [.lst (xs.map D.int)] = k xs := by
  show (match intsOf (xs.map D.int) with | some ns => k ns | none => .stuck) = _
  rw [intsOf_map]
theorem onBls_map (k : List Bool → R D) (xs : List Bool) : onBls k [.lst (xs.map D.bl)] = k xs := by
  show (match blsOf (xs.map D.bl) with | some ns => k ns | none => .stuck) = _
  rw [blsOf_map]
def gSum : List D → R D := onInts fun ns => .ok (.int ns.sum)
def gAll : List D → R D := onBls fun bs => .ok (.bl (bs.all id))
def gAny : List D → R D := onBls fun bs => .ok (.bl (bs.any id))
def maxL : List Int → Int
  | [] => 0
  | [a] => a
  | a :: b :: r => max a (maxL (b :: r))
def minL : List Int → Int
  | [] => 0
  | [a] => a
  | a :: b :: r => min a (minL (b :: r))
theorem maxL_mem : ∀ {ns : List Int}, ns ≠ [] → maxL ns ∈ ns ∧ ∀ y ∈ ns, y ≤ maxL ns
  | [], h => absurd rfl h
  | [a], _ => ⟨List.mem_singleton.mpr rfl, fun y hy => by rw [List.mem_singleton.mp hy]; exact Int.le_refl _⟩
  | a :: b :: r, _ => by
    obtain ⟨h1, h2⟩ := maxL_mem (ns := b :: r) (by simp)
    show max a (maxL (b :: r)) ∈ _ ∧ ∀ y ∈ _, y ≤ max a (maxL (b :: r))
    constructor
    · by_cases h : a ≤ maxL (b :: r)
      · rw [Int.max_eq_right h]; exact List.mem_cons_of_mem _ h1
      · rw [Int.max_eq_left (by omega)]; exact List.mem_cons_self ..
    · intro y hy
      rcases List.mem_cons.mp hy with h | h
      · subst h; exact Int.le_max_left _ _
      · exact Int.le_trans (h2 y h) (Int.le_max_right _ _)
theorem minL_mem : ∀ {ns : List Int}, ns ≠ [] → minL ns ∈ ns ∧ ∀ y ∈ ns, minL ns ≤ y
  | [], h => absurd rfl h
  | [a], _ => ⟨List.mem_singleton.mpr rfl, fun y hy => by rw [List.mem_singleton.mp hy]; exact Int.le_refl _⟩
  | a :: b :: r, _ => by
    obtain ⟨h1, h2⟩ := minL_mem (ns := b :: r) (by simp)
    show min a (minL (b :: r)) ∈ _ ∧ ∀ y ∈ _, min a (minL (b :: r)) ≤ y
    constructor
    · by_cases h : minL (b :: r) ≤ a
      · rw [Int.min_eq_right h]; exact List.mem_cons_of_mem _ h1
      · rw [Int.min_eq_left (by omega)]; exact List.mem_cons_self ..
    · intro y hy
      rcases List.mem_cons.mp hy with h | h
      · subst h; exact Int.min_le_left _ _
      · exact Int.le_trans (Int.min_le_right _ _) (h2 y h)
def gMaxL : List D → R D := onInts fun ns => if ns ≠ [] then .ok (.int (maxL ns)) else .stuck
def gMinL : List D → R D := onInts fun ns => if ns ≠ [] then .ok (.int (minL ns)) else .stuck
section
variable {C : Cg}
theorem onInts_rd {k : List Int → R D} {ds : List D} {vs : List V} {F H : Hp} {E : XK} {Q : VK} (s : Same F H) (rs : RepRs C F H ds vs) (p : Post C E F H (onInts k ds) (kV C Q)) : ∃ a ns, vs = [V.ref a] ∧ SqL C.K H a (ns.map V.int) ∧ Post C E F H (k ns) (kV C Q) := by
  unfold onInts at p
  split at p
  · split at p
    · rename_i ns hn
      cases rs with
      | cons r rs =>
        cases rs
        obtain ⟨q, xs, rfl, h1, q1⟩ := r.lst s
        have e := ints_reps q1 hn
        subst e
        exact ⟨q, ns, rfl, .inl (.inl h1), p⟩
    · exact p.elim
  · exact p.elim
theorem onBls_rd {k : List Bool → R D} {ds : List D} {vs : List V} {F H : Hp} {E : XK} {Q : VK} (s : Same F H) (rs : RepRs C F H ds vs) (p : Post C E F H (onBls k ds) (kV C Q)) : ∃ a ns, vs = [V.ref a] ∧ SqL C.K H a (ns.map V.bl) ∧ Post C E F H (k ns) (kV C Q) := by
  unfold onBls at p
  split at p
  · split at p
    · rename_i ns hn
      cases rs with
      | cons r rs =>
        cases rs
        obtain ⟨q, xs, rfl, h1, q1⟩ := r.lst s
        have e := bls_reps q1 hn
        subst e
        exact ⟨q, ns, rfl, .inl (.inl h1), p⟩
    · exact p.elim
  · exact p.elim
theorem cs_sum : CallS C (rSum C.K) gSum := fun ds vs F H E Q s rs p => by
  obtain ⟨a, ns, e, h, q⟩ := onInts_rd s rs p
  exact ⟨a, ns, e, h, q F H (Ext.refl s) _ (.int _)⟩
theorem cs_all : CallS C (rAll C.K) gAll := fun ds vs F H E Q s rs p => by
  obtain ⟨a, ns, e, h, q⟩ := onBls_rd s rs p
  exact ⟨a, ns, e, h, q F H (Ext.refl s) _ (.bl _)⟩
theorem cs_any : CallS C (rAny C.K) gAny := fun ds vs F H E Q s rs p => by
  obtain ⟨a, ns, e, h, q⟩ := onBls_rd s rs p
  exact ⟨a, ns, e, h, q F H (Ext.refl s) _ (.bl _)⟩
theorem cs_maxL : CallS C (rMax C.K) gMaxL := fun ds vs F H E Q s rs p => by
  obtain ⟨a, ns, e, h, q⟩ := onInts_rd s rs p
  split at q
  · rename_i hn
    refine ⟨a, ns, e, h, List.length_pos_iff.mpr hn, fun m h1 h2 => ?_⟩
    obtain ⟨g1, g2⟩ := maxL_mem hn
    have e2 : m = maxL ns := Int.le_antisymm (g2 m h1) (h2 _ g1)
    rw [e2]
    exact q F H (Ext.refl s) _ (.int _)
  · exact q.elim
theorem cs_minL : CallS C (rMin C.K) gMinL := fun ds vs F H E Q s rs p => by
  obtain ⟨a, ns, e, h, q⟩ := onInts_rd s rs p
  split at q
  · rename_i hn
    refine ⟨a, ns, e, h, List.length_pos_iff.mpr hn, fun m h1 h2 => ?_⟩
    obtain ⟨g1, g2⟩ := minL_mem hn
    have e2 : m = minL ns := Int.le_antisymm (h2 _ g1) (g2 m h1)
    rw [e2]
    exact q F H (Ext.refl s) _ (.int _)
  · exact q.elim
end
theorem sum_ints (xs : List Int) : gSum [.lst (xs.map D.int)] = .ok (.int xs.sum) := onInts_map _ _
theorem all_bls (xs : List Bool) : gAll [.lst (xs.map D.bl)] = .ok (.bl (xs.all id)) := onBls_map _ _
theorem any_bls (xs : List Bool) : gAny [.lst (xs.map D.bl)] = .ok (.bl (xs.any id)) := onBls_map _ _
theorem maxL_ints (xs : List Int) (h : xs ≠ []) : gMaxL [.lst (xs.map D.int)] = .ok (.int (maxL xs)) := (onInts_map _ _).trans (if_pos h)
theorem minL_ints (xs : List Int) (h : xs ≠ []) : gMinL [.lst (xs.map D.int)] = .ok (.int (minL xs)) := (onInts_map _ _).trans (if_pos h)
/-! ### list(..), sorted(..): new lists -/
def CallSL (C : Cg) (r : List V → Hp → VK → Prop) (g : List D → R (List D)) : Prop := ∀ (ds : List D) (vs : List V) (F H : Hp) (E : XK) (Q : VK), Same F H → RepRs C F H ds vs → Post C E F H (g ds) (kL C H Q) → r vs H Q
section
variable {X : Cx} {C : Cg} {x : Str} {id T : String} {p pos : Pos} {e : Expr} {es : List Expr} {t : TA} {m : Env → R (List D)} {r : List V → Hp → VK → Prop} {g : List D → R (List D)}
theorem cb_rdL (hs : CallSL C r g) (ha : FB X C es t m) : ∀ Γ σ F H Q, EnvOk C Γ σ F H → Post C (WE C.W σ) F H (mCall g m Γ) (kL C H Q) → tCB r t σ H Q := fun Γ σ F H Q en q =>
  ha.rd Γ σ F H _ en (Post.bind q fun ds F1 H1 x1 p1 vs rs => hs ds vs F1 H1 (WE C.W σ) Q x1.sub rs (p1.imp fun ds F2 H2 x2 q2 => kL_step x1.sH q2))
theorem fl_callB (hc : CallR X (.builtin id) r) (hs : CallSL C r g) (hg : Gl X x) (hm : X.mg x = none) (hv : bootBuiltins x = some (.builtin id)) (ha : FB X C (e :: es) t m) (hn : x ≠ "__name__" := by decide) (hdb : (x == ("__debug__" : Str)) = false := by decide)
    (he : starEach (e :: es) X.env = (false, eval e X.env) :: starEach es X.env := by rfl) (hpl : (backTo pos (starEach es X.env)).any (·.1) = false := by rfl) : FL X C (.Call (.Name x p) (e :: es) [] pos) (tCB r t) (mCall g m) :=
  ⟨pe_callB hc hg hm hv ha.pa hn hdb he hpl, cb_rdL hs ha⟩
theorem fl_callTy (hc : CallR X (.type T) r) (hs : CallSL C r g) (hg : Gl X x) (hm : X.mg x = none) (hv : bootBuiltins x = some (.type T)) (ha : FB X C (e :: es) t m) (hn : x ≠ "__name__" := by decide) (hdb : (x == ("__debug__" : Str)) = false := by decide)
    (he : starEach (e :: es) X.env = (false, eval e X.env) :: starEach es X.env := by rfl) (hpl : (backTo pos (starEach es X.env)).any (·.1) = false := by rfl) : FL X C (.Call (.Name x p) (e :: es) [] pos) (tCB r t) (mCall g m) :=
  ⟨pe_callTy hc hg hm hv ha.pa hn hdb he hpl, cb_rdL hs ha⟩
def gList : List D → R (List D)
  | [.lst ds] => .ok ds
  | [.tup ds] => .ok ds
  | [.scr ns] => .ok (ns.map .int)
  | _ => .stuck
theorem cs_list : CallSL C (fun xs H Q => ∃ p ys, xs = [.ref p] ∧ (SqL C.K H p ys ∨ SqT C.K H p ys) ∧ ∀ l, H l = none → Q (.ref l) (upd H l (.lst ys))) gList := fun ds vs F H E Q s rs p => by
  unfold gList at p
  split at p
  · cases rs with
    | cons r rs =>
      cases rs
      obtain ⟨q, xs, rfl, h1, q1⟩ := r.lst s
      exact ⟨q, xs, rfl, .inl (.inl (.inl h1)), fun z nz => p F _ (Ext.raw s nz) z _ nz upd_same (sub_none s nz) q1⟩
  · cases rs with
    | cons r rs =>
      cases rs
      obtain ⟨q, xs, rfl, h1, q1⟩ := r.tup s
      exact ⟨q, xs, rfl, .inr h1, fun z nz => p F _ (Ext.raw s nz) z _ nz upd_same (sub_none s nz) q1⟩
  · cases rs with
    | cons r rs =>
      cases rs
      obtain ⟨q, rfl, h1⟩ := r.scr s
      exact ⟨q, _, rfl, .inl h1, fun z nz => p F _ (Ext.raw s nz) z _ nz upd_same (sub_none s nz) reps_ints⟩
  · exact p.elim
theorem list_lst (ds : List D) : gList [.lst ds] = .ok ds := rfl
theorem list_tup (ds : List D) : gList [.tup ds] = .ok ds := rfl
theorem list_scr (ns : List Int) : gList [.scr ns] = .ok (ns.map .int) := rfl
/-- ints in order -/
def srtI (ns : List Int) : List Int := ns.mergeSort (fun a b => decide (a ≤ b))
theorem srtI_perm (ns : List Int) : (srtI ns).Perm ns := List.mergeSort_perm ns _
theorem srtI_le (ns : List Int) : (srtI ns).Pairwise (· ≤ ·) := by
  have h := List.pairwise_mergeSort (le := fun a b : Int => decide (a ≤ b)) (fun a b c h1 h2 => by simp at h1 h2 ⊢; omega) (fun a b => by simp; omega) ns
  exact h.imp fun h => of_decide_eq_true h
theorem perm_srt {xs ys : List Int} (h : xs.Perm ys) (hx : xs.Pairwise (· ≤ ·)) (hy : ys.Pairwise (· ≤ ·)) : xs = ys :=
  h.eq_of_pairwise (le := (· ≤ ·)) (fun a b _ _ h1 h2 => Int.le_antisymm h1 h2) hx hy
def gSorted : List D → R (List D)
  | [.lst ds] => (match intsOf ds with
      | some ns => .ok ((srtI ns).map .int)
      | none => .stuck)
  | _ => .stuck
theorem cs_sorted : CallSL C (rSortedI C.K) gSorted := fun ds vs F H E Q s rs p => by
  unfold gSorted at p
  split at p
  · split at p
    · rename_i ns hn
      cases rs with
      | cons r rs =>
        cases rs
        obtain ⟨q, xs, rfl, h1, q1⟩ := r.lst s
        have e := ints_reps q1 hn
        subst e
        refine ⟨q, ns, rfl, .inl (.inl h1), fun ns' z h2 h3 nz => ?_⟩
        have e : ns' = srtI ns := perm_srt (h2.trans (srtI_perm ns).symm) h3 (srtI_le ns)
        rw [e]
        exact p F _ (Ext.raw s nz) z _ nz upd_same (sub_none s nz) reps_ints
    · exact p.elim
  · exact p.elim
theorem sorted_ints' (xs : List Int) : gSorted [.lst (xs.map D.int)] = .ok ((srtI xs).map .int) := by
  show (match intsOf (xs.map D.int) with | some ns => R.ok ((srtI ns).map D.int) | none => .stuck) = _
  rw [intsOf_map]
end
/-! ### list(range(..)) -/
theorem rgV_rng (a b : Int) : rgV a b = ((List.range (b - a).toNat).map fun (i : Nat) => a + (i : Int)).map V.int := by
  unfold rgV
  rw [List.map_map]
  rfl
theorem rngL_one (a : Int) (n : Nat) : rngL a 1 n = ((List.range n).map fun (i : Nat) => a + (i : Int)).map D.int := by
  unfold rngL
  rw [List.map_map]
  exact List.map_congr_left fun i _ => by show D.int _ = D.int _; rw [Int.mul_one]
theorem reps_rg {K : PySem.W.Frag} {mg : Str → Option Value} {F : Hp} (a b : Int) : Reps K mg F (rngL a 1 (b - a).toNat) (rgV a b) := by
  rw [rgV_rng, rngL_one]
  generalize (List.range (b - a).toNat).map (fun (i : Nat) => a + (i : Int)) = ns
  induction ns with
  | nil => exact .nil
  | cons n ns ih => exact .cons (.int n) ih
def mLRg1 (m : Env → R D) : Env → R (List D) := fun Γ => m Γ >>= fun x => match x with
  | .int n => if -16777216 ≤ n ∧ n ≤ 16777216 then .ok (rngL 0 1 n.toNat) else .stuck
  | _ => .stuck
def mLRg2 (m m' : Env → R D) : Env → R (List D) := fun Γ => m Γ >>= fun x => m' Γ >>= fun y => match x, y with
  | .int a, .int b => if 0 ≤ a ∧ a ≤ 16777216 ∧ -16777216 ≤ b ∧ b ≤ 16777216 then .ok (rngL a 1 (b - a).toNat) else .stuck
  | _, _ => .stuck
section
variable {X : Cx} {C : Cg} {a b : Expr} {ta tb : TE} {ma mb : Env → R D} {p p2 pos pos2 : Pos}
theorem fl_lrg1 (hc : X.calm = true) (hg : Gl X "list") (hm : X.mg "list" = none) (hg2 : Gl X "range") (hm2 : X.mg "range" = none) (ha : FE X C a ta ma) (na : starEach [a] X.env = (false, eval a X.env) :: starEach [] X.env := by rfl)
    (na2 : starEach [.Call (.Name "range" p2) [a] [] pos2] X.env = (false, eval (.Call (.Name "range" p2) [a] [] pos2) X.env) :: starEach [] X.env := by rfl) :
    FL X C (.Call (.Name "list" p) [.Call (.Name "range" p2) [a] [] pos2] [] pos) (tLstRg (tRg1 ta)) (mLRg1 ma) :=
  ⟨pe_listRg hc hg hm (prg_1 hg2 hm2 ha.pe na) na2, fun Γ σ F H Q en q => ha.rd Γ σ F H _ en (Post.bind q fun x F1 H1 x1 p1 v r => by
    cases r with
    | int n =>
      have p2 : Post C (WE C.W σ) F1 H1 (if -16777216 ≤ n ∧ n ≤ 16777216 then .ok (rngL 0 1 n.toNat) else .stuck) (kL C H Q) := p1
      split at p2
      · refine ⟨n, rfl, ⟨by omega, by omega, by omega, by omega, by omega⟩, fun z nz => p2 _ _ (Ext.raw x1.sub nz) z _ (x1.sH.free nz) upd_same (sub_none x1.sub nz) ?_⟩
        have := reps_rg (K := C.K) (mg := C.mg) (F := F1) 0 n
        rw [Int.sub_zero] at this
        exact this
      · exact p2.elim
    | _ => exact p1.elim)⟩
theorem fl_lrg2 (hc : X.calm = true) (hg : Gl X "list") (hm : X.mg "list" = none) (hg2 : Gl X "range") (hm2 : X.mg "range" = none) (ha : FE X C a ta ma) (hb : FE X C b tb mb)
    (na : starEach [a, b] X.env = (false, eval a X.env) :: starEach [b] X.env := by rfl) (nb : starEach [b] X.env = (false, eval b X.env) :: starEach [] X.env := by rfl) (hp : (backTo pos2 (starEach [b] X.env)).any (·.1) = false := by rfl)
    (na2 : starEach [.Call (.Name "range" p2) [a, b] [] pos2] X.env = (false, eval (.Call (.Name "range" p2) [a, b] [] pos2) X.env) :: starEach [] X.env := by rfl) :
    FL X C (.Call (.Name "list" p) [.Call (.Name "range" p2) [a, b] [] pos2] [] pos) (tLstRg (tRg2 ta tb)) (mLRg2 ma mb) :=
  ⟨pe_listRg hc hg hm (prg_2 hg2 hm2 ha.pe hb.pe na nb hp) na2, fun Γ σ F H Q en q => ha.rd Γ σ F H _ en (Post.bind q fun x F1 H1 x1 p1 v r => hb.rd Γ σ F1 H1 _ (en.step x1) (Post.bind p1 fun y F2 H2 x2 p2 v2 r2 => by
    cases r with
    | int n =>
      cases r2 with
      | int k =>
        have p3 : Post C (WE C.W σ) F2 H2 (if 0 ≤ n ∧ n ≤ 16777216 ∧ -16777216 ≤ k ∧ k ≤ 16777216 then .ok (rngL n 1 (k - n).toNat) else .stuck) (kL C H Q) := p2
        split at p3
        · exact ⟨n, k, rfl, rfl, ⟨by omega, by omega, by omega, by omega, by omega⟩, fun z nz => p3 _ _ (Ext.raw x2.sub nz) z _ ((x1.sH.trans x2.sH).free nz) upd_same (sub_none x2.sub nz) (reps_rg _ _)⟩
        · exact p3.elim
      | _ => exact p2.elim
    | _ => exact p2.elim))⟩
end
theorem mLRg1_ev {Γ : Env} (m : Env → R D) : mLRg1 m Γ = (m Γ >>= fun x => match x with | .int n => if -16777216 ≤ n ∧ n ≤ 16777216 then .ok (rngL 0 1 n.toNat) else .stuck | _ => .stuck) := rfl
theorem mLRg2_ev {Γ : Env} (m m' : Env → R D) : mLRg2 m m' Γ = (m Γ >>= fun x => m' Γ >>= fun y => match x, y with | .int a, .int b => if 0 ≤ a ∧ a ≤ 16777216 ∧ -16777216 ≤ b ∧ b ≤ 16777216 then .ok (rngL a 1 (b - a).toNat) else .stuck | _, _ => .stuck) := rfl
/-! ### raise X('..') -/
def mRaise (n : Str) : Env → SO := fun Γ => .ex Γ n none
theorem mRaise_ev {Γ : Env} (n : Str) : mRaise n Γ = .ex Γ n none := rfl
end FL

set_option Elab.async false
set_option linter.all false
set_option maxRecDepth 100000
set_option maxHeartbeats 2000000
/-! FL, part 13: any walk; more facts; raise, try, isinstance of what was raised; changes of own lists. -/
namespace FL
open PySem PySem.Spec PyProof.Rows L2
set_option autoImplicit false
/-! ### a walk over a list, a tuple, a text -/
def asW : D → R (List D)
  | .lst ds => .ok ds
  | .scr ns => .ok (ns.map .int)
  | .tup ds => .ok ds
  | .str s => .ok (s.map fun c => .str [c])
  | _ => .stuck
theorem asW_lst (ds : List D) : asW (.lst ds) = .ok ds := rfl
theorem asW_tup (ds : List D) : asW (.tup ds) = .ok ds := rfl
theorem asW_scr (ds : List Int) : asW (.scr ds) = .ok (ds.map .int) := rfl
theorem asW_str (s : List Nat) : asW (.str s) = .ok (s.map fun c => .str [c]) := rfl
section
variable {X : Cx} {C : Cg} {tg e : Expr} {te : TE} {me : Env → R D} {p pos : Pos}
def iAny (K : PySem.W.Frag) (te : TE) : TI := fun σ H R => iList K te σ H R ∨ iTup K te σ H R ∨ iStr te σ H R
theorem pi_any (h : PE X e te) : PI X tg e (iAny X.K te) := ⟨fun pins s σ H R I h' => by
  rcases h' with h' | h' | h'
  · exact (pi_list h).run pins s σ H R I h'
  · exact (pi_tup h).run pins s σ H R I h'
  · exact (pi_str h).run pins s σ H R I h'⟩
theorem fi_any (hK : X.K = C.K) (he : FE X C e te me) : FI X C tg e (iAny X.K te) (fun Γ => do let x ← me Γ; asW x) := by
  refine ⟨pi_any he.pe, fun Γ σ F H Q en p => ?_⟩
  have hl := (fi_list (tg := tg) hK he).rd Γ σ F H Q en
  have ht := (fi_tup (tg := tg) hK he).rd Γ σ F H Q en
  have hs := (fi_str (tg := tg) he).rd Γ σ F H Q en
  revert p hl ht hs
  show Post C (WE C.W σ) F H (me Γ >>= asW) _ → (Post C (WE C.W σ) F H (me Γ >>= asL) _ → _) → (Post C (WE C.W σ) F H (me Γ >>= asTp) _ → _) → (Post C (WE C.W σ) F H (me Γ >>= asSt) _ → _) → _
  cases me Γ with
  | ok d =>
    cases d with
    | lst ds => exact fun p hl ht hs => .inl (hl p)
    | scr ns => exact fun p hl ht hs => .inl (hl p)
    | tup ds => exact fun p hl ht hs => .inr (.inl (ht p))
    | str s => exact fun p hl ht hs => .inr (.inr (hs p))
    | _ => exact fun p hl ht hs => p.elim
  | exc n d => exact fun p hl ht hs => .inl (hl p)
  | stuck => exact fun p hl ht hs => p.elim
end
/-! ### s.index(t) where it stands -/
def g_sindex (a : List Nat) : List D → R D
  | [.str b] => (match Txt.index0 (mk a) (mk b) with
      | some k => .ok (.int (k : Nat))
      | none => .stuck)
  | _ => .stuck
def rSIndex : V → List V → Hp → VK → Prop := fun x xs H Q => ∃ (a b : Str) (k : Nat), x = .str a ∧ xs = [.str b] ∧ Txt.index0 a b = some k ∧ Q (.int (k : Nat)) H
theorem takesF {X : Cx} : L2.Takes X (fun _ _ _ _ => False) := fun u s' ⟨a, B, sI, pins, σ, H, cls, d, e, I, nb, up, sky, na, os, ag, w⟩ => w.elim
theorem mt_sindex {X : Cx} (hc : X.calm = true) : MtR X "str.index" rSIndex := by
  intro pins s σ H x xs v us Q I rx rs h
  obtain ⟨a, b, k, e1, e2, hk, q⟩ := h
  exact mt_indexX (W := fun _ _ _ _ => False) hc takesF pins s σ H x xs v us Q I rx rs ⟨a, b, e1, e2, fun k' e => by rw [hk] at e; cases e; exact q, fun e => by rw [hk] at e; cases e⟩
theorem sm_sindex {C : Cg} : SM C rSIndex g_sindex := fun a ds vs F H E Q s o rs p => by
  unfold g_sindex at p
  split at p
  · split at p
    · rename_i k hk
      obtain ⟨e, _⟩ := args_s rs
      exact ⟨_, _, k, rfl, e, hk, p F H (Ext.refl s) _ (.int _)⟩
    · exact p.elim
  · exact p.elim
/-! ### more facts of the text -/
inductive FaX where
  /-- subclasses: which of these classes are below y (own), below the built-in t; what an except clause of y says -/
  | kit (tab : List (Str × Bool)) (y : Str) | kitT (tab : List (Str × Bool)) (t : String) | exm (tab : List (Str × Bool)) (y : Str)
  | tup (x : Str) (vs : List He.Dv) | lst (x : Str) (vs : List He.Dv)
def exccB (K : PySem.W.Frag) (x : Str) : Bool := He.eqO (PySem.W.nsIn K mainGlobals x) (some (some (.ref (He.ga K x)))) &&
  (decide (PySem.W.findIn K (.ref (He.ga K x)) "__getattribute__" = some (some (.builtin "BaseException.__getattribute__"))) && (decide (PySem.W.findIn K (.ref (He.ga K x)) "__getattr__" = some none) && (decide (PySem.W.subIn K (.ref (He.ga K x)) (.type "BaseException") = some true) && (PySem.W.hasDictIn K (He.ga K x) &&
  (decide (PySem.W.findIn K (.ref (He.ga K x)) "__class__" = some (some (.builtin "object.__class__"))) && (decide (PySem.W.specialIn K (.builtin "object.__class__") "__get__" = some (some (.builtin "getset_descriptor.__get__"))) && (decide (PySem.W.takesIn K (.builtin "object.__class__") = some true) && decide (PySem.W.mroIn K (He.ga K x) (.type "object") = some true))))))))
def FaX.ok (K : PySem.W.Frag) : FaX → Bool
  | .kit tab y => tab.all fun p => exccB K p.1 && decide (PySem.W.kitOne K (.ref (He.ga K p.1)) (.ref (He.ga K y)) = some p.2)
  | .kitT tab t => tab.all fun p => exccB K p.1 && decide (PySem.W.kitOne K (.ref (He.ga K p.1)) (.type t) = some p.2)
  | .exm tab y => tab.all fun p => He.eqO (PySem.W.nsIn K mainGlobals p.1) (some (some (.ref (He.ga K p.1)))) && decide (PySem.W.exmOne K (.ref (He.ga K p.1)) (.ref (He.ga K y)) = some p.2)
  | .tup x vs => He.eqO (PySem.W.nsIn K mainGlobals x) (some (some (.ref (He.ga K x)))) && He.tupB K x vs
  | .lst x vs => He.eqO (PySem.W.nsIn K mainGlobals x) (some (some (.ref (He.ga K x)))) && He.lstB K x vs
theorem ba' {a b : Bool} (h : (a && b) = true) : a = true ∧ b = true := Bool.and_eq_true_iff.mp h
theorem exccB_ok {K : PySem.W.Frag} {h : Heap} {mg : Str → Option Value} {x : Str} (X : K.In h) (G : h.Ns mainGlobals mg) (c : exccB K x = true) : mg x = some (.ref (He.ga K x)) ∧ ExcC K (He.ga K x) := by
  obtain ⟨c0, c⟩ := ba' c
  obtain ⟨c1, c⟩ := ba' c
  obtain ⟨c2, c⟩ := ba' c
  obtain ⟨c3, c⟩ := ba' c
  obtain ⟨c4, c⟩ := ba' c
  obtain ⟨c5, c⟩ := ba' c
  obtain ⟨c6, c⟩ := ba' c
  obtain ⟨c7, c8⟩ := ba' c
  exact ⟨PySem.W.mg_of X G (He.eqO_ok c0), of_decide_eq_true c1, of_decide_eq_true c2, of_decide_eq_true c3, c4, of_decide_eq_true c5, of_decide_eq_true c6, of_decide_eq_true c7, of_decide_eq_true c8⟩
structure TxX (fa : List He.Fa) (fn : List He.DefD) (fx : List FaX) (K : PySem.W.Frag) (mg : Str → Option Value) : Prop where
  t : Tx fa fn K mg
  x : ∀ f ∈ fx, f.ok K = true
section
variable {fa : List He.Fa} {fn : List He.DefD} {fx : List FaX} {K : PySem.W.Frag} {mg : Str → Option Value}
theorem TxX.glo (T : TxX fa fn fx K mg) (i : Nat) {x : Str} (h : fa[i]? = some (.glo x)) : mg x = some (.ref (He.ga K x)) := T.t.glo i h
theorem TxX.free (T : TxX fa fn fx K mg) (i : Nat) {x : Str} (h : fa[i]? = some (.free x)) : mg x = none := T.t.free i h
theorem TxX.str (T : TxX fa fn fx K mg) (i : Nat) {x z : Str} (h : fa[i]? = some (.str x z)) : ∃ t, mg x = some (.str z t) := T.t.str i h
theorem TxX.int (T : TxX fa fn fx K mg) (i : Nat) {x : Str} {z : Int} (h : fa[i]? = some (.int x z)) : ∃ t, mg x = some (.int z t) := T.t.int i h
theorem TxX.exc (T : TxX fa fn fx K mg) (i : Nat) {x : Str} (h : fa[i]? = some (.exc x)) : PySem.W.excIn K (He.ga K x) He.veBase "ValueError.__new__" = true ∧ PySem.W.keepIn K (.ref (He.ga K x)) = true ∧ PySem.W.subIn K (.ref (He.ga K x)) (.type "BaseException") = some true ∧ PySem.W.typeIn K (.ref (He.ga K x)) = some (.type "type") := He.exc_ok (T.t.says.fact i h)
theorem TxX.at (T : TxX fa fn fx K mg) (i : Nat) {f : FaX} (h : fx[i]? = some f) : f.ok K = true := T.x f (List.mem_of_getElem? h)
theorem TxX.kit (T : TxX fa fn fx K mg) (i : Nat) {tab : List (Str × Bool)} {y : Str} (h : fx[i]? = some (.kit tab y)) : ∀ p ∈ tab, mg p.1 = some (.ref (He.ga K p.1)) ∧ ExcC K (He.ga K p.1) ∧ PySem.W.kitOne K (.ref (He.ga K p.1)) (.ref (He.ga K y)) = some p.2 := fun p hp => by
  obtain ⟨hp', X, G⟩ := T.t.ex
  obtain ⟨c1, c2⟩ := ba' (List.all_eq_true.mp (T.at i h) p hp)
  obtain ⟨h1, h2⟩ := exccB_ok X G c1
  exact ⟨h1, h2, of_decide_eq_true c2⟩
theorem TxX.kitT (T : TxX fa fn fx K mg) (i : Nat) {tab : List (Str × Bool)} {y : String} (h : fx[i]? = some (.kitT tab y)) : ∀ p ∈ tab, mg p.1 = some (.ref (He.ga K p.1)) ∧ ExcC K (He.ga K p.1) ∧ PySem.W.kitOne K (.ref (He.ga K p.1)) (.type y) = some p.2 := fun p hp => by
  obtain ⟨hp', X, G⟩ := T.t.ex
  obtain ⟨c1, c2⟩ := ba' (List.all_eq_true.mp (T.at i h) p hp)
  obtain ⟨h1, h2⟩ := exccB_ok X G c1
  exact ⟨h1, h2, of_decide_eq_true c2⟩
theorem TxX.exm (T : TxX fa fn fx K mg) (i : Nat) {tab : List (Str × Bool)} {y : Str} (h : fx[i]? = some (.exm tab y)) : ∀ p ∈ tab, mg p.1 = some (.ref (He.ga K p.1)) ∧ PySem.W.exmOne K (.ref (He.ga K p.1)) (.ref (He.ga K y)) = some p.2 := fun p hp => by
  obtain ⟨hp', X, G⟩ := T.t.ex
  obtain ⟨c1, c2⟩ := ba' (List.all_eq_true.mp (T.at i h) p hp)
  exact ⟨PySem.W.mg_of X G (He.eqO_ok c1), of_decide_eq_true c2⟩
theorem TxX.tup (T : TxX fa fn fx K mg) (i : Nat) {x : Str} {vs : List He.Dv} (h : fx[i]? = some (.tup x vs)) : mg x = some (.ref (He.ga K x)) ∧ ∀ H, SqT K H (He.ga K x) (vs.map (He.Dv.v K)) := by
  obtain ⟨hp', X, G⟩ := T.t.ex
  obtain ⟨c1, c2⟩ := ba' (T.at i h)
  exact ⟨PySem.W.mg_of X G (He.eqO_ok c1), fun H => He.tupB_ok c2 H⟩
theorem TxX.lst (T : TxX fa fn fx K mg) (i : Nat) {x : Str} {vs : List He.Dv} (h : fx[i]? = some (.lst x vs)) : mg x = some (.ref (He.ga K x)) ∧ ∀ H, SqL K H (He.ga K x) (vs.map (He.Dv.v K)) := by
  obtain ⟨hp', X, G⟩ := T.t.ex
  obtain ⟨c1, c2⟩ := ba' (T.at i h)
  exact ⟨PySem.W.mg_of X G (He.eqO_ok c1), fun H => He.lstB_ok c2 H⟩
end
abbrev AlF : Type := He.AlD × Bool
def obsF (fa : List He.Fa) (fn : List He.DefD) (fx : List FaX) (K : PySem.W.Frag) : AlF := (He.obsD fa fn K, fx.all fun f => f.ok K)
def obsFG (n : Nat) (fa : List He.Fa) (fn : List He.DefD) (fx : List FaX) (g : Addr → Option Obj) : AlF := obsF fa fn fx (He.frG g (He.asD g n))
def hookF (n : Nat) (fa : List He.Fa) (fn : List He.DefD) (fx : List FaX) : PySem.W.Hook where
  α := AlF
  obs := fun s => obsFG n fa fn fx s.heap.get?
  val := fun _ => (He.valD fn, true)
  says := fun _ h => ∃ K : PySem.W.Frag, K.In h ∧ He.SaysD fa fn K ∧ ∀ f ∈ fx, f.ok K = true
  of := fun _ h e => ⟨_, He.frG_in, congrArg (fun z : AlF => z.1) e, List.all_eq_true.mp (congrArg (fun z : AlF => z.2) e)⟩
  keeps := fun _ _ _ ⟨K, hK, c⟩ k => ⟨K, PySem.W.Frag.In.keeps hK k, c⟩
theorem obsFG_eq {n : Nat} {fa : List He.Fa} {fn : List He.DefD} {fx : List FaX} {g : Addr → Option Obj} {s : Shared} (h : ∀ a, g a = s.heap.get? a) : obsFG n fa fn fx g = (hookF n fa fn fx).obs s := by
  have e : g = s.heap.get? := funext h
  rw [e] <;> rfl
theorem bits_lt {k : Int} (h : Builtin.Int.intBits k ≤ 1048576) : k.natAbs < 2 ^ 1048576 := by
  by_cases h0 : k.natAbs = 0
  · rw [h0]; exact Nat.pow_pos (by decide)
  · have hk : (k == 0) = false := beq_eq_false_iff_ne.mpr fun e => h0 (by rw [e]; rfl)
    have h2 : (if (k == 0) = true then 0 else k.natAbs.log2 + 1) ≤ 1048576 := h
    rw [hk, if_neg Bool.false_ne_true] at h2
    exact (Nat.log2_lt h0).mp (by omega)
theorem walk_FX {l : PySem.W.OpenLaw} {n k : Nat} {q : Program} {loose : List Str} {XP : (Str → Option Value) → Heap → Prop} {fa : List He.Fa} {fn : List He.DefD} {fx : List FaX} {d : DefRec} {x : Str} {g : List D → R D}
    (hn : l.most = some n) (hn2 : n ≤ sizeLine) (hdf : d.params.defaults = []) (hr : Room k callerA) (hd : d.name = ("law" : Str))
    (B : ∀ (w : World) (K : PySem.W.Frag) (mg : Str → Option Value) (base : Heap), TxX fa fn fx K mg → FnB l.prog w K mg base "law" k [x] (spV K mg 1 g)) (hg : ∀ ns : List Int, ns.length ≤ n → g [.scr ns] = .ok (.bl true)) :
    PySem.W.WalkO q loose XP (fun _ h => (∃ K : PySem.W.Frag, K.In h ∧ He.SaysD fa fn K ∧ ∀ f ∈ fx, f.ok K = true)) l.row.toRowW d [] (fun f vs => PySem.call f vs) := by
  refine Att.attach_call hn hdf fun w s₀ s₁ mg mb fa0 o pm cd doc a vs ns G Y ho hd0 hcd hmg hobj hints hlen hg0 => ?_
  obtain ⟨K, KX, c, cx⟩ := Y
  have T : TxX fa fn fx K mg := ⟨⟨c, _, KX, G.T.g⟩, cx⟩
  obtain ⟨f, fd, h1, h2, h3, ⟨oc, od, osl, lk⟩, _⟩ := (B w K mg default T).ex
  have hmg' : mg ("law" : Str) = some (.ref fa0) := by rw [← hd]; exact hmg
  rw [h1] at hmg'
  cases hmg'
  refine law_call (sp := spV K mg 1 g) (CX := L2N.CX l.prog w) (w := w) KX G.T.g G.T.b G.T.builtins G.T.nolimit hg0 hobj hints (Nat.le_trans hlen hn2) hr (fun base kb gb => ?_) (fun s u => h3 s [u] rfl) (fun H hO hS => ?_) fun H e s' h => cxN_no h
  · obtain ⟨f', fd', g1, g2, g3, ⟨oc', od', osl', lk'⟩, g4⟩ := (B w K mg base T).ex
    rw [h1] at g1
    cases g1
    rw [lk] at lk'
    cases lk'
    exact g4
  · refine ⟨rfl, H, [.scr ns], Same.refl H, .cons (.scr hS) .nil, ?_⟩
    rw [hg ns hlen]
    exact fun F' H' x v r => by
      cases r
      rfl
theorem walk_FB {l : PySem.W.OpenLaw} {n k : Nat} {q : Program} {loose : List Str} {XP : (Str → Option Value) → Heap → Prop} {fa : List He.Fa} {fn : List He.DefD} {fx : List FaX} {d : DefRec} {x : Str} {g : List D → R D}
    (hn : l.most = some n) (hn2 : n ≤ sizeLine) (hdf : d.params.defaults = []) (hr : Room k callerA) (hd : d.name = ("law" : Str))
    (B : ∀ (w : World) (K : PySem.W.Frag) (mg : Str → Option Value) (base : Heap), TxX fa fn fx K mg → FnB l.prog w K mg base "law" k [x] (spV K mg 1 g)) (hg : ∀ ns : List Int, ns.length ≤ n → (∀ k ∈ ns, k.natAbs < 2 ^ 1048576) → g [.scr ns] = .ok (.bl true)) :
    PySem.W.WalkO q loose XP (fun _ h => (∃ K : PySem.W.Frag, K.In h ∧ He.SaysD fa fn K ∧ ∀ f ∈ fx, f.ok K = true)) l.row.toRowW d [] (fun f vs => PySem.call f vs) := by
  refine Att.attach_callB hn hdf fun w s₀ s₁ mg mb fa0 o pm cd doc a vs ns G Y ho hd0 hcd hmg hobj hints hlen hbits hg0 => ?_
  obtain ⟨K, KX, c, cx⟩ := Y
  have T : TxX fa fn fx K mg := ⟨⟨c, _, KX, G.T.g⟩, cx⟩
  obtain ⟨f, fd, h1, h2, h3, ⟨oc, od, osl, lk⟩, _⟩ := (B w K mg default T).ex
  have hmg' : mg ("law" : Str) = some (.ref fa0) := by rw [← hd]; exact hmg
  rw [h1] at hmg'
  cases hmg'
  refine law_call (sp := spV K mg 1 g) (CX := L2N.CX l.prog w) (w := w) KX G.T.g G.T.b G.T.builtins G.T.nolimit hg0 hobj hints (Nat.le_trans hlen hn2) hr (fun base kb gb => ?_) (fun s u => h3 s [u] rfl) (fun H hO hS => ?_) fun H e s' h => cxN_no h
  · obtain ⟨f', fd', g1, g2, g3, ⟨oc', od', osl', lk'⟩, g4⟩ := (B w K mg base T).ex
    rw [h1] at g1
    cases g1
    rw [lk] at lk'
    cases lk'
    exact g4
  · refine ⟨rfl, H, [.scr ns], Same.refl H, .cons (.scr hS) .nil, ?_⟩
    rw [hg ns hlen (fun k hk => bits_lt (hbits k hk))]
    exact fun F' H' x v r => by
      cases r
      rfl
/-! ### raise -/
section
variable {X : Cx} {C : Cg} {x m : Str} {A : Addr} {j : Nat} {p p2 pos pos' : Pos}
theorem fs_raise (hc : X.calm = true) (hmg : X.mg = C.mg) (tk : L2N.Takes X C.W) (hg : Gl X x) (gC : X.mg x = some (.ref A)) (ex : PySem.W.excIn X.K A He.veBase "ValueError.__new__" = true ∧ PySem.W.keepIn X.K (.ref A) = true ∧ PySem.W.subIn X.K (.ref A) (.type "BaseException") = some true ∧ PySem.W.typeIn X.K (.ref A) = some (.type "type")) (hdb : (x == ("__debug__" : Str)) = false := by decide) :
    FS X C (.Raise (some (.Call (.Name x p) [.Constant (.str m) j p2] [] pos)) none pos') (fun D σ H => C.W (.ref A) none σ H) (mRaise x) :=
  ⟨L2N.ps_raise hc tk (L2N.pmk_own PySem.F.excBase_ValueError ex.1 gC ex.2.1 (raises_own ex.2.2.1 ex.2.2.2) hg hdb), fun Γ σ F H D en p => p σ F H (.ref A) none en (.refl F) ⟨by rw [← hmg]; exact gC, ⟨A, rfl⟩, rfl⟩⟩
end
/-! ### try .. except X as e -/
def Cg.wW (C : Cg) (W : WX) : Cg := ⟨C.K, C.mg, W, C.P, C.F0, C.B⟩
/-- within the suite: slot i holds the exception of class n -/
def Cg.su (C : Cg) (i : Nat) (a : Addr) (cls : Value) (d : Option Addr) (n : Str) : Cg := ⟨C.K, C.mg, fun _ _ _ _ => False, fun σ => σ[i]? = some (some (.ref a)) ∧ C.mg n = some cls ∧ (∃ A, cls = .ref A) ∧ d = none, C.F0, C.B⟩
theorem keepsS {C : Cg} {i j : Nat} {a : Addr} {cls : Value} {d : Option Addr} {n : Str} (h : j ≠ i) : Keeps (C.su i a cls d n) j := fun σ o e => ⟨by rw [List.getElem?_set_ne h]; exact e.1, e.2⟩
theorem takesS {X : Cx} {C : Cg} {i : Nat} {a : Addr} {cls : Value} {d : Option Addr} {n : Str} : L2N.Takes X (C.su i a cls d n).W := fun u s' ⟨a, B, sI, pins, σ, H, cls, d, e, I, nb, up, sky, na, os, ag, w⟩ => w.elim
def endS (i : Nat) : SO → SO
  | .nx Γ => .nx (Γ.set i .no)
  | .bk Γ => .bk (Γ.set i .no)
  | .ct Γ => .ct (Γ.set i .no)
  | .rt d => .rt d
  | .rtL d => .rtL d
  | _ => .stuck
def catchX (i : Nat) (sb : List (Str × Bool)) (ms : Str → Env → SO) (Γ : Env) (n : Str) (d : Option D) : SO := match sb.lookup n, d with
  | some true, none => if i < Γ.length then endS i (ms n (Γ.set i .no)) else .stuck
  | some false, _ => .ex Γ n d
  | _, _ => .stuck
def mTry (i : Nat) (sb : List (Str × Bool)) (mb : Env → SO) (ms : Str → Env → SO) : Env → SO := fun Γ => match mb Γ with
  | .ex Γ' n d => catchX i sb ms Γ' n d
  | s => s
def tbCan (C : Cg) (mb : Env → SO) (W : WX) : TS := fun D σ H => ∃ Γ F, EnvOk (C.wW W) Γ σ F H ∧ PostS (C.wW W) F D (mb Γ)
def tsCan (C : Cg) (i : Nat) (ms : Str → Env → SO) (a : Addr) (cls : Value) (d : Option Addr) : TS := fun D σ H => ∃ n Γ F, EnvOk (C.su i a cls d n) Γ σ F H ∧ PostS (C.su i a cls d n) F D (ms n Γ)
theorem lookup_mem {n : Str} {b : Bool} : ∀ {tab : List (Str × Bool)}, tab.lookup n = some b → (n, b) ∈ tab
  | [], h => by cases h
  | (m, c) :: r, h => by
    by_cases e : n == m
    · have e' := eq_of_beq e
      subst e'
      rw [List.lookup_cons, e] at h
      cases h
      exact List.mem_cons_self ..
    · have e' : (n == m) = false := by simpa using e
      rw [List.lookup_cons, e'] at h
      exact List.mem_cons_of_mem _ (lookup_mem h)
theorem Ends.eta (D : Ends) : D = { nx := D.nx, rt := D.rt, bk := D.bk, ct := D.ct } := rfl
section
variable {X : Cx} {C : Cg} {x nm : Str} {A : Addr} {i : Nat} {body suite : List Stmt} {b₀ : Stmt} {np pos pos' : Pos} {mb : Env → SO} {ms : Str → Env → SO} {sb : List (Str × Bool)}
theorem posts_end {a : Addr} {cls : Value} {d : Option Addr} {n : Str} {F : Hp} {D : Ends} {s : SO} (hP : ∀ σ, C.P σ) (h : PostS C F D (endS i s)) :
    PostS (C.su i a cls d n) F { nx := fun σ' H' => D.nx (σ'.set i none) H', rt := D.rt, bk := fun σ' H' => D.bk (σ'.set i none) H', ct := fun σ' H' => D.ct (σ'.set i none) H' } s := by
  have cv : ∀ {Γ : Env} {σ' : St} {F' H' : Hp}, EnvOk (C.su i a cls d n) Γ σ' F' H' → EnvOk C (Γ.set i .no) (σ'.set i none) F' H' := fun {Γ σ' F' H'} e =>
    (EnvOk.set (C := C) (s := .no) (o := none) (e.swap C.W C.P (hP σ')) (hP _) trivial fun z => by cases z)
  cases s with
  | nx Γ => exact fun σ' F' H' e y => h _ F' H' (cv e) y
  | bk Γ => exact fun σ' F' H' e y => h _ F' H' (cv e) y
  | ct Γ => exact fun σ' F' H' e y => h _ F' H' (cv e) y
  | rt d => exact h
  | rtL d => exact h
  | ex Γ n d => exact h.elim
  | stuck => exact h.elim
theorem fs_try (hP : ∀ σ, C.P σ) (hK : X.K = C.K) (hs : X.stack = X.env :: X.outer) (hf : X.env.frame = some X.env.locals) (hN : X.N.Nodup) (hi : X.N[i]? = some nm) (hln : X.env.kindOf nm = some .local) (hc : Names X x (.ref A)) (tk : L2N.Takes X C.W)
    (hsb : ∀ p ∈ sb, ∀ cls, C.mg p.1 = some cls → PySem.W.exmOne X.K cls (.ref A) = some p.2)
    (hb : ∀ (W : WX) (pn : List (Addr × Obj)) (xe : Value → Shared → Prop), L2N.Takes (X.tr pn xe) W → PassesOwn (model X.prog X.w) X.A X.env xe → ∃ t, FB2 (X.tr pn xe) (C.wW W) body t mb)
    (hsu : ∀ (n : Str) (a : Addr) (oe : Obj) (cls : Value) (d : Option Addr) (pn : List (Addr × Obj)), L2N.Zn cls d oe → (∃ vs, oe.data = .fields vs) → ∃ t, FB2 (X.suite a ((a, oe) :: pn)) (C.su i a cls d n) (b₀ :: suite) t (ms n)) :
    FS X C (.Try body [.ExceptHandler (some (.Name x np)) (some nm) (b₀ :: suite) pos'] [] [] pos) (fun D σ H => tbCan C mb (wAs X.K (.ref A) i (tsCan C i ms) C.W D) D σ H) (mTry i sb mb ms) := by
  refine ⟨L2N.ps_try_as hs hf hN hi hln hc tk (fun W pn xe tk' po => ⟨fun pins s σ H D I h => ?_⟩) (fun a oe cls d pn hz hv => ⟨fun pins s σ H D I h => ?_⟩), fun Γ σ F H D en p => ?_⟩
  · obtain ⟨Γ, F, en, p⟩ := h
    obtain ⟨t, ht⟩ := hb W pn xe tk' po
    exact ht.ps.run pins s σ H D I (ht.rd Γ σ F H D en p)
  · obtain ⟨n, Γ, F, en, p⟩ := h
    obtain ⟨t, ht⟩ := hsu n a oe cls d pn hz hv
    exact ht.ps.run pins s σ H D I (ht.rd Γ σ F H D en p)
  · refine ⟨Γ, F, en.swap _ _ en.pre, ?_⟩
    unfold mTry at p
    revert p
    cases mb Γ with
    | nx Γ1 => exact fun p σ' F' H' e y => p σ' F' H' (e.swap C.W C.P e.pre) y
    | bk Γ1 => exact fun p σ' F' H' e y => p σ' F' H' (e.swap C.W C.P e.pre) y
    | ct Γ1 => exact fun p σ' F' H' e y => p σ' F' H' (e.swap C.W C.P e.pre) y
    | rt d => exact fun p => p
    | rtL d => exact fun p => p
    | stuck => exact fun p => p
    | ex Γ1 n d =>
      intro p σ' F' H' cls dv e y ex
      have p' : PostS C F D (catchX i sb ms Γ1 n d) := p
      unfold catchX at p'
      split at p'
      · rename_i hl
        split at p'
        · rename_i hlen
          obtain ⟨h1, h2, h3⟩ := ex
          refine ⟨true, hsb _ (lookup_mem hl) cls h1, fun _ a na => ?_, fun q => by cases q⟩
          have hi' : i < σ'.length := by rw [← e.len]; exact hlen
          have en2 : EnvOk (C.su i a cls dv n) (Γ1.set i .no) (σ'.set i (some (.ref a))) F' H' :=
            (EnvOk.set (C := C) (s := .no) (o := some (.ref a)) (e.swap C.W C.P (hP σ')) (hP _) trivial (fun z => by cases z)).swap _ _ ⟨List.getElem?_set_self hi', h1, h2, h3⟩
          exact ⟨n, _, F', en2, posts_end hP (p'.step y)⟩
        · exact p'.elim
      · rename_i hl
        exact ⟨false, hsb _ (lookup_mem hl) cls ex.1, (fun q => by cases q), fun _ => p' σ' F' H' cls dv (e.swap C.W C.P (hP σ')) y ex⟩
      · exact p'.elim
/-- isinstance(e, Y) in the suite -/
def mIsE (tab : List (Str × Bool)) (n : Str) : Env → R D := fun _ => match tab.lookup n with
  | some b => .ok (.bl b)
  | none => .stuck
def tIsE (K : PySem.W.Frag) (cls : Value) (d : Option Addr) (i : Nat) (a : Addr) (cv : Value) : TE := fun σ H Q => ∃ (D : Addr) (b : Bool), cls = .ref D ∧ d = none ∧ ExcC K D ∧ PySem.W.kitOne K (.ref D) cv = some b ∧ σ[i]? = some (some (.ref a)) ∧ Q (.bl b) H
theorem isE_rd {a : Addr} {cls : Value} {d : Option Addr} {n : Str} {cv : Value} {tab : List (Str × Bool)} (hK : X.K = C.K) (ht : ∀ p ∈ tab, C.mg p.1 = some (.ref (He.ga X.K p.1)) ∧ ExcC X.K (He.ga X.K p.1) ∧ PySem.W.kitOne X.K (.ref (He.ga X.K p.1)) cv = some p.2) :
    ∀ Γ σ F H Q, EnvOk (C.su i a cls d n) Γ σ F H → Post (C.su i a cls d n) (WE (C.su i a cls d n).W σ) F H (mIsE tab n Γ) (kV (C.su i a cls d n) Q) → tIsE X.K cls d i a cv σ H Q := fun Γ σ F H Q en p => by
  obtain ⟨h1, h2, ⟨A, h3⟩, h4⟩ := en.pre
  unfold mIsE at p
  split at p
  · rename_i b hb
    obtain ⟨g1, g2, g3⟩ := ht _ (lookup_mem hb)
    rw [h2] at g1
    injection g1 with g1
    exact ⟨_, b, g1, h4, g2, g3, h1, p F H (Ext.refl en.sub) _ (.bl b)⟩
  · exact p.elim
theorem fe_isE {a : Addr} {oe : Obj} {pn : List (Addr × Obj)} {cls : Value} {d : Option Addr} {n y : Str} {B : Addr} {tab : List (Str × Bool)} {p1 p2 : Pos} (hz : L2N.Zn cls d oe) (hv : ∃ vs, oe.data = .fields vs) (hK : X.K = C.K) (hmg : X.mg = C.mg)
    (he : PE (X.suite a ((a, oe) :: pn)) (.Name nm p1) (tVar i)) (hg : Gl (X.suite a ((a, oe) :: pn)) y) (hmy : X.mg y = some (.ref (He.ga X.K y))) (hg2 : Gl (X.suite a ((a, oe) :: pn)) "isinstance") (hm2 : X.mg "isinstance" = none)
    (ht : ∀ p ∈ tab, X.mg p.1 = some (.ref (He.ga X.K p.1)) ∧ ExcC X.K (He.ga X.K p.1) ∧ PySem.W.kitOne X.K (.ref (He.ga X.K p.1)) (.ref (He.ga X.K y)) = some p.2) (hdy : (y == ("__debug__" : Str)) = false := by decide)
    (hst : starEach [.Name nm p1, .Name y p2] (X.suite a ((a, oe) :: pn)).env = (false, eval (.Name nm p1) (X.suite a ((a, oe) :: pn)).env) :: starEach [.Name y p2] (X.suite a ((a, oe) :: pn)).env := by rfl) (hst2 : starEach [.Name y p2] (X.suite a ((a, oe) :: pn)).env = (false, eval (.Name y p2) (X.suite a ((a, oe) :: pn)).env) :: starEach [] (X.suite a ((a, oe) :: pn)).env := by rfl)
    (hpl : (backTo pos (starEach [.Name y p2] (X.suite a ((a, oe) :: pn)).env)).any (·.1) = false := by rfl) :
    FE (X.suite a ((a, oe) :: pn)) (C.su i a cls d n) (.Call (.Name "isinstance" np) [.Name nm p1, .Name y p2] [] pos) (tIsE X.K cls d i a (.ref (He.ga X.K y))) (mIsE tab n) := by
  refine ⟨⟨fun pins s σ H Q I h => ?_⟩, isE_rd hK (fun p hp => by rw [← hmg]; exact ht p hp)⟩
  obtain ⟨D, b, rfl, rfl, g2, g3, g4, q⟩ := h
  refine (pe_callB (call_isE g2 hz.zc hv) hg2 hm2 (by decide +kernel) (pa_cons he (pa_cons (pe_glob (v := .ref (He.ga X.K y)) hg hmy rfl hdy) pa_nil hst2) hst) (by decide) (by decide) hst hpl).run pins s σ H Q I ?_
  exact ⟨_, g4, .ref (He.ga X.K y), .ref (He.ga X.K y), b, rfl, fun u hu => hu, g3, q⟩
theorem fe_isET {a : Addr} {oe : Obj} {pn : List (Addr × Obj)} {cls : Value} {d : Option Addr} {n y : Str} {B : Addr} {t : String} {tab : List (Str × Bool)} {p1 p2 : Pos} (hz : L2N.Zn cls d oe) (hv : ∃ vs, oe.data = .fields vs) (hK : X.K = C.K) (hmg : X.mg = C.mg)
    (he : PE (X.suite a ((a, oe) :: pn)) (.Name nm p1) (tVar i)) (hg : Gl (X.suite a ((a, oe) :: pn)) y) (hmy : X.mg y = none) (hby : bootBuiltins y = some (.type t)) (hg2 : Gl (X.suite a ((a, oe) :: pn)) "isinstance") (hm2 : X.mg "isinstance" = none)
    (ht : ∀ p ∈ tab, X.mg p.1 = some (.ref (He.ga X.K p.1)) ∧ ExcC X.K (He.ga X.K p.1) ∧ PySem.W.kitOne X.K (.ref (He.ga X.K p.1)) (.type t) = some p.2) (hny : y ≠ "__name__" := by decide) (hdy : (y == ("__debug__" : Str)) = false := by decide)
    (hst : starEach [.Name nm p1, .Name y p2] (X.suite a ((a, oe) :: pn)).env = (false, eval (.Name nm p1) (X.suite a ((a, oe) :: pn)).env) :: starEach [.Name y p2] (X.suite a ((a, oe) :: pn)).env := by rfl) (hst2 : starEach [.Name y p2] (X.suite a ((a, oe) :: pn)).env = (false, eval (.Name y p2) (X.suite a ((a, oe) :: pn)).env) :: starEach [] (X.suite a ((a, oe) :: pn)).env := by rfl)
    (hpl : (backTo pos (starEach [.Name y p2] (X.suite a ((a, oe) :: pn)).env)).any (·.1) = false := by rfl) :
    FE (X.suite a ((a, oe) :: pn)) (C.su i a cls d n) (.Call (.Name "isinstance" np) [.Name nm p1, .Name y p2] [] pos) (tIsE X.K cls d i a (.type t)) (mIsE tab n) := by
  refine ⟨⟨fun pins s σ H Q I h => ?_⟩, isE_rd hK (fun p hp => by rw [← hmg]; exact ht p hp)⟩
  obtain ⟨D, b, rfl, rfl, g2, g3, g4, q⟩ := h
  refine (pe_callB (call_isE g2 hz.zc hv) hg2 hm2 (by decide +kernel) (pa_cons he (pa_cons (pe_bltn (v := .ty t) hg hmy hby rfl hny hdy) pa_nil hst2) hst) (by decide) (by decide) hst hpl).run pins s σ H Q I ?_
  exact ⟨_, g4, .ty t, .type t, b, rfl, fun u hu => hu, g3, q⟩
end
theorem mTry_ev {Γ : Env} (i : Nat) (sb : List (Str × Bool)) (mb : Env → SO) (ms : Str → Env → SO) : mTry i sb mb ms Γ = (match mb Γ with | .ex Γ' n d => catchX i sb ms Γ' n d | s => s) := rfl
theorem mTry_nx {Γ Γ' : Env} {i : Nat} {sb : List (Str × Bool)} {mb : Env → SO} {ms : Str → Env → SO} (h : mb Γ = .nx Γ') : mTry i sb mb ms Γ = .nx Γ' := by unfold mTry; rw [h]
theorem mTry_ex {Γ Γ' : Env} {i : Nat} {sb : List (Str × Bool)} {mb : Env → SO} {ms : Str → Env → SO} {n : Str} (h : mb Γ = .ex Γ' n none) (hs : sb.lookup n = some true) (hl : i < Γ'.length) : mTry i sb mb ms Γ = endS i (ms n (Γ'.set i .no)) := by
  unfold mTry
  rw [h]
  show catchX i sb ms Γ' n none = _
  unfold catchX
  rw [hs]
  exact if_pos hl
theorem mIsE_ev {Γ : Env} {tab : List (Str × Bool)} {n : Str} {b : Bool} (h : tab.lookup n = some b) : mIsE tab n Γ = .ok (.bl b) := by unfold mIsE; rw [h]
theorem endS_nx {i : Nat} {Γ : Env} : endS i (.nx Γ) = .nx (Γ.set i .no) := rfl
theorem endS_rt {i : Nat} {d : D} : endS i (.rt d) = .rt d := rfl
/-! ### reckoned, more -/
theorem flat_signs : ∀ ys : List Nat, (ys.map fun c => [c]).flatten = ys
  | [] => rfl
  | y :: ys => by
    show [y] ++ (ys.map fun c => [c]).flatten = _
    rw [flat_signs ys]; rfl
theorem sumLen_signs (ys : List Nat) : sumLen (ys.map fun c => [c]) = ys.length := by
  unfold sumLen
  rw [List.map_map]
  induction ys with
  | nil => rfl
  | cons y ys ih => rw [List.map_cons, List.sum_cons, ih, List.length_cons]; show 1 + _ = _; omega
/-- ''.join of signs -/
theorem join_signs (ys : List Nat) (h : ys.length ≤ 16777216) : g_join [] [.lst (ys.map fun c => D.str [c])] = .ok (.str ys) := by
  have e : (ys.map fun c => D.str [c]) = (ys.map fun c => [c]).map D.str := by rw [List.map_map]; rfl
  rw [e, g_join_ev _ _ (by rw [sumLen_signs]; simp; exact h), joinL_nil, flat_signs]
theorem in_sign (c : Nat) (s : List Nat) : D.in_ (.str [c]) (.str s) = .ok (.bl (decide (c ∈ s))) := rfl
theorem notIn_sign (c : Nat) (s : List Nat) : D.notIn (.str [c]) (.str s) = .ok (.bl (!decide (c ∈ s))) := rfl
theorem isN_str (s : List Nat) : D.isN (.str s) .non = .ok (.bl false) := rfl
theorem notN_str (s : List Nat) : D.notN (.str s) .non = .ok (.bl true) := rfl
theorem isN_tup (s : List D) : D.isN (.tup s) .non = .ok (.bl false) := rfl
theorem notN_tup (s : List D) : D.notN (.tup s) .non = .ok (.bl true) := rfl
theorem isi_int_int (i : Int) : gIsi [.int i, .ty "int"] = .ok (.bl true) := rfl
theorem isi_int_bool (i : Int) : gIsi [.int i, .ty "bool"] = .ok (.bl false) := rfl
theorem isi_bl_bool (i : Bool) : gIsi [.bl i, .ty "bool"] = .ok (.bl true) := rfl
theorem isi_bl_int (i : Bool) : gIsi [.bl i, .ty "int"] = .ok (.bl true) := rfl
theorem isi_str_str (s : List Nat) : gIsi [.str s, .ty "str"] = .ok (.bl true) := rfl
theorem isi_tup_tup (s : List D) : gIsi [.tup s, .ty "tuple"] = .ok (.bl true) := rfl
theorem isi_lst_lst (s : List D) : gIsi [.lst s, .ty "list"] = .ok (.bl true) := rfl
theorem isi_non_int : gIsi [.non, .ty "int"] = .ok (.bl false) := rfl
theorem isi_non_tup : gIsi [.non, .ty "tuple"] = .ok (.bl false) := rfl
theorem if_small {α : Type} {n : Nat} (h : n < 16777216) (a b : α) : (if n < 16777216 then a else b) = a := if_pos h
theorem if_small' {α : Type} {n : Nat} (h : n ≤ 16777216) (a b : α) : (if n ≤ 16777216 then a else b) = a := if_pos h
/-- a comprehension over a range -/
theorem compL_rng {t : D → R (Option D)} {lo : Int} {n : Nat} (f : Nat → D) (h : ∀ i : Nat, i < n → t (.int (lo + (i : Int))) = .ok (some (f i))) : compL t (rngL lo 1 n) = .ok ((List.range n).map f) := by
  unfold rngL
  refine compL_of (g := fun (i : Nat) => D.int (lo + (i : Int) * 1)) f fun i hi => ?_
  rw [Int.mul_one]
  exact h i (List.mem_range.mp hi)
theorem compL_ints {t : D → R (Option D)} (f : Int → D) {xs : List Int} (h : ∀ x ∈ xs, t (.int x) = .ok (some (f x))) : compL t (xs.map D.int) = .ok (xs.map f) := compL_of (g := D.int) f h
theorem cut_mem {α : Type} {xs : List α} {a b : Option Int} {d : α} (h : d ∈ cutL xs a b) : d ∈ xs := List.drop_subset _ _ (List.take_subset _ _ h)
/-- a loop that goes on or returns -/
theorem forL_or {g : Env → D → Option Env} {body : Env → SO} {ds : List D} {Γ : Env} (I : Nat → Env → Prop) (Z : D → Prop) (h0 : I 0 Γ)
    (hs : ∀ (i : Nat) (d : D) (Γ : Env), ds[i]? = some d → I i Γ → ∃ Γ1, g Γ d = some Γ1 ∧ ((∃ Γ', (body Γ1 = .nx Γ' ∨ body Γ1 = .ct Γ') ∧ I (i + 1) Γ') ∨ (∃ r, body Γ1 = .rt r ∧ Z r))) : (∃ Γ', forL g body ds Γ = .nx Γ' ∧ I ds.length Γ') ∨ ∃ r, forL g body ds Γ = .rt r ∧ Z r := by
  rcases forL_inv (g := g) (body := body) (ds := ds) (Γ := Γ) I (fun s => ∃ r, s = .rt r ∧ Z r) 0 h0 (fun i d Γ hd h => by
    rw [Nat.zero_add] at h ⊢
    obtain ⟨Γ1, a, b⟩ := hs i d Γ hd h
    refine ⟨Γ1, a, ?_⟩
    rcases b with b | ⟨r, b1, b2⟩
    · exact .inl b
    · refine .inr (.inr ⟨fun Γ' => ?_, r, b1, b2⟩)
      rw [b1]
      exact ⟨(fun z => by cases z), (fun z => by cases z), (fun z => by cases z)⟩) with h | h
  · rw [Nat.zero_add] at h; exact .inl h
  · exact .inr h
/-- .. or breaks off -/
theorem forL_brk {g : Env → D → Option Env} {body : Env → SO} {ds : List D} {Γ : Env} (I : Nat → Env → Prop) (Z : Env → Prop) (h0 : I 0 Γ)
    (hs : ∀ (i : Nat) (d : D) (Γ : Env), ds[i]? = some d → I i Γ → ∃ Γ1, g Γ d = some Γ1 ∧ ((∃ Γ', (body Γ1 = .nx Γ' ∨ body Γ1 = .ct Γ') ∧ I (i + 1) Γ') ∨ (∃ Γ', body Γ1 = .bk Γ' ∧ Z Γ'))) : ∃ Γ', forL g body ds Γ = .nx Γ' ∧ (I ds.length Γ' ∨ Z Γ') := by
  rcases forL_inv (g := g) (body := body) (ds := ds) (Γ := Γ) I (fun s => ∃ r, s = .nx r ∧ Z r) 0 h0 (fun i d Γ hd h => by
    rw [Nat.zero_add] at h ⊢
    obtain ⟨Γ1, a, b⟩ := hs i d Γ hd h
    refine ⟨Γ1, a, ?_⟩
    rcases b with b | ⟨r, b1, b2⟩
    · exact .inl b
    · exact .inr (.inl ⟨r, b1, r, rfl, b2⟩)) with ⟨Γ', h1, h2⟩ | ⟨Γ', h1, h2⟩
  · rw [Nat.zero_add] at h2; exact ⟨Γ', h1, .inl h2⟩
  · exact ⟨Γ', h1, .inr h2⟩
end FL

set_option Elab.async false
set_option linter.all false
set_option maxRecDepth 100000
set_option maxHeartbeats 2000000
/-! FL, part 14: defaults; own lists changed; walks backward; constant tuples. -/
namespace FL
open PySem PySem.Spec PyProof.Rows L2
set_option autoImplicit false
/-! ### defs with defaults -/
def dvD : He.Dv → Option D
  | .non => some .non
  | .bl b => some (.bl b)
  | .int i => some (.int i)
  | .str x => if (x.cps.toList.all fun c => decide (c < 1114112)) = true then some (.str x.cps.toList) else none
  | _ => none
theorem dvD_rep {K : PySem.W.Frag} {mg : Str → Option Value} {F : Hp} {v : He.Dv} {d : D} (h : dvD v = some d) : Rep K mg F d (v.v K) := by
  unfold dvD at h
  split at h
  · cases h; exact .non
  · cases h; exact .bl _
  · cases h; exact .int _
  · split at h
    · rename_i x ho
      cases h
      have q := Rep.str (K := K) (mg := mg) (F := F) _ (okS_of ho)
      rw [mk_of] at q
      exact q
    · cases h
  · cases h
def dvDs : List He.Dv → Option (List D)
  | [] => some []
  | v :: vs => (dvD v).bind fun d => (dvDs vs).map (d :: ·)
theorem dvDs_reps {K : PySem.W.Frag} {mg : Str → Option Value} {F : Hp} : ∀ {vs : List He.Dv} {ds : List D}, dvDs vs = some ds → Reps K mg F ds (vs.map (He.Dv.v K))
  | [], _, h => by cases h; exact .nil
  | v :: vs, ds, h => by
    obtain ⟨d, h1, h2⟩ := Option.bind_eq_some_iff.mp (show (dvD v).bind (fun d => (dvDs vs).map (d :: ·)) = some ds from h)
    obtain ⟨es, h3, h4⟩ := Option.map_eq_some_iff.mp h2
    subst h4
    exact .cons (dvD_rep h1) (dvDs_reps h3)
structure FnBO (P : Program) (w : World) (K : PySem.W.Frag) (mg : Str → Option Value) (base : Heap) (x : Str) (k : Nat) (ps : List Str) (d : He.DefD) (sp : Sp) : Prop where
  ex : ∃ f fd, mg x = some (.ref f) ∧ PySem.W.keepIn K (.ref f) = true ∧ FunD K d.name d.qual d.params d.body d.scope (d.dvs K) (d.kws K) f fd ∧ FnOk P w K mg base (L2N.CX P w) k f fd ps sp
section
variable {fa : List He.Fa} {fn : List He.DefD} {fx : List FaX} {K : PySem.W.Frag} {mg : Str → Option Value} {P : Program} {w : World} {base : Heap}
theorem Tx.fnboV (T : Tx fa fn K mg) (i j : Nat) {d : He.DefD} {x : Str} {N ps : List Str} {k : Nat} {m : Env → SO} (hd : fn[i]? = some d) (hx : fa[j]? = some (.glo x)) (ha : d.at_ = (x, none)) (S : FnScope N ps d.scope)
    (h : ∀ (f : Addr) (cdv : Value) (A : Around) (outer : List PySem.Env) (s : Shared) (H F0 : Hp) (E : XK), Room k (A.deeper (envOfC d.qual d.scope s.heap.objs.size f cdv)) → L2N.Takes (cxOf (L2N.CX P w) P w K mg base N d.qual d.scope f cdv A outer s H E) (cg0 K mg E F0 H).W →
      PassesOwn (model P w) (A.deeper (envOfC d.qual d.scope s.heap.objs.size f cdv)) (envOfC d.qual d.scope s.heap.objs.size f cdv) (cxOf (L2N.CX P w) P w K mg base N d.qual d.scope f cdv A outer s H E).xe →
      ∃ t, FB2 (cxOf (L2N.CX P w) P w K mg base N d.qual d.scope f cdv A outer s H E) (cg0 K mg E F0 H) d.body t m) : FnBO P w K mg base x (k + 1) ps d (spV K mg ps.length (mFn N.length m)) := by
  obtain ⟨fd, F⟩ := T.says.def_ i hd
  have e : He.fAd K d.at_ = He.ga K x := by rw [ha]; rfl
  rw [e] at F
  exact ⟨_, fd, T.glo j hx, F.kp, F, fn_val F S fun cdv A outer s H F0 E hr => h _ cdv A outer s H F0 E hr (L2N.takes_of rfl rfl rfl rfl) (passes_of rfl)⟩
theorem Tx.fnboL (T : Tx fa fn K mg) (i j : Nat) {d : He.DefD} {x : Str} {N ps : List Str} {k : Nat} {m : Env → SO} (hd : fn[i]? = some d) (hx : fa[j]? = some (.glo x)) (ha : d.at_ = (x, none)) (S : FnScope N ps d.scope)
    (h : ∀ (f : Addr) (cdv : Value) (A : Around) (outer : List PySem.Env) (s : Shared) (H F0 : Hp) (E : XK), Room k (A.deeper (envOfC d.qual d.scope s.heap.objs.size f cdv)) → L2N.Takes (cxOf (L2N.CX P w) P w K mg base N d.qual d.scope f cdv A outer s H E) (cg0 K mg E F0 H).W →
      PassesOwn (model P w) (A.deeper (envOfC d.qual d.scope s.heap.objs.size f cdv)) (envOfC d.qual d.scope s.heap.objs.size f cdv) (cxOf (L2N.CX P w) P w K mg base N d.qual d.scope f cdv A outer s H E).xe →
      ∃ t, FB2 (cxOf (L2N.CX P w) P w K mg base N d.qual d.scope f cdv A outer s H E) (cg0 K mg E F0 H) d.body t m) : FnBO P w K mg base x (k + 1) ps d (spL K mg ps.length (mFnL N.length m)) := by
  obtain ⟨fd, F⟩ := T.says.def_ i hd
  have e : He.fAd K d.at_ = He.ga K x := by rw [ha]; rfl
  rw [e] at F
  exact ⟨_, fd, T.glo j hx, F.kp, F, fn_lst F S fun cdv A outer s H F0 E hr => h _ cdv A outer s H F0 E hr (L2N.takes_of rfl rfl rfl rfl) (passes_of rfl)⟩
/-- called with n values, the last parameters by their defaults from the j-th on -/
theorem FnBO.at {x : Str} {k : Nat} {ps : List Str} {d : He.DefD} {sp : Sp} (B : FnBO P w K mg base x k ps d sp) (n j : Nat) {dds : List D} (hr : dvDs (d.dfl.drop j) = some dds) (hd : d.dfl ≠ []) (hn : n + (d.dfl.length - j) = ps.length)
    (h : ∀ (T : Addr) (kV doc pm : Value) (an : Option Addr) (cdv ct : Value) (us its : List Value), us.length = n → its.length = d.dfl.length →
      ∃ k, bindArgs (PySem.W.fnOf d.name d.qual d.params d.body d.scope (.ref T) kV doc pm an cdv ct) ⟨us, []⟩ = seqItems? (.ref T) >>= k ∧ k (some its.toArray) = pure (ps.zip (us ++ its.drop j))) : FnBD P w K mg base x k ps dds sp := by
  obtain ⟨f, fd, h1, h2, F, h3⟩ := B.ex
  have hl : (d.dvs K).length = d.dfl.length := by unfold He.DefD.dvs; rw [List.length_map]
  obtain ⟨ds, v1, v2⟩ := F.binds1 (ps := ps) n j (by unfold He.DefD.dvs; simpa using hd) (by rw [hl]; exact hn) fun T kV doc pm an cdv ct us its h4 h5 => h T kV doc pm an cdv ct us its h4 (by rw [h5, hl])
  refine ⟨f, fd, (d.dvs K).drop j, ds, h1, h2, v2, v1, fun F => ?_, h3⟩
  unfold He.DefD.dvs
  rw [← List.map_drop]
  exact dvDs_reps hr
end
/-! ### own lists -/
theorem FS.st {X : Cx} {C : Cg} {st : Stmt} {t : TS} {m : Env → SO} {i : Nat} (h : FS X C st t m) : FS X C st t (mSet1 i m) := h.settle i
/-- list * int, the new one not settled -/
def lrep : D → D → R (List D)
  | .lst a, .int k => if -1000000 ≤ k ∧ k ≤ 1000000 ∧ a.length * k.toNat ≤ 16777216 then .ok (List.replicate k.toNat a).flatten else .stuck
  | _, _ => .stuck
theorem lrep_ev (a : List D) (k : Int) (h : -1000000 ≤ k) (h' : k ≤ 1000000) (h2 : a.length * k.toNat ≤ 16777216) : lrep (.lst a) (.int k) = .ok (List.replicate k.toNat a).flatten := if_pos ⟨h, h', h2⟩
theorem ol_rep {C : Cg} : OpL C rRep lrep := fun d1 d2 v1 v2 F H E Q s r1 r2 p => by
  unfold lrep at p
  split at p
  · obtain ⟨p1, xs, rfl, h1, q1⟩ := r1.lst s
    have e2 := r2.int
    subst e2
    split at p
    · rename_i hc
      exact ⟨p1, _, xs, rfl, rfl, h1, by omega, by omega, by rw [q1.length, sizeLine_eq]; exact hc.2.2, fun z nz => p _ _ (Ext.raw s nz) z _ nz upd_same (sub_none s nz) (q1.rep _)⟩
    · exact p.elim
  · exact p.elim
def mSetIx (i : Nat) (mi mv : Env → R D) : Env → SO := fun Γ => lift Γ (mv Γ) fun v => match Γ[i]? with
  | some (.own ds) => lift Γ (mi Γ) fun x => (match x with
      | .int k => (match ixN ds.length k with
          | some j => .nx (Γ.set i (.own (ds.set j v)))
          | none => .stuck)
      | _ => .stuck)
  | _ => .stuck
section
variable {X : Cx} {C : Cg} {e ix : Expr} {te ti : TE} {me mi : Env → R D} {i : Nat} {x : Str} {xp sp' pos : Pos}
theorem fs_setIx (hv : PE X (.Name x xp) (tVar i)) (hi : FE X C ix ti mi) (he : FE X C e te me)
    (hs : swapsWithSole [.Subscript (.Name x xp) ix sp'] e pos.line X.env = pure false := by rfl) (hw : swappedStores [.Subscript (.Name x xp) ix sp'] e X.env = pure none := by rfl)
    (h1 : (assignEach [.Subscript (.Name x xp) ix sp'] X.env).map (·.2) = [assign (.Subscript (.Name x xp) ix sp') X.env] := by rfl)
    (ha : ∀ v, assign (.Subscript (.Name x xp) ix sp') X.env v = (do
      let ov ← holding [v] (eval (.Name x xp) X.env)
      let iv ← holding [v, ov] (eval ix X.env)
      standAt sp'
      holding [v, ov, iv] (setItem ov iv v)
      release [v, ov, iv] []) := by intro _; rfl) :
    FS X C (.Assign [.Subscript (.Name x xp) ix sp'] e pos) (tAsg te (gSub (tVar i) ti rSetL)) (mSetIx i mi me) :=
  ⟨ps_asg he.pe (pg_sub hv hi.pe set_list ha) hs hw h1, fun Γ σ F H D en p => he.rd Γ σ F H _ en (PostS.lift p en fun d F' H' x1 p1 v r => by
    split at p1
    · rename_i ds hd
      have en1 := en.step x1
      obtain ⟨o, h1, q, h2, xs, h3, h4, h5, rr⟩ := en1.slot i _ hd
      subst h2
      refine ⟨_, h1, hi.rd Γ σ F' H' _ en1 (PostS.lift p1 en1 fun y F2 H2 x2 p2 w r2 => ?_)⟩
      split at p2
      · split at p2
        · rename_i k j hj
          cases r2
          have g3 := x2.sH _ _ h3
          have g4 := x2.sep _ _ h3 h4
          have rr2 := rr.mono x2.sF
          exact ⟨q, xs, _, j, rfl, rfl, g3, by rw [rr2.length]; exact hj, p2 _ _ _ ((en1.step x2).mut (s := .own (ds.set j d)) hd rfl rfl h1 g4 h5 ⟨q, rfl, xs.set j v, upd_same, g4, h5, rr2.set j (r.mono x2.sF)⟩) (.refl _)⟩
        · exact p2.elim
      · exact p2.elim
    · exact p1.elim)⟩
/-- xs.reverse(), xs.clear() -/
def mMut0 (i : Nat) (f : List D → List D) : Env → SO := fun Γ => match Γ[i]? with
  | some (.own ds) => .nx (Γ.set i (.own (f ds)))
  | _ => .stuck
variable {apos cpos : Pos}
theorem fs_reverse (hv : PE X (.Name x xp) (tVar i)) (hbase : attributeBase (.Name x xp) "reverse" X.env (eval (.Name x xp) X.env) = eval (.Name x xp) X.env := by rfl) (hline : (apos.endLine == cpos.line) = true := by rfl)
    (hsw : swapsWith (.Call (.Attribute (.Name x xp) "reverse" apos) [] [] cpos) none pos.line X.env = pure false := by rfl) :
    FS X C (.Expr (.Call (.Attribute (.Name x xp) "reverse" apos) [] [] cpos) pos) (tDrop (tBM0 X.K "list" rReverse (tVar i))) (mMut0 i List.reverse) :=
  ⟨ps_expr (pe_bm0 PySem.F.plainAttrs_list PySem.F.slot_list_reverse PySem.F.type_list_reverse mt_reverse hv hbase hline) hsw, fun Γ σ F H D en p => by
    unfold mMut0 at p
    split at p
    · rename_i ds hd
      obtain ⟨o, h1, q, h2, xs, h3, h4, h5, r⟩ := en.slot i _ hd
      subst h2
      exact ⟨.ref q, h1, .inl ⟨rfl, _, SqL.of h3⟩, q, xs, rfl, rfl, h3, p _ _ _ (en.mut (s := .own ds.reverse) hd rfl rfl h1 h4 h5 ⟨q, rfl, xs.reverse, upd_same, h4, h5, r.reverse⟩) (.refl _)⟩
    · exact p.elim⟩
theorem fs_clear (hv : PE X (.Name x xp) (tVar i)) (hbase : attributeBase (.Name x xp) "clear" X.env (eval (.Name x xp) X.env) = eval (.Name x xp) X.env := by rfl) (hline : (apos.endLine == cpos.line) = true := by rfl)
    (hsw : swapsWith (.Call (.Attribute (.Name x xp) "clear" apos) [] [] cpos) none pos.line X.env = pure false := by rfl) :
    FS X C (.Expr (.Call (.Attribute (.Name x xp) "clear" apos) [] [] cpos) pos) (tDrop (tBM0 X.K "list" rClear (tVar i))) (mMut0 i fun _ => []) :=
  ⟨ps_expr (pe_bm0 PySem.F.plainAttrs_list PySem.F.slot_list_clear PySem.F.type_list_clear mt_clear hv hbase hline) hsw, fun Γ σ F H D en p => by
    unfold mMut0 at p
    split at p
    · rename_i ds hd
      obtain ⟨o, h1, q, h2, xs, h3, h4, h5, r⟩ := en.slot i _ hd
      subst h2
      exact ⟨.ref q, h1, .inl ⟨rfl, _, SqL.of h3⟩, q, xs, rfl, rfl, h3, p _ _ _ (en.mut (s := .own []) hd rfl rfl h1 h4 h5 ⟨q, rfl, [], upd_same, h4, h5, .nil⟩) (.refl _)⟩
    · exact p.elim⟩
end
def getOwn {α : Type} (k : List D → α) (z : α) : Option Slot → α
  | some (.own ds) => k ds
  | _ => z
theorem getOwn_own {α : Type} (k : List D → α) (z : α) (ds : List D) : getOwn k z (some (.own ds)) = k ds := rfl
theorem mMut0_ev {Γ : Env} (i : Nat) (f : List D → List D) : mMut0 i f Γ = getOwn (fun ds => .nx (Γ.set i (.own (f ds)))) .stuck Γ[i]? := by
  unfold mMut0 getOwn
  split <;> simp_all
def putIx (Γ : Env) (i : Nat) (ds : List D) (v x : D) : SO := match x with
  | .int k => (match ixN ds.length k with
      | some j => .nx (Γ.set i (.own (ds.set j v)))
      | none => .stuck)
  | _ => .stuck
theorem mSetIx_ev {Γ : Env} (i : Nat) (mi mv : Env → R D) : mSetIx i mi mv Γ = lift Γ (mv Γ) fun v => getOwn (fun ds => lift Γ (mi Γ) fun x => putIx Γ i ds v x) .stuck Γ[i]? := by
  have e : (fun v : D => (match Γ[i]? with
    | some (.own ds) => lift Γ (mi Γ) fun x => putIx Γ i ds v x
    | _ => SO.stuck)) = fun v => getOwn (fun ds => lift Γ (mi Γ) fun x => putIx Γ i ds v x) .stuck Γ[i]? := by
    funext v
    unfold getOwn
    split <;> simp_all
  rw [← e]
  rfl
theorem putIx_ok {Γ : Env} {i : Nat} {ds : List D} {v : D} (k : Int) (h : 0 ≤ k) (h' : k < ds.length) : putIx Γ i ds v (.int k) = .nx (Γ.set i (.own (ds.set k.toNat v))) := by
  unfold putIx
  have e : ixN ds.length k = some k.toNat := by
    unfold ixN
    simp only [h, h']
    simp <;> omega
  simp only [e]
/-! ### reversed(..) -/
def gRev : List D → R (List D)
  | [.lst ds] => .ok ds.reverse
  | _ => .stuck
theorem rev_lst (ds : List D) : gRev [.lst ds] = .ok ds.reverse := rfl
section
variable {X : Cx} {C : Cg} {tg e : Expr} {t : TA} {m : Env → R (List D)} {p pos : Pos}
theorem itv_ok {a : Addr} {xs : List V} {ds : List D} {F1 : Hp} (h : ∀ F H, Same F1 F → Same F H → SqL C.K H a xs) (r : Reps C.K C.mg F1 ds xs) : ItOk C (Itv C.K a xs.length) ds.reverse F1 :=
  ⟨fun F H s1 s2 => by show xs.length ≤ ds.reverse.length; rw [List.length_reverse, r.length]; exact Nat.le_refl _,
    fun F H i hi s1 s2 => by
      rw [List.length_reverse] at hi
      have l := r.length
      exact ⟨by omega, xs, xs[xs.length - 1 - i]'(by omega), h F H s1 s2, List.getElem?_eq_getElem _⟩,
    fun F H i d x H' hd s1 s2 y => by
      obtain ⟨e, y⟩ := y
      subst e
      have hi : i < ds.length := by
        have := (List.getElem?_eq_some_iff.mp hd).1
        simpa using this
      rw [List.getElem?_reverse hi] at hd
      obtain ⟨v, h1, h2⟩ := r.get hd
      have l := r.length
      have e2 : x = v := Option.some.inj ((y xs (h F _ s1 s2)).symm.trans (by rw [l]; exact h1))
      subst e2
      exact ⟨F, Ext.refl s2, h2.mono s1⟩⟩
theorem fi_rev (hK : X.K = C.K) (hg : Gl X "reversed") (hm : X.mg "reversed" = none) (ha : FA X C [e] t m) (hs : starEach [e] X.env = [(false, eval e X.env)] := by rfl) : FI X C tg (.Call (.Name "reversed" p) [e] [] pos) (iRev X.K t) (mCall gRev m) :=
  ⟨pi_reversed hg hm ha.pa hs, fun Γ σ F H Q en q => ha.rd Γ σ F H _ en (Post.bind q fun ds F1 H1 x1 p1 vs rs => by
    rw [hK]
    unfold gRev at p1
    split at p1
    · cases rs with
      | cons r rs =>
        cases rs
        cases r with
        | lst h r => exact ⟨_, _, rfl, .inl (.inl (x1.sub _ _ h)), p1 F1 H1 (Ext.refl x1.sub) _ (itv_ok (fun F2 H2 s1 s2 => .inl (.inl (s2 _ _ (s1 _ _ h)))) r)⟩
    · exact p1.elim)⟩
/-! ### a constant tuple, list of the module -/
def dvL : List He.Dv → List D := fun vs => (dvDs vs).getD []
theorem fe_gtup {x : Str} {A : Addr} {vs : List He.Dv} {ds : List D} {pos : Pos} (hK : X.K = C.K) (h : X.mg x = some (.ref A) ∧ ∀ H, SqT X.K H A (vs.map (He.Dv.v X.K))) (hg : Gl X x) (hd : dvDs vs = some ds) (hdb : (x == ("__debug__" : Str)) = false := by decide) : FE X C (.Name x pos) (tC (.ref A)) (mC (.tup ds)) :=
  fe_tC (pe_glob hg h.1 rfl hdb) fun F => .tup (by rw [← hK]; exact h.2 F) (dvDs_reps hd)
end
end FL

set_option Elab.async false
set_option linter.all false
set_option maxRecDepth 100000
set_option maxHeartbeats 2000000
/-! FL, part 15: one sign in a text: how often, where; rows of a text. -/
namespace FL
open PySem PySem.Spec PyProof.Rows L2
set_option autoImplicit false
/-! ### count, find, rfind of one sign -/
theorem cnt_count (c : Nat) : ∀ l : List Nat, cnt c l = (l.count c : Int)
  | [] => rfl
  | n :: r => by
    rw [cnt_cons, cnt_count c r, List.count_cons]
    by_cases h : n = c
    · simp [h]; omega
    · simp [h]
theorem count_sg (l : List Nat) (c : Nat) : Txt.count (mk l) (mk [c]) = (l.count c : Int) := by
  have h := count_is (mk l) c
  rw [mk_list] at h
  exact h.trans (cnt_count c l)
theorem mk_getD (l : List Nat) (v : Nat) : (mk l).cps.getD v 0 = l.getD v 0 := by
  show l.toArray.getD v 0 = _
  simp [Array.getD, List.getD]
  split
  · rename_i h; simp [h]
  · rename_i h; simp [List.getElem?_eq_none (Nat.le_of_not_lt h)]
/-- the first c from i on -/
theorem find3_sg (l : List Nat) (c i : Nat) (hi : i ≤ l.length) :
    (Txt.find3 (mk l) (mk [c]) (i : Int) = -1 ∧ ∀ v, i ≤ v → v < l.length → l.getD v 0 ≠ c) ∨
    ∃ k : Nat, Txt.find3 (mk l) (mk [c]) (i : Int) = (k : Int) ∧ i ≤ k ∧ k < l.length ∧ l.getD k 0 = c ∧ ∀ v, i ≤ v → v < k → l.getD v 0 ≠ c := by
  have hf : PySem.fromIndex (mk l).length (i : Int) = i := by
    unfold PySem.fromIndex
    rw [if_neg (by omega)]
    omega
  have h := StrLaws.find3_spec (mk l) c (i : Int)
  rw [hf, mk_len] at h
  simp only [mk_getD] at h
  exact h
theorem rfind_sg (l : List Nat) (c : Nat) :
    (Txt.rfind (mk l) (mk [c]) = -1 ∧ c ∉ l) ∨ ∃ k : Nat, Txt.rfind (mk l) (mk [c]) = (k : Int) ∧ l[k]? = some c ∧ ∀ v, k < v → l[v]? ≠ some c := by
  have e : Txt.rfind (mk l) (mk [c]) = (match Builtin.Str.lastOccurrence (mk l) ⟨#[c]⟩ 0 (mk l).length with | some i => (i : Int) | none => -1) := rfl
  rw [e]
  have at_ : ∀ i, StrLaws.At (mk l) ⟨#[c]⟩ (mk l).length i ↔ l[i]? = some c := fun i => by
    have := StrLaws.subAt_one (mk l) c i
    rw [mk_list] at this
    exact this
  rcases StrLaws.last_spec (mk l) ⟨#[c]⟩ with ⟨h1, h2⟩ | ⟨i, h1, h2, h3⟩
  · refine .inl ⟨by rw [h1], fun hm => ?_⟩
    obtain ⟨j, hj⟩ := List.getElem?_of_mem hm
    exact h2 j ((at_ j).mpr hj)
  · exact .inr ⟨i, by rw [h1], (at_ i).mp h2, fun v hv z => h3 v hv ((at_ v).mpr z)⟩
/-! ### rows -/
/-- the r-th row begins at b, ends at e -/
def IsB (l : List Nat) (r b : Nat) : Prop := b ≤ l.length ∧ (l.take b).count 10 = r ∧ (b = 0 ∨ l.getD (b - 1) 0 = 10)
def IsE (l : List Nat) (b e : Nat) : Prop := b ≤ e ∧ e ≤ l.length ∧ (∀ v, b ≤ v → v < e → l.getD v 0 ≠ 10) ∧ (e = l.length ∨ l.getD e 0 = 10)
theorem count_step {l : List Nat} {i : Nat} (h : i < l.length) : (l.take (i + 1)).count 10 = (l.take i).count 10 + if l.getD i 0 = 10 then 1 else 0 := by
  rw [List.take_add_one, List.count_append, List.getElem?_eq_getElem h, List.getD_eq_getElem?_getD, List.getElem?_eq_getElem h]
  by_cases q : l[i] = 10
  · simp [q]
  · simp [q, List.count_singleton]
theorem count_mono {l : List Nat} {a b : Nat} (h : a ≤ b) : (l.take a).count 10 ≤ (l.take b).count 10 := by
  have e : l.take b = l.take a ++ (l.drop a).take (b - a) := by
    rw [← List.take_add]; congr 1; omega
  rw [e, List.count_append]; omega
theorem count_none {l : List Nat} {a : Nat} : ∀ {b : Nat}, a ≤ b → b ≤ l.length → (∀ v, a ≤ v → v < b → l.getD v 0 ≠ 10) → (l.take b).count 10 = (l.take a).count 10
  | 0, h, _, _ => by rw [show a = 0 by omega]
  | b + 1, h, hb, hn => by
    by_cases q : a = b + 1
    · rw [q]
    · rw [count_step (by omega), if_neg (hn b (by omega) (by omega)), count_none (by omega) (by omega) fun v h1 h2 => hn v h1 (by omega)]; rfl
theorem count_hit {l : List Nat} {v a b : Nat} (h1 : a ≤ v) (h2 : v < b) (h3 : v < l.length) (h : l.getD v 0 = 10) : (l.take a).count 10 < (l.take b).count 10 := by
  have s := count_step h3
  rw [if_pos h] at s
  have m1 := count_mono (l := l) h1
  have m2 := count_mono (l := l) (show v + 1 ≤ b from h2)
  omega
theorem IsB.uniq {l : List Nat} {r b b' : Nat} (h : IsB l r b) (h' : IsB l r b') : b = b' := by
  obtain ⟨a1, a2, a3⟩ := h
  obtain ⟨c1, c2, c3⟩ := h'
  rcases Nat.lt_trichotomy b b' with q | q | q
  · rcases c3 with z | z
    · omega
    · have := count_hit (l := l) (v := b' - 1) (a := b) (b := b') (by omega) (by omega) (by omega) z
      omega
  · exact q
  · rcases a3 with z | z
    · omega
    · have := count_hit (l := l) (v := b - 1) (a := b') (b := b) (by omega) (by omega) (by omega) z
      omega
theorem IsE.uniq {l : List Nat} {b e e' : Nat} (h : IsE l b e) (h' : IsE l b e') : e = e' := by
  obtain ⟨a1, a2, a3, a4⟩ := h
  obtain ⟨c1, c2, c3, c4⟩ := h'
  rcases Nat.lt_trichotomy e e' with q | q | q
  · rcases a4 with z | z
    · omega
    · exact absurd z (c3 e a1 q)
  · exact q
  · rcases c4 with z | z
    · omega
    · exact absurd z (a3 e' c1 q)
/-- from a place of the row its end is that of the row -/
theorem IsE.from_ {l : List Nat} {b p e : Nat} (h : IsE l p e) (hbp : b ≤ p) (hn : ∀ v, b ≤ v → v < p → l.getD v 0 ≠ 10) : IsE l b e := by
  obtain ⟨a1, a2, a3, a4⟩ := h
  refine ⟨by omega, a2, fun v h1 h2 => ?_, a4⟩
  by_cases q : v < p
  · exact hn v h1 q
  · exact a3 v (by omega) h2
/-- the row of a place begins at or ahead of it, and no line feed stands between -/
theorem IsB.place {l : List Nat} {b p : Nat} (h : IsB l ((l.take p).count 10) b) (hp : p ≤ l.length) : b ≤ p ∧ ∀ v, b ≤ v → v < p → l.getD v 0 ≠ 10 := by
  obtain ⟨a1, a2, a3⟩ := h
  have hb : b ≤ p := by
    by_cases q : b ≤ p
    · exact q
    · rcases a3 with z | z
      · omega
      · have := count_hit (l := l) (v := b - 1) (a := p) (b := b) (by omega) (by omega) (by omega) z
        omega
  refine ⟨hb, fun v h1 h2 z => ?_⟩
  have := count_hit (l := l) (v := v) (a := b) (b := p) h1 h2 (by omega) z
  omega
theorem count_lt {l : List Nat} {p : Nat} : (l.take p).count 10 ≤ l.count 10 := by
  have := List.count_append (a := 10) (l₁ := l.take p) (l₂ := l.drop p)
  rw [List.take_append_drop] at this
  omega
/-! ### equal to itself -/
mutual
theorem eqv_self : ∀ d : D, d.pl = true → D.eqv d d = true
  | .non, _ => rfl
  | .bl b, _ => by cases b <;> rfl
  | .int i, _ => decide_eq_true rfl
  | .str s, _ => decide_eq_true rfl
  | .lst ds, h => eqvs_self ds h
  | .tup ds, h => eqvs_self ds h
  | .dct _, h => by cases h
  | .scr _, h => by cases h
  | .glo _, h => by cases h
  | .ty _, h => by cases h
theorem eqvs_self : ∀ ds : List D, D.pls ds = true → D.eqvs ds ds = true
  | [], _ => rfl
  | d :: ds, h => by
    obtain ⟨h1, h2⟩ := Bool.and_eq_true_iff.mp (show (D.pl d && D.pls ds) = true from h)
    show (D.eqv d d && D.eqvs ds ds) = true
    rw [eqv_self d h1, eqvs_self ds h2]; rfl
end
theorem eq_self {d : D} (h : d.pl = true) (h2 : d.dep ≤ 64) : D.eq d d = .ok (.bl true) := by
  have e : D.cmpOk d d = true := by unfold D.cmpOk; simp [h, h2]
  unfold D.eq
  rw [if_pos e, eqv_self d h]
theorem ne_self {d : D} (h : d.pl = true) (h2 : d.dep ≤ 64) : D.ne d d = .ok (.bl false) := by
  have e : D.cmpOk d d = true := by unfold D.cmpOk; simp [h, h2]
  unfold D.ne
  rw [if_pos e, eqv_self d h]; rfl
theorem pls_map {α : Type} {f : α → D} (h : ∀ x, (f x).pl = true) : ∀ xs : List α, D.pls (xs.map f) = true
  | [] => rfl
  | x :: xs => by
    show ((f x).pl && D.pls (xs.map f)) = true
    rw [h x, pls_map h xs]; rfl
theorem deps_map {α : Type} {f : α → D} {n : Nat} (h : ∀ x, (f x).dep ≤ n) : ∀ xs : List α, D.deps (xs.map f) ≤ n
  | [] => Nat.zero_le _
  | x :: xs => Nat.max_le.mpr ⟨h x, deps_map h xs⟩
/-- a splice; a row of splices -/
abbrev Sp3 := Int × List Nat × List Nat
def spd (s : Sp3) : D := .tup [.int s.1, .str s.2.1, .str s.2.2]
theorem spd_pl (s : Sp3) : (spd s).pl = true := rfl
theorem spd_dep (s : Sp3) : (spd s).dep ≤ 1 := Nat.le_refl 1
theorem spds_eq (S : List Sp3) : D.eq (.lst (S.map spd)) (.lst (S.map spd)) = .ok (.bl true) :=
  eq_self (pls_map spd_pl S) (Nat.succ_le_of_lt (Nat.lt_of_le_of_lt (deps_map spd_dep S) (by decide)))
theorem spds_ne (S : List Sp3) : D.ne (.lst (S.map spd)) (.lst (S.map spd)) = .ok (.bl false) :=
  ne_self (pls_map spd_pl S) (Nat.succ_le_of_lt (Nat.lt_of_le_of_lt (deps_map spd_dep S) (by decide)))
theorem nc0 : ((0 : Nat) : Int) = 0 := rfl
theorem nc1 : ((1 : Nat) : Int) = 1 := rfl
theorem nc2 : ((2 : Nat) : Int) = 2 := rfl
theorem nc3 : ((3 : Nat) : Int) = 3 := rfl
theorem nc4 : ((4 : Nat) : Int) = 4 := rfl
theorem nc5 : ((5 : Nat) : Int) = 5 := rfl
theorem nc6 : ((6 : Nat) : Int) = 6 := rfl
theorem nc7 : ((7 : Nat) : Int) = 7 := rfl
theorem nc8 : ((8 : Nat) : Int) = 8 := rfl
theorem nc9 : ((9 : Nat) : Int) = 9 := rfl
theorem nc10 : ((10 : Nat) : Int) = 10 := rfl
theorem nc11 : ((11 : Nat) : Int) = 11 := rfl
theorem nc12 : ((12 : Nat) : Int) = 12 := rfl
theorem nc13 : ((13 : Nat) : Int) = 13 := rfl
theorem cut_one (t : List Nat) (h : Nat) : cutL t (some (h : Int)) (some ((h : Int) + 1)) = if h < t.length then [t.getD h 0] else [] := by
  rw [cut_int _ _ _ (by omega) (by omega), show ((h : Int) + 1).toNat - (h : Int).toNat = 1 by omega, Int.toNat_natCast]
  by_cases q : h < t.length
  · rw [if_pos q, List.drop_eq_getElem_cons q, List.getD_eq_getElem?_getD, List.getElem?_eq_getElem q]; rfl
  · rw [if_neg q, List.drop_of_length_le (by omega)]; rfl
/-- None, or two places and a word -/
def r3 : Option (Int × Int × List Nat) → D
  | none => .non
  | some (a, b, s) => .tup [.int a, .int b, .str s]
theorem r3_eq (a b : Int) (s : List Nat) : D.eq (.tup [.int a, .int b, .str s]) (.tup [.int a, .int b, .str s]) = .ok (.bl true) := eq_self rfl (by show 1 ≤ 64; omega)
theorem ediv_abs (c d : Int) (hd : 0 < d) : (c / d).natAbs ≤ c.natAbs := by
  rcases Int.lt_or_le c 0 with h | h
  · have h1 : c / d < 0 := Int.ediv_neg_of_neg_of_pos h hd
    have h2 : c ≤ c / d := by
      have h3 := Int.mul_ediv_add_emod c d
      have h4 := Int.emod_nonneg c (by omega : d ≠ 0)
      have h5 := Int.emod_lt_of_pos c hd
      have h6 : c / d * d ≤ c / d * 1 := Int.mul_le_mul_of_nonpos_left (by omega) (by omega)
      rcases Int.lt_or_le (c / d) c with z | z
      · exfalso
        have h7 : (c / d) * d ≤ (c - 1) * d := Int.mul_le_mul_of_nonneg_right (by omega) (by omega)
        have h8 : d * (c / d) = (c / d) * d := Int.mul_comm _ _
        have h9 : (c - 1) * d = c * d - d := by rw [Int.sub_mul, Int.one_mul]
        have h10 : c * d ≤ c * 1 := Int.mul_le_mul_of_nonpos_left (by omega) (by omega)
        omega
      · exact z
    omega
  · have h1 : 0 ≤ c / d := Int.ediv_nonneg h (by omega)
    have h2 : c / d ≤ c := Int.ediv_le_self _ h
    omega
end FL

set_option Elab.async false
set_option linter.all false
set_option maxRecDepth 100000
set_option maxHeartbeats 2000000
/-! FL, part 16: what is never reached. -/
namespace FL
open PySem PySem.Spec PyProof.Rows L2
set_option autoImplicit false
def mStk {α : Type} : Env → R α := fun _ => .stuck
def sStk : Env → SO := fun _ => .stuck
section
variable {X : Cx} {C : Cg}
theorem fe_stuck {e : Expr} : FE X C e (fun _ _ _ => False) mStk := ⟨⟨fun _ _ _ _ _ _ h => h.elim⟩, fun _ _ _ _ _ _ p => p.elim⟩
theorem fl_stuck {e : Expr} : FL X C e (fun _ _ _ => False) mStk := ⟨⟨fun _ _ _ _ _ _ h => h.elim⟩, fun _ _ _ _ _ _ p => p.elim⟩
theorem ft_stuck {e : Expr} : FT X C e (fun _ _ _ => False) mStk := ⟨⟨fun _ _ _ _ _ _ h => h.elim⟩, fun _ _ _ _ _ _ p => p.elim⟩
theorem fs_stuck {s : Stmt} : FS X C s (fun _ _ _ => False) sStk := ⟨⟨fun _ _ _ _ _ _ h => h.elim⟩, fun _ _ _ _ _ _ p => p.elim⟩
theorem fi_stuck {tg e : Expr} : FI X C tg e (fun _ _ _ => False) mStk := ⟨⟨fun _ _ _ _ _ _ h => h.elim⟩, fun _ _ _ _ _ _ p => p.elim⟩
end
/-! ### range by a step -/
def gRange3X : List D → R (List D)
  | [.int i, .int j, .int c] => if c ≠ 0 ∧ c.natAbs < 1073741824 ∧ Builtin.Range.small i j c = true ∧ 0 ≤ Builtin.Range.rangeSize i j c then .ok (rngL i c (Builtin.Range.rangeSize i j c).toNat) else .stuck
  | _ => .stuck
section
variable {X : Cx} {C : Cg} {tg a b c : Expr} {t : TA} {m : Env → R (List D)} {p pos : Pos}
theorem fi_range3X (hg : Gl X "range") (hm : X.mg "range" = none) (ha : FA X C [a, b, c] t m) (hs : starEach [a, b, c] X.env = (false, eval a X.env) :: starEach [b, c] X.env := by rfl) (hpl : (backTo pos (starEach [b, c] X.env)).any (·.1) = false := by rfl) : FI X C tg (.Call (.Name "range" p) [a, b, c] [] pos) (iRng3 t) (mCall gRange3X m) :=
  ⟨pi_range3 hg hm ha.pa hs hpl, fun Γ σ F H Q en q => ha.rd Γ σ F H _ en (Post.bind q fun ds F1 H1 x1 p1 vs rs => by
    unfold gRange3X at p1
    split at p1
    · split at p1
      · rename_i i j c hj
        cases rs with
        | cons r rs =>
          cases rs with
          | cons r2 rs =>
            cases rs with
            | cons r3 rs =>
              cases rs
              cases r
              cases r2
              cases r3
              obtain ⟨h1, h2, h3, h4⟩ := hj
              exact ⟨i, j, c, _, rfl, ⟨h1, h2, h3, (Int.toNat_of_nonneg h4).symm⟩, p1 F1 H1 (Ext.refl x1.sub) _ itc_ok⟩
      · exact p1.elim
    · exact p1.elim)⟩
end
theorem range_by2 (i j : Int) (h : -1000000000 ≤ i) (h1 : i ≤ 1000000000) (h2 : -1000000000 ≤ j) (h3 : j ≤ 1000000000) : gRange3X [.int i, .int j, .int 2] = .ok (rngL i 2 (if i < j then ((j - i - 1) / 2 + 1).toNat else 0)) := by
  have e : Builtin.Range.rangeSize i j 2 = if i < j then (j - i - 1) / 2 + 1 else 0 := by unfold Builtin.Range.rangeSize; simp
  have s : Builtin.Range.small i j 2 = true := by
    unfold Builtin.Range.small
    rw [e]
    simp only [Builtin.Range.rangeFitsLong, Bool.and_eq_true, Bool.or_eq_true, decide_eq_true_eq, beq_iff_eq, show ((2 : Int) > 0) from by decide, if_true]
    split <;> omega
  have n : 0 ≤ Builtin.Range.rangeSize i j 2 := by rw [e]; split <;> omega
  show (if (2 : Int) ≠ 0 ∧ (2 : Int).natAbs < 1073741824 ∧ Builtin.Range.small i j 2 = true ∧ 0 ≤ Builtin.Range.rangeSize i j 2 then R.ok (rngL i 2 (Builtin.Range.rangeSize i j 2).toNat) else .stuck) = _
  rw [if_pos ⟨by decide, by decide, s, n⟩, e]
  split <;> rfl
end FL

set_option Elab.async false
set_option linter.all false
set_option maxRecDepth 100000
set_option maxHeartbeats 2000000
/-! FL, part 17: own lists lent to a def that tells a flat thing. -/
namespace FL
open PySem PySem.Spec PyProof.Rows L2
set_option autoImplicit false
/-- the lists that are read, settled for the while -/
theorem lend {C : Cg} {H : Hp} : ∀ {ds : List D} {vs : List V} {F : Hp}, Same F H → RepRs C F H ds vs → ∃ F', Same F F' ∧ Same F' H ∧ Reps C.K C.mg F' ds vs
  | _, _, F, s, .nil => ⟨F, .refl F, s, .nil⟩
  | _, _, F, s, .cons (d := d) (v := v) (ds := ds) (vs := vs) h r => by
    rcases h with h | ⟨p, es, xs, h1, h2, h3, h4, h5⟩
    · obtain ⟨F', g1, g2, g3⟩ := lend s r
      exact ⟨F', g1, g2, .cons (h.mono g1) g3⟩
    · subst h1 h2
      have s1 : Same F (upd F p (.lst xs)) := same_upd h4
      have s2 : Same (upd F p (.lst xs)) H := fun b x e => by
        by_cases hb : b = p
        · subst hb; rw [upd_same] at e; cases e; exact h3
        · rw [upd_ne hb] at e; exact s b x e
      have r' : RepRs C (upd F p (.lst xs)) H ds vs := by
        clear s2
        induction r with
        | nil => exact .nil
        | cons h' r' ih =>
          refine .cons ?_ ih
          rcases h' with h' | ⟨q, fs, ys, g1, g2, g3, g4, g5⟩
          · exact .inl (h'.mono s1)
          · by_cases hq : q = p
            · subst hq
              rw [h3] at g3
              cases g3
              refine .inl ?_
              subst g1 g2
              exact .lst upd_same (g5.mono s1)
            · exact .inr ⟨q, fs, ys, g1, g2, g3, by rw [upd_ne hq]; exact g4, g5.mono s1⟩
      obtain ⟨F', g1, g2, g3⟩ := lend s2 r'
      exact ⟨F', s1.trans g1, g2, .cons (.lst (g1 _ _ upd_same) ((h5.mono s1).mono g1)) g3⟩
theorem flat_any {K : PySem.W.Frag} {mg : Str → Option Value} {F F' : Hp} {d : D} {v : V} (h : Rep K mg F d v) (f : d.flat = true) : Rep K mg F' d v := by
  cases h <;> first | exact .non | exact .bl _ | exact .int _ | exact .str _ (by assumption) | cases f
def flatR (r : R D) : R D := match r with
  | .ok d => if d.flat = true then .ok d else .stuck
  | .exc n none => .exc n none
  | _ => .stuck
def mCallR (g : List D → R D) (m : Env → R (List D)) : Env → R D := fun Γ => m Γ >>= fun ds => flatR (g ds)
theorem mCallR_ev {Γ : Env} (g : List D → R D) (m : Env → R (List D)) : mCallR g m Γ = (m Γ >>= fun ds => flatR (g ds)) := rfl
theorem flatR_bl (b : Bool) : flatR (.ok (.bl b)) = .ok (.bl b) := rfl
theorem flatR_int (b : Int) : flatR (.ok (.int b)) = .ok (.int b) := rfl
theorem flatR_str (b : List Nat) : flatR (.ok (.str b)) = .ok (.str b) := rfl
theorem flatR_non : flatR (.ok .non) = .ok .non := rfl
theorem flatR_exc (n : Str) : flatR (.exc n none) = .exc n none := rfl
section
variable {X : Cx} {C : Cg} {k : Nat} {ps : List Str} {x : Str} {p pos : Pos} {e : Expr} {es : List Expr} {t : TA} {m : Env → R (List D)} {dds : List D}
theorem cal_rdR {g : List D → R D} {n : Nat} {es : List Expr} (hK : X.K = C.K) (hmg : X.mg = C.mg) (ha : FB X C es t m) (hn : es.length + dds.length = n) (hl : ∀ Γ ds, m Γ = .ok ds → ds.length = es.length) : ∀ Γ σ F H Q, EnvOk C Γ σ F H → Post C (WE C.W σ) F H (mCallR (fun ds => g (ds ++ dds)) m Γ) (kV C Q) → tCal (spV X.K X.mg n g) C.W dds X.K X.mg t σ H Q := fun Γ σ F H Q en p dvs hd => by
  unfold mCallR at p
  have hl' := hl Γ
  refine ha.rd Γ σ F H _ en ?_
  revert p hl'
  cases m Γ with
  | ok ds =>
    intro p hl' F' H' x' vs rs
    have p2 : Post C (WE C.W σ) F' H' (flatR (g (ds ++ dds))) (kV C Q) := Post.step (show Post C (WE C.W σ) F H (flatR (g (ds ++ dds))) (kV C Q) from p) x'
    obtain ⟨Fp, s1, s2, r1⟩ := lend x'.sub rs
    have r2 : Reps C.K C.mg Fp (ds ++ dds) (vs ++ dvs) := r1.append (by rw [← hK, ← hmg]; exact hd Fp)
    refine ⟨?_, Fp, ds ++ dds, s2, by rw [hK, hmg]; exact r2, ?_⟩
    · rw [r2.length, List.length_append, hl' ds rfl]; exact hn
    · revert p2
      have ex : ∀ {F2 H2 : Hp}, Ext Fp H' F2 H2 → Ext F' H' F' H2 := fun {F2 H2} x2 => ⟨.refl _, x2.sH, x'.sub.trans x2.sH, fun _ _ _ h => h⟩
      cases g (ds ++ dds) with
      | ok d =>
        intro p2
        unfold flatR at p2
        by_cases hf : d.flat = true
        · have p3 : Post C (WE C.W σ) F' H' (.ok d) (kV C Q) := by simpa [hf] using p2
          exact fun F2 H2 x2 v rv => p3 F' H2 (ex x2) v (by rw [← hK, ← hmg]; exact flat_any rv hf)
        · have p3 : Post C (WE C.W σ) F' H' .stuck (kV C Q) := by simpa [hf] using p2
          exact p3.elim
      | exc n d =>
        intro p2
        cases d with
        | none => exact fun F2 H2 cls dv x2 q => p2 F' H2 cls dv (ex x2) (by obtain ⟨q1, q2, q3⟩ := q; exact ⟨by rw [← hmg]; exact q1, q2, q3⟩)
        | some d => exact p2.elim
      | stuck => exact fun p2 => p2.elim
  | exc n d => exact fun p _ => p
  | stuck => exact fun p _ => p
/-- f(e, ..), own lists among the arguments; it tells a flat thing -/
theorem fe_callR {g : List D → R D} {n : Nat} (B : FnBD X.prog X.w X.K X.mg X.base x k ps dds (spV X.K X.mg n g)) (hK : X.K = C.K) (hmg : X.mg = C.mg) (hr : Room k X.A) (hg : Gl X x) (tk : L2N.Takes X C.W) (ha : FB X C (e :: es) t m) (hn : (e :: es).length + dds.length = n) (hl : ∀ Γ ds, m Γ = .ok ds → ds.length = (e :: es).length) (hdb : (x == ("__debug__" : Str)) = false := by decide) (he : starEach (e :: es) X.env = (false, eval e X.env) :: starEach es X.env := by rfl) (hpl : (backTo pos (starEach es X.env)).any (·.1) = false := by rfl) :
    FE X C (.Call (.Name x p) (e :: es) [] pos) (tCal (spV X.K X.mg n g) C.W dds X.K X.mg t) (mCallR (fun ds => g (ds ++ dds)) m) := ⟨cal_pe B hr hg tk ha.pa hdb he hpl, cal_rdR hK hmg ha hn hl⟩
end
end FL

set_option Elab.async false
set_option linter.all false
set_option maxRecDepth 100000
namespace FL
open PySem PySem.Spec PyProof.Rows L2
set_option autoImplicit false
/-! ### a text cut at its line feeds -/
def rowsA : List Nat → List Nat → List (List Nat)
  | acc, [] => [acc]
  | acc, c :: r => if c = 10 then acc :: rowsA [] r else rowsA (acc ++ [c]) r
def rowsOf (t : List Nat) : List (List Nat) := rowsA [] t
theorem spl_rows : ∀ (l acc : List Nat), TL.spl [10] 0 acc l = rowsA acc l
  | [], acc => TL.spl_nil _ _ _
  | c :: r, acc => by
    by_cases q : c = 10
    · have : TL.pre [10] (c :: r) = true := by rw [q]; rfl
      rw [TL.spl_hit this]
      show acc :: TL.spl [10] 0 [] r = if c = 10 then acc :: rowsA [] r else rowsA (acc ++ [c]) r
      rw [if_pos q, spl_rows r]
    · have : TL.pre [10] (c :: r) = false := by
        show ([c] == [10]) = false
        exact beq_eq_false_iff_ne.mpr fun z => q (List.cons.inj z).1
      rw [TL.spl_miss this, spl_rows r]
      show _ = if c = 10 then acc :: rowsA [] r else rowsA (acc ++ [c]) r
      rw [if_neg q]
theorem rowsA_mem : ∀ {l acc : List Nat} {p : List Nat}, p ∈ rowsA acc l → ∀ c ∈ p, c ∈ acc ∨ c ∈ l
  | [], acc, p, h, c, hc => by
    rw [List.mem_singleton.mp h] at hc; exact .inl hc
  | d :: r, acc, p, h, c, hc => by
    have h' : p ∈ if d = 10 then acc :: rowsA [] r else rowsA (acc ++ [d]) r := h
    split at h'
    · rcases List.mem_cons.mp h' with e | e
      · rw [e] at hc; exact .inl hc
      · rcases rowsA_mem e c hc with z | z
        · cases z
        · exact .inr (List.mem_cons_of_mem _ z)
    · rcases rowsA_mem h' c hc with z | z
      · rcases List.mem_append.mp z with z | z
        · exact .inl z
        · rw [List.mem_singleton.mp z]; exact .inr (List.mem_cons_self ..)
      · exact .inr (List.mem_cons_of_mem _ z)
theorem rowsA_le : ∀ {l acc : List Nat} {p : List Nat}, p ∈ rowsA acc l → p.length ≤ acc.length + l.length
  | [], acc, p, h => by rw [List.mem_singleton.mp h]; exact Nat.le_add_right _ _
  | d :: r, acc, p, h => by
    have h' : p ∈ if d = 10 then acc :: rowsA [] r else rowsA (acc ++ [d]) r := h
    rw [List.length_cons]
    split at h'
    · rcases List.mem_cons.mp h' with e | e
      · rw [e]; omega
      · have := rowsA_le e
        rw [List.length_nil] at this
        omega
    · have := rowsA_le h'
      rw [List.length_append, List.length_singleton] at this
      omega
theorem outL_of : ∀ {ss : List Str}, (∀ s ∈ ss, okS (TL.tl s)) → outL ss = .ok ((ss.map TL.tl).map D.str)
  | [], _ => rfl
  | s :: r, h => by
    show (outS s >>= fun d => outL r >>= fun ds => R.ok (d :: ds)) = _
    rw [outS_ok (mk_of s).symm (h s (List.mem_cons_self ..)), outL_of fun x hx => h x (List.mem_cons_of_mem _ hx)]
    rfl
theorem split_rows (t : List Nat) (h : okS t) (hl : t.length ≤ 16000000) : g_split t [.str [10]] = .ok ((rowsOf t).map D.str) := by
  show (if ([10] : List Nat) ≠ [] ∧ t.length + 2 ≤ 16777216 then outL (Txt.split (mk t) (mk [10])) else .stuck) = _
  rw [if_pos ⟨by simp, by omega⟩]
  have e : (Txt.split (mk t) (mk [10])).map TL.tl = rowsOf t := by
    rw [TL.split_spl (mk t) (mk [10]) (by simp [TL.tl, mk]) (TL.kind_ok (by simp [mk]))]
    exact spl_rows t []
  rw [outL_of, e]
  intro s hs c hc
  have : TL.tl s ∈ rowsOf t := by rw [← e]; exact List.mem_map_of_mem hs
  rcases rowsA_mem this c hc with z | z
  · cases z
  · exact h c z
/-- the begins of rows that stand from b on, and one behind the last's end -/
def hdsA : Nat → List (List Nat) → List Nat
  | _, [] => []
  | b, r :: rs => (b + r.length + 1) :: hdsA (b + r.length + 1) rs
def hds (t : List Nat) : List Nat := 0 :: hdsA 0 (rowsOf t)
theorem hdsA_len : ∀ (rs : List (List Nat)) (b : Nat), (hdsA b rs).length = rs.length
  | [], _ => rfl
  | r :: rs, b => by show (hdsA _ rs).length + 1 = _; rw [hdsA_len rs]; rfl
theorem hds_all : ∀ (l u acc : List Nat), (∀ c ∈ acc, c ≠ 10) → (u = [] ∨ u.getD (u.length - 1) 0 = 10) →
    (u.length :: hdsA u.length (rowsA acc l)).length = l.count 10 + 2 ∧
    (∀ j, j ≤ l.count 10 → IsB (u ++ acc ++ l) (u.count 10 + j) ((u.length :: hdsA u.length (rowsA acc l)).getD j 0)) ∧
    (u.length :: hdsA u.length (rowsA acc l)).getD (l.count 10 + 1) 0 = (u ++ acc ++ l).length + 1
  | [], u, acc, ha, hu => by
    refine ⟨rfl, fun j hj => ?_, ?_⟩
    · have hj0 : j = 0 := by simpa using hj
      subst hj0
      refine ⟨by simp, ?_, ?_⟩
      · show ((u ++ acc ++ []).take u.length).count 10 = _
        rw [List.append_nil, List.take_left, Nat.add_zero]
      · show u.length = 0 ∨ _
        rcases hu with hu | hu
        · left; rw [hu]; rfl
        · by_cases z : u.length = 0
          · exact .inl z
          right
          show (u ++ acc ++ []).getD (u.length - 1) 0 = 10
          rw [List.append_nil, List.getD_eq_getElem?_getD, List.getElem?_append_left (by omega), ← List.getD_eq_getElem?_getD]
          exact hu
    · show u.length + acc.length + 1 = _
      simp
  | c :: r, u, acc, ha, hu => by
    by_cases q : c = 10
    · subst q
      obtain ⟨i1, i2, i3⟩ := hds_all r (u ++ acc ++ [10]) [] (by simp) (.inr (by
        rw [List.length_append, List.getD_eq_getElem?_getD, List.getElem?_append_right (by simp)]
        simp))
      have eL : (u ++ acc ++ [10]).length = u.length + acc.length + 1 := by rw [List.length_append, List.length_append]; rfl
      have eT : u ++ acc ++ [10] ++ [] ++ r = u ++ acc ++ 10 :: r := by simp
      have eC : (u ++ acc ++ [10]).count 10 = u.count 10 + 1 := by
        rw [List.count_append, List.count_append, List.count_eq_zero.mpr fun h => ha 10 h rfl]; rfl
      have eR : rowsA acc (10 :: r) = acc :: rowsA [] r := if_pos rfl
      have eN : (10 :: r).count 10 = r.count 10 + 1 := List.count_cons_self
      rw [eT, eL] at i2 i3
      rw [eL] at i1
      rw [eR, eN]
      refine ⟨?_, fun j hj => ?_, ?_⟩
      · show ((u.length + acc.length + 1) :: hdsA (u.length + acc.length + 1) (rowsA [] r)).length + 1 = _
        rw [i1]
      · cases j with
        | zero =>
          refine ⟨by show u.length ≤ _; simp, ?_, ?_⟩
          · show ((u ++ acc ++ 10 :: r).take u.length).count 10 = _
            rw [List.append_assoc, List.take_left, Nat.add_zero]
          · show u.length = 0 ∨ (u ++ acc ++ 10 :: r).getD (u.length - 1) 0 = 10
            rcases hu with hu | hu
            · left; rw [hu]; rfl
            · by_cases z : u.length = 0
              · exact .inl z
              right
              rw [List.append_assoc, List.getD_eq_getElem?_getD, List.getElem?_append_left (by omega), ← List.getD_eq_getElem?_getD]
              exact hu
        | succ j =>
          have := i2 j (by omega)
          rw [eC, Nat.add_assoc, Nat.add_comm 1 j] at this
          exact this
      · exact i3
    · obtain ⟨i1, i2, i3⟩ := hds_all r u (acc ++ [c]) (fun x hx => by
        rcases List.mem_append.mp hx with h | h
        · exact ha x h
        · rw [List.mem_singleton.mp h]; exact q) hu
      have eT : u ++ (acc ++ [c]) ++ r = u ++ acc ++ c :: r := by simp
      have eR : rowsA acc (c :: r) = rowsA (acc ++ [c]) r := if_neg q
      have eN : (c :: r).count 10 = r.count 10 := List.count_cons_of_ne q
      rw [eT] at i2 i3
      rw [eR, eN]
      exact ⟨i1, i2, i3⟩
theorem hds_len (t : List Nat) : (hds t).length = t.count 10 + 2 := (hds_all t [] [] (by simp) (.inl rfl)).1
theorem hds_B {t : List Nat} {j : Nat} (h : j ≤ t.count 10) : IsB t j ((hds t).getD j 0) := by
  have := (hds_all t [] [] (by simp) (.inl rfl)).2.1 j h
  rw [show ([] : List Nat).count 10 = 0 from rfl, Nat.zero_add] at this
  exact this
theorem hds_end (t : List Nat) : (hds t).getD (t.count 10 + 1) 0 = t.length + 1 := (hds_all t [] [] (by simp) (.inl rfl)).2.2
/-- the next row begins behind a place just where the place is of the row or ahead -/
theorem hds_le {t : List Nat} {p i : Nat} (hp : p ≤ t.length) (h : i < t.count 10 + 1) : (hds t).getD (i + 1) 0 ≤ p ↔ i < (t.take p).count 10 := by
  by_cases q : i + 1 ≤ t.count 10
  · obtain ⟨a1, a2, a3⟩ := hds_B q
    constructor
    · intro z
      have := count_mono (l := t) z
      omega
    · intro z
      by_cases w : (hds t).getD (i + 1) 0 ≤ p
      · exact w
      · rcases a3 with a3 | a3
        · omega
        · have := count_hit (l := t) (v := (hds t).getD (i + 1) 0 - 1) (a := p) (b := (hds t).getD (i + 1) 0) (by omega) (by omega) (by omega) a3
          omega
  · have e : i = t.count 10 := by omega
    rw [e, hds_end]
    have := count_lt (l := t) (p := p)
    omega
/-- a row ends one ahead of the next's begin -/
theorem hds_E {t : List Nat} {i : Nat} (h : i < t.count 10 + 1) : IsE t ((hds t).getD i 0) ((hds t).getD (i + 1) 0 - 1) := by
  obtain ⟨a1, a2, a3⟩ := hds_B (show i ≤ t.count 10 by omega)
  by_cases q : i + 1 ≤ t.count 10
  · obtain ⟨c1, c2, c3⟩ := hds_B q
    have hlt : (hds t).getD i 0 < (hds t).getD (i + 1) 0 := by
      by_cases w : (hds t).getD i 0 < (hds t).getD (i + 1) 0
      · exact w
      · have := count_mono (l := t) (show (hds t).getD (i + 1) 0 ≤ (hds t).getD i 0 by omega)
        omega
    have c3 : t.getD ((hds t).getD (i + 1) 0 - 1) 0 = 10 := by
      rcases c3 with z | z
      · omega
      · exact z
    refine ⟨by omega, by omega, fun v h1 h2 z => ?_, .inr c3⟩
    have s1 := count_hit (l := t) (v := v) (a := (hds t).getD i 0) (b := (hds t).getD (i + 1) 0 - 1) h1 h2 (by omega) z
    have s2 := count_hit (l := t) (v := (hds t).getD (i + 1) 0 - 1) (a := (hds t).getD (i + 1) 0 - 1) (b := (hds t).getD (i + 1) 0) (by omega) (by omega) (by omega) c3
    omega
  · have e : i = t.count 10 := by omega
    rw [e, hds_end, Nat.add_sub_cancel]
    rw [e] at a1 a2
    refine ⟨a1, Nat.le_refl _, fun v h1 h2 z => ?_, .inl rfl⟩
    have := count_hit (l := t) (v := v) (a := (hds t).getD (t.count 10) 0) (b := t.length) h1 h2 (by omega) z
    rw [List.take_length] at this
    omega
theorem hds_bd {t : List Nat} {i : Nat} (h : i < t.count 10 + 2) : (hds t).getD i 0 ≤ t.length + 1 := by
  by_cases q : i ≤ t.count 10
  · have := (hds_B q).1; omega
  · have e : i = t.count 10 + 1 := by omega
    rw [e, hds_end]; exact Nat.le_refl _
theorem ix_lst_last {A : List D} {x : D} : D.ix (.lst (A ++ [x])) (.int (-1)) = .ok x := by
  have e : atI (A ++ [x]) (-1) = some x := by
    refine atI_iff.mpr ⟨A.length, ?_, by simp⟩
    unfold ixN
    rw [List.length_append, List.length_singleton]
    simp
    omega
  show (match atI (A ++ [x]) (-1) with | some d => R.ok d | none => .stuck) = _
  rw [e]
theorem hds_mono {t : List Nat} {i j : Nat} (h : i ≤ j) (hj : j < t.count 10 + 2) : (hds t).getD i 0 ≤ (hds t).getD j 0 := by
  by_cases q : j ≤ t.count 10
  · have a := hds_B (t := t) (j := i) (by omega)
    have b := hds_B (t := t) (j := j) q
    by_cases w : (hds t).getD i 0 ≤ (hds t).getD j 0
    · exact w
    · have := count_mono (l := t) (show (hds t).getD j 0 ≤ (hds t).getD i 0 by omega)
      rw [a.2.1, b.2.1] at this
      have e : i = j := by omega
      rw [e]; exact Nat.le_refl _
  · have e : j = t.count 10 + 1 := by omega
    by_cases z : i = j
    · rw [z]; exact Nat.le_refl _
    · have a := (hds_B (t := t) (j := i) (by omega)).1
      rw [e, hds_end]; omega
theorem hds_zero (t : List Nat) : (hds t).getD 0 0 = 0 := rfl
theorem hds_at {t : List Nat} {p : Nat} (hp : p ≤ t.length) : (hds t).getD ((t.take p).count 10) 0 ≤ p := by
  cases e : (t.take p).count 10 with
  | zero => rw [hds_zero]; exact Nat.zero_le _
  | succ i =>
    have h := count_lt (l := t) (p := p)
    exact (hds_le hp (by omega)).mpr (by omega)
theorem hds_near {t : List Nat} {p : Nat} (hp : p ≤ t.length) (xs : List Nat) (hxs : xs = (hds t).filter fun v => decide (v ≤ p)) : xs ≠ [] ∧ maxL (xs.map fun (v : Nat) => (v : Int)) = (((hds t).getD ((t.take p).count 10) 0 : Nat) : Int) := by
  have hc := count_lt (l := t) (p := p)
  have hl := hds_len t
  have hm : (hds t).getD ((t.take p).count 10) 0 ∈ xs := by
    rw [hxs]
    refine List.mem_filter.mpr ⟨?_, decide_eq_true (hds_at hp)⟩
    rw [List.getD_eq_getElem?_getD, List.getElem?_eq_getElem (by omega : (t.take p).count 10 < (hds t).length)]
    exact List.getElem_mem _
  have hne : xs ≠ [] := List.ne_nil_of_mem hm
  refine ⟨hne, ?_⟩
  obtain ⟨m1, m2⟩ := maxL_mem (ns := xs.map fun (v : Nat) => (v : Int)) (by simpa using hne)
  obtain ⟨v, hv, ev⟩ := List.mem_map.mp m1
  rw [← ev]
  have g1 := m2 _ (List.mem_map_of_mem hm)
  rw [← ev] at g1
  rw [hxs] at hv
  obtain ⟨hv1, hv2⟩ := List.mem_filter.mp hv
  have hv2 : v ≤ p := of_decide_eq_true hv2
  obtain ⟨j, hj, ej⟩ := List.getElem_of_mem hv1
  have ej' : (hds t).getD j 0 = v := by rw [List.getD_eq_getElem?_getD, List.getElem?_eq_getElem hj, ej]; rfl
  have hjr : j ≤ (t.take p).count 10 := by
    cases j with
    | zero => exact Nat.zero_le _
    | succ i => exact (hds_le (t := t) (p := p) (i := i) hp (by omega)).mp (by omega)
  have := hds_mono (t := t) hjr (by omega)
  have g1' : (((hds t).getD ((t.take p).count 10) 0 : Nat) : Int) ≤ (v : Int) := g1
  omega
theorem hds_next {t : List Nat} {p : Nat} (hp : p ≤ t.length) (xs : List Nat) (hxs : xs = (hds t).filter fun v => decide (p < v)) : xs ≠ [] ∧ minL (xs.map fun (v : Nat) => (v : Int)) = (((hds t).getD ((t.take p).count 10 + 1) 0 : Nat) : Int) := by
  have hc := count_lt (l := t) (p := p)
  have hl := hds_len t
  have hlt : p < (hds t).getD ((t.take p).count 10 + 1) 0 := by
    have := hds_le (t := t) (p := p) (i := (t.take p).count 10) hp (by omega)
    have : ¬ (hds t).getD ((t.take p).count 10 + 1) 0 ≤ p := fun z => Nat.lt_irrefl _ (this.mp z)
    omega
  have hm : (hds t).getD ((t.take p).count 10 + 1) 0 ∈ xs := by
    rw [hxs]
    refine List.mem_filter.mpr ⟨?_, decide_eq_true hlt⟩
    rw [List.getD_eq_getElem?_getD, List.getElem?_eq_getElem (by omega : (t.take p).count 10 + 1 < (hds t).length)]
    exact List.getElem_mem _
  have hne : xs ≠ [] := List.ne_nil_of_mem hm
  refine ⟨hne, ?_⟩
  obtain ⟨m1, m2⟩ := minL_mem (ns := xs.map fun (v : Nat) => (v : Int)) (by simpa using hne)
  obtain ⟨v, hv, ev⟩ := List.mem_map.mp m1
  rw [← ev]
  have g1 := m2 _ (List.mem_map_of_mem hm)
  rw [← ev] at g1
  rw [hxs] at hv
  obtain ⟨hv1, hv2⟩ := List.mem_filter.mp hv
  have hv2 : p < v := of_decide_eq_true hv2
  obtain ⟨j, hj, ej⟩ := List.getElem_of_mem hv1
  have ej' : (hds t).getD j 0 = v := by rw [List.getD_eq_getElem?_getD, List.getElem?_eq_getElem hj, ej]; rfl
  have hjr : (t.take p).count 10 + 1 ≤ j := by
    cases j with
    | zero => rw [hds_zero] at ej'; omega
    | succ i =>
      have := hds_le (t := t) (p := p) (i := i) hp (by omega)
      by_cases z : i < (t.take p).count 10
      · have := this.mpr z; omega
      · omega
  have := hds_mono (t := t) hjr (by omega)
  have g1' : (v : Int) ≤ (((hds t).getD ((t.take p).count 10 + 1) 0 : Nat) : Int) := g1
  omega
end FL

set_option Elab.async false
set_option linter.all false
set_option maxRecDepth 100000
namespace FL
open PySem PySem.Spec PyProof.Rows L2 L2H HotX
set_option autoImplicit false
/-! ### a def that is called in a suite, with the exception that is handled there -/
structure FnE (P : Program) (w : World) (K : PySem.W.Frag) (mg : Str → Option Value) (base : Heap) (CX : CXT) (k : Nat) (f : Addr) (fd : FuncData) (ps : List Str) (sp : Addr × Obj → Sp) : Prop where
  len : ∀ p vs H Q E, sp p vs H Q E → vs.length = ps.length
  run : ∀ (A : Around) (outer : List PySem.Env) (s : Shared) (H : Hp) (args : Args) (us : List Value) (vs : List V) (Q : VK) (E : XK) (p : Addr × Obj), RoomH k A → Hot1 A p → PinOk outer H s p → Env0 P w K mg base A outer s H → BindsTo s fd args (ps.zip us) → Vals vs us → sp p vs H Q E →
    codeAny (model P w) A (.call (.ref f) args) (CR CX outer P w H s Q E) s
section
variable {P : Program} {w : World} {K : PySem.W.Frag} {mg : Str → Option Value} {base : Heap} {CX : CXT} {k : Nat} {f : Addr} {fd : FuncData} {ps N : List Str} {sp : Addr × Obj → Sp} {x qual : Str} {params : Arguments} {body : List Stmt} {scope : Scope} {dvs : List V} {kws : List (Str × V)}
/-- one exception at a time: what FnH promises of the specification at p -/
theorem fnE_of (F : FunD K x qual params body scope dvs kws f fd) (S : FnScope N ps scope) (len : ∀ p vs H Q E, sp p vs H Q E → vs.length = ps.length)
    (hbody : ∀ (cdv : Value) (A : Around) (outer : List PySem.Env) (s : Shared) (H : Hp) (vs : List V) (Q : VK) (E : XK) (p : Addr × Obj), Hot1 A p → RoomH k (A.deeper (envOfC qual scope s.heap.objs.size f cdv)) → sp p vs H Q E →
      ∃ t, PSs (cxH CX P w K mg base N qual scope f cdv A outer s H E p) body t ∧ t { nx := fun _ H' => Q .non H', rt := Q } (L2.start N vs) H) : FnE P w K mg base CX (k + 1) f fd ps sp := by
  obtain ⟨oc, od, dV, kV, doc, pm, an, cdv, ct, osl, rfl, lk, hcd, _, _⟩ := F.ex
  refine ⟨len, fun A outer s H args us vs Q E p hr hot hpin e0 hb r hsp => ?_⟩
  have hl := len _ _ _ _ _ hsp
  have KX : K.In s.heap := e0.mod.kin.keeps fun b o e => (e0.bs b o e).1
  have lim : s.heap.NoLimit := e0.mod.nolimit.keeps fun b o e => (e0.bs b o e).1
  have hkind : ∀ y ∈ ps.zip us, scope.names.lookup y.1 = some .local ∨ (scope.names.lookup y.1 = some .cell ∧ ((cellsFrom (s.heap.objs.size + 1) scope.names []).lookup y.1).isSome = true) := fun ⟨n, v⟩ hy =>
    (S.par n (List.of_mem_zip hy).1).imp id fun q => ⟨q, PySem.W.cellsFrom_some _ _ _ (.inl q)⟩
  refine codeAny_call_function hr.depth (KX _ _ lk) rfl S.co S.gen rfl (PySem.W.codeRec_of KX hcd) (hb _ _ _ _ ?_)
  refine wpAny_newFunctionEnv_cells S.kind hkind fun env he s1 x1 => ?_
  subst he
  refine ⟨lim.keeps x1.toInCall.keep, codeAny_func ?_⟩
  obtain ⟨t, ht, hq⟩ := hbody cdv A outer s H vs Q E p hot (hr.deeper _) hsp
  refine wpAny_mono (ht.run [] s1 (L2.start N vs) H _ (inv_startH S hpin e0 hl r x1) hq) (fun fl s' hs => ?_) fun e s' hs => hs
  cases fl with
  | ret u => obtain ⟨v, σ', H', J, rv, q⟩ := hs; exact ⟨v, H', J.os, J.bare, J.base, J.hok, rv, q⟩
  | next => obtain ⟨σ', H', J, q⟩ := hs; exact ⟨V.non, H', J.os, J.bare, J.base, J.hok, rfl, q⟩
  | brk => obtain ⟨_, _, _, q⟩ := hs; exact q.elim
  | cont => obtain ⟨_, _, _, q⟩ := hs; exact q.elim
end
section
variable {X : Cx} {CX : CXT} {k : Nat} {f : Addr} {fd : FuncData} {ps : List Str} {sp : Addr × Obj → Sp} {E : St → XK} {x : Str} {q pos : Pos} {e : Expr} {es : List Expr} {t : TA}
theorem run_fnE {pins : List (Addr × Obj)} {σ : St} {H : Hp} {s : Shared} {Q : VK} {us : List Value} {vs : List V} {p : Addr × Obj} (F : FnE X.prog X.w X.K X.mg X.base CX k f fd ps sp) (hr : RoomH k X.A) (hot : Hot1 X.A p) (hp : p ∈ X.pn) (hb : Binds X.K fd ps []) (hx : PassesAt CX X σ (E σ))
    (I : Inv X pins σ H s) (r : Vals vs us) (h : sp p vs H Q (E σ)) : wpAny (model X.prog X.w) X.A (call (.ref f) us) (EP X pins σ Q) X.xe s := by
  have hl : us.length = ps.length := by rw [← r.length]; exact F.len _ _ _ _ _ h
  have b := hb s us I.kIn (by rw [List.append_nil]; exact hl)
  rw [List.append_nil] at b
  obtain ⟨p1, p2, p3, p4⟩ := I.pin p (List.mem_append_left _ hp)
  have hpin : PinOk X.stack H s p := ⟨p1, p2, fun hm => (List.mem_cons.mp (I.stkSub p.1 hm)).elim p3 p4.1, p4.2⟩
  refine wpAny_call (codeAny_mono (F.run X.A X.stack s H ⟨us, []⟩ us vs Q (E σ) p hr hot hpin I.env0 b r h) fun r s' hq => ?_)
  cases r with
  | error e => exact hx pins H s e s' I hq
  | ok fl =>
    cases fl with
    | ret u => exact I.after hq
    | next => exact hq.elim
    | brk => exact hq.elim
    | cont => exact hq.elim
theorem pe_callE {p : Addr × Obj} (F : FnE X.prog X.w X.K X.mg X.base CX k f fd ps sp) (hr : RoomH k X.A) (hot : Hot1 X.A p) (hp : p ∈ X.pn) (hg : Gl X x) (hm : X.mg x = some (.ref f)) (hk : PySem.W.keepIn X.K (.ref f) = true) (hb : Binds X.K fd ps []) (hx : ∀ σ, PassesAt CX X σ (E σ))
    (ha : PA X (e :: es) t) (hdb : (x == ("__debug__" : Str)) = false := by decide) (he : starEach (e :: es) X.env = (false, eval e X.env) :: starEach es X.env := by rfl) (hpl : (backTo pos (starEach es X.env)).any (·.1) = false := by rfl) :
    PE X (.Call (.Name x q) (e :: es) [] pos) (tCallS (sp p) E t) :=
  ⟨fun pins s σ H Q I h => wpAny_Call_Name_kw (ld_glob I hg hm (PySem.W.callWith_K (h₀ := X.base) I.ok.mod.kin hk (thn (ha.run pos pins s σ H _ I h) fun us s1 ⟨vs, H1, I1, r, y⟩ => ⟨I1.kIn, run_fnE F hr hot hp hb (hx σ) I1 r y⟩) he hpl) hdb)⟩
end
/-! ### isinstance of it there -/
theorem mark_self {A : Around} {v : Value} (h : A.handled = some v) : A.mark (some v) = A := by
  cases A; cases h; rfl
theorem call_isEH {X : Cx} {a D : Addr} {oe : Obj} {pn : List (Addr × Obj)} (hA : X.A.handled = some (.ref a)) (hc : X.calm = false) (hp : X.pn = (a, oe) :: pn) (hC : ExcC X.K D) (hz : Zc (.ref D) none oe) (hf : ∃ vs, oe.data = .fields vs) : CallR X (.builtin "isinstance") (rIsE X.K D a) := by
  have ex : suiteX X a ((a, oe) :: pn) = X := by
    show ({ X with A := X.A.mark (some (.ref a)), calm := false, pn := (a, oe) :: pn } : Cx) = X
    rw [mark_self hA, ← hc, ← hp]
  intro pins s σ H xs us Q I r h
  have J : Inv (X.suite a ((a, oe) :: pn)) pins σ H s := (show Inv (suiteX X a ((a, oe) :: pn)) pins σ H s by rw [ex]; exact I).wish fun _ _ => False
  have g := call_isE (X := X) (pn := pn) hC hz hf pins s σ H xs us Q J r h
  have g2 : wpAny (model X.prog X.w) (X.A.mark (some (.ref a))) (call (.builtin "isinstance") us) (EP (X.suite a ((a, oe) :: pn)) pins σ Q) (fun _ _ => False) s := g
  rw [mark_self hA] at g2
  refine wpAny_mono g2 (fun u s' hu => ?_) fun e s' hs => hs.elim
  obtain ⟨v, H', J', rv, q⟩ := hu
  refine ⟨v, H', ?_, rv, q⟩
  have J2 := suiteX_of J'
  rw [ex] at J2
  exact J2
/-! isinstance(e, Y) in such a def's body -/
section
variable {X : Cx} {C : Cg} {nm x y : Str} {i : Nat} {a : Addr} {oe : Obj} {pn : List (Addr × Obj)} {cls : Value} {d : Option Addr} {n : Str} {tab : List (Str × Bool)} {np q pos p1 p2 : Pos} {k : Nat} {ps : List Str}
theorem fe_isEH (hot : X.A.handled = some (.ref a)) (hcm : X.calm = false) (hpn : X.pn = (a, oe) :: pn) (hz : L2N.Zn cls d oe) (hv : ∃ vs, oe.data = .fields vs) (hK : X.K = C.K) (hmg : X.mg = C.mg)
    (he : PE X (.Name nm p1) (tVar i)) (hg : Gl X y) (hmy : X.mg y = some (.ref (He.ga X.K y))) (hg2 : Gl X "isinstance") (hm2 : X.mg "isinstance" = none)
    (ht : ∀ p ∈ tab, X.mg p.1 = some (.ref (He.ga X.K p.1)) ∧ ExcC X.K (He.ga X.K p.1) ∧ PySem.W.kitOne X.K (.ref (He.ga X.K p.1)) (.ref (He.ga X.K y)) = some p.2) (hdy : (y == ("__debug__" : Str)) = false := by decide)
    (hst : starEach [.Name nm p1, .Name y p2] X.env = (false, eval (.Name nm p1) X.env) :: starEach [.Name y p2] X.env := by rfl) (hst2 : starEach [.Name y p2] X.env = (false, eval (.Name y p2) X.env) :: starEach [] X.env := by rfl)
    (hpl : (backTo pos (starEach [.Name y p2] X.env)).any (·.1) = false := by rfl) :
    FE X (C.su i a cls d n) (.Call (.Name "isinstance" np) [.Name nm p1, .Name y p2] [] pos) (tIsE X.K cls d i a (.ref (He.ga X.K y))) (mIsE tab n) := by
  refine ⟨⟨fun pins s σ H Q I h => ?_⟩, isE_rd hK (fun p hp => by rw [← hmg]; exact ht p hp)⟩
  obtain ⟨D, b, rfl, rfl, g2, g3, g4, q⟩ := h
  refine (pe_callB (call_isEH hot hcm hpn g2 hz.zc hv) hg2 hm2 (by decide +kernel) (pa_cons he (pa_cons (pe_glob (v := .ref (He.ga X.K y)) hg hmy rfl hdy) pa_nil hst2) hst) (by decide) (by decide) hst hpl).run pins s σ H Q I ?_
  exact ⟨_, g4, .ref (He.ga X.K y), .ref (He.ga X.K y), b, rfl, fun u hu => hu, g3, q⟩
theorem fe_isETH {t : String} (hot : X.A.handled = some (.ref a)) (hcm : X.calm = false) (hpn : X.pn = (a, oe) :: pn) (hz : L2N.Zn cls d oe) (hv : ∃ vs, oe.data = .fields vs) (hK : X.K = C.K) (hmg : X.mg = C.mg)
    (he : PE X (.Name nm p1) (tVar i)) (hg : Gl X y) (hmy : X.mg y = none) (hby : bootBuiltins y = some (.type t)) (hg2 : Gl X "isinstance") (hm2 : X.mg "isinstance" = none)
    (ht : ∀ p ∈ tab, X.mg p.1 = some (.ref (He.ga X.K p.1)) ∧ ExcC X.K (He.ga X.K p.1) ∧ PySem.W.kitOne X.K (.ref (He.ga X.K p.1)) (.type t) = some p.2) (hny : y ≠ "__name__" := by decide) (hdy : (y == ("__debug__" : Str)) = false := by decide)
    (hst : starEach [.Name nm p1, .Name y p2] X.env = (false, eval (.Name nm p1) X.env) :: starEach [.Name y p2] X.env := by rfl) (hst2 : starEach [.Name y p2] X.env = (false, eval (.Name y p2) X.env) :: starEach [] X.env := by rfl)
    (hpl : (backTo pos (starEach [.Name y p2] X.env)).any (·.1) = false := by rfl) :
    FE X (C.su i a cls d n) (.Call (.Name "isinstance" np) [.Name nm p1, .Name y p2] [] pos) (tIsE X.K cls d i a (.type t)) (mIsE tab n) := by
  refine ⟨⟨fun pins s σ H Q I h => ?_⟩, isE_rd hK (fun p hp => by rw [← hmg]; exact ht p hp)⟩
  obtain ⟨D, b, rfl, rfl, g2, g3, g4, q⟩ := h
  refine (pe_callB (call_isEH hot hcm hpn g2 hz.zc hv) hg2 hm2 (by decide +kernel) (pa_cons he (pa_cons (pe_bltn (v := .ty t) hg hmy hby rfl hny hdy) pa_nil hst2) hst) (by decide) (by decide) hst hpl).run pins s σ H Q I ?_
  exact ⟨_, g4, .ty t, .type t, b, rfl, fun u hu => hu, g3, q⟩
end
/-! ### such a def by its plain function -/
/-- what is known of the exception -/
def ExcIs (mg : Str → Option Value) (p : Addr × Obj) (n : Str) (cls : Value) : Prop := L2N.Zn cls none p.2 ∧ (∃ us, p.2.data = .fields us) ∧ mg n = some cls ∧ ∃ A, cls = .ref A
def spLE (K : PySem.W.Frag) (mg : Str → Option Value) (g : Str → R (List D)) : Addr × Obj → Sp := fun p vs H Q E => ∃ n cls F, vs = [.ref p.1] ∧ ExcIs mg p n cls ∧ Same F H ∧ Post (cg0 K mg E F H) E F H (g n) (kL (cg0 K mg E F H) H Q)
def spVE (K : PySem.W.Frag) (mg : Str → Option Value) (g : Str → R D) : Addr × Obj → Sp := fun p vs H Q E => ∃ n cls F, vs = [.ref p.1] ∧ ExcIs mg p n cls ∧ Same F H ∧ Post (cg0 K mg E F H) E F H (g n) (kV (cg0 K mg E F H) Q)
def retLE : SO → R (List D)
  | .rtL ds => .ok ds
  | _ => .stuck
def retDE : SO → R D
  | .nx _ => .ok .non
  | .rt d => .ok d
  | .rtL ds => .ok (.lst ds)
  | _ => .stuck
theorem retLE_rtL (ds : List D) : retLE (.rtL ds) = .ok ds := rfl
theorem retDE_rt (d : D) : retDE (.rt d) = .ok d := rfl
def mFnLE (k : Nat) (m : Str → Env → SO) : Str → R (List D) := fun n => retLE (m n (List.replicate k .no))
def mFnE (k : Nat) (m : Str → Env → SO) : Str → R D := fun n => retDE (m n (List.replicate k .no))
structure FnBE (P : Program) (w : World) (K : PySem.W.Frag) (mg : Str → Option Value) (base : Heap) (x : Str) (k : Nat) (y : Str) (sp : Addr × Obj → Sp) : Prop where
  ex : ∃ f fd, mg x = some (.ref f) ∧ PySem.W.keepIn K (.ref f) = true ∧ (∀ (s : Shared) (us : List Value), us.length = [y].length → BindsTo s fd ⟨us, []⟩ ([y].zip us)) ∧ FnE P w K mg base (L2N.CX P w) k f fd [y] sp
theorem env_startE {K : PySem.W.Frag} {mg : Str → Option Value} {E : XK} {F H : Hp} {N : List Str} {p : Addr × Obj} {n : Str} {cls : Value} (s : Same F H) (hx : ExcIs mg p n cls) (hl : 1 ≤ N.length) : EnvOk ((cg0 K mg E F H).su 0 p.1 cls none n) (List.replicate N.length .no) (L2.start N [.ref p.1]) F H := by
  refine ⟨Ext.refl s, ⟨rfl, hx.2.2.1, hx.2.2.2, rfl⟩, ?_, fun i t h => ?_, fun i j t u q h1 h2 o1 => ?_⟩
  · unfold L2.start
    simp
    omega
  · rw [List.getElem?_replicate] at h
    split at h
    · rename_i hi
      cases h
      have hi' : i < (L2.start N [V.ref p.1]).length := by
        unfold L2.start
        simp
        omega
      exact ⟨_, List.getElem?_eq_getElem hi', trivial⟩
    · cases h
  · rw [List.getElem?_replicate] at h1
    split at h1
    · cases h1; cases o1
    · cases h1
section
variable {fa : List He.Fa} {fn : List He.DefD} {K : PySem.W.Frag} {mg : Str → Option Value} {P : Program} {w : World} {base : Heap}
theorem Tx.fnbLE (T : Tx fa fn K mg) (i j : Nat) {d : He.DefD} {x y : Str} {N : List Str} {k : Nat} {m : Str → Env → SO} (hd : fn[i]? = some d) (hx : fa[j]? = some (.glo x)) (ha : d.at_ = (x, none)) (hdf : d.dfl = []) (S : FnScope N [y] d.scope)
    (hb : ∀ (kV doc pm : Value) (an : Option Addr) (cdv ct : Value) (us : List Value), us.length = [y].length → bindArgs (PySem.W.fnOf d.name d.qual d.params d.body d.scope .none kV doc pm an cdv ct) ⟨us, []⟩ = pure ([y].zip us))
    (h : ∀ (f : Addr) (cdv : Value) (A : Around) (outer : List PySem.Env) (s : Shared) (H F0 : Hp) (E : XK) (a : Addr) (oe : Obj) (n : Str) (cls : Value), (A.deeper (envOfC d.qual d.scope s.heap.objs.size f cdv)).handled = some (.ref a) → L2N.Zn cls none oe → (∃ us, oe.data = .fields us) →
      PassesOwn (model P w) (A.deeper (envOfC d.qual d.scope s.heap.objs.size f cdv)) (envOfC d.qual d.scope s.heap.objs.size f cdv) (cxOf (L2N.CX P w) P w K mg base N d.qual d.scope f cdv A outer s H E).xe →
      ∃ t, FB2 (cxH (L2N.CX P w) P w K mg base N d.qual d.scope f cdv A outer s H E (a, oe)) ((cg0 K mg E F0 H).su 0 a cls none n) d.body t (m n)) : FnBE P w K mg base x (k + 1) y (spLE K mg (mFnLE N.length m)) := by
  obtain ⟨fd, F⟩ := T.says.def_ i hd
  have e : He.fAd K d.at_ = He.ga K x := by rw [ha]; rfl
  rw [e] at F
  have e2 : d.dvs K = [] := by
    show d.dfl.map (He.Dv.v K) = []
    rw [hdf]; rfl
  rw [e2] at F
  refine ⟨_, fd, T.glo j hx, F.kp, F.bindsA hb, fnE_of F S (fun p vs H Q E ⟨_, _, _, e, _⟩ => by rw [e]; rfl) fun cdv A outer s H vs Q E p hot hr hsp => ?_⟩
  obtain ⟨n, cls, F0, rfl, hx, sF, po⟩ := hsp
  obtain ⟨a, oe⟩ := p
  obtain ⟨t, hbd⟩ := h _ cdv A outer s H F0 E a oe n cls hot.1 hx.1 hx.2.1 (passes_of rfl)
  have hN : 1 ≤ N.length := by
    have := congrArg List.length S.pre
    rw [List.length_take] at this
    have e : [y].length = 1 := rfl
    omega
  refine ⟨t, hbd.ps, hbd.rd _ _ F0 H _ (env_startE sF hx hN) ?_⟩
  unfold mFnLE at po
  revert po
  cases m n (List.replicate N.length .no) with
  | nx Γ => exact fun p => p.elim
  | rt d => exact fun p => p.elim
  | rtL d => exact fun p q xs F' H' e n nF hq r => p F' H' e q xs n hq nF r
  | bk Γ => exact fun p => p.elim
  | ct Γ => exact fun p => p.elim
  | ex Γ n d => exact fun p => p.elim
  | stuck => exact fun p => p.elim
end
section
variable {X : Cx} {C : Cg} {nm x y : Str} {i : Nat} {a : Addr} {oe : Obj} {pn : List (Addr × Obj)} {cls : Value} {d : Option Addr} {n : Str} {q pos p1 : Pos} {k : Nat}
def mCallE {α : Type} (g : Str → R α) (n : Str) : Env → R α := fun _ => g n
theorem fl_callE {g : Str → R (List D)} (B : FnBE X.prog X.w X.K X.mg X.base x k y (spLE X.K X.mg g)) (hz : L2N.Zn cls d oe) (hv : ∃ vs, oe.data = .fields vs) (hK : X.K = C.K) (hmg : X.mg = C.mg) (hr : Room k X.A)
    (he : PE (X.suite a ((a, oe) :: pn)) (.Name nm p1) (tVar i)) (hg : Gl (X.suite a ((a, oe) :: pn)) x) (hdb : (x == ("__debug__" : Str)) = false := by decide)
    (hst : starEach [.Name nm p1] (X.suite a ((a, oe) :: pn)).env = (false, eval (.Name nm p1) (X.suite a ((a, oe) :: pn)).env) :: starEach [] (X.suite a ((a, oe) :: pn)).env := by rfl)
    (hpl : (backTo pos (starEach [] (X.suite a ((a, oe) :: pn)).env)).any (·.1) = false := by rfl) :
    FL (X.suite a ((a, oe) :: pn)) (C.su i a cls d n) (.Call (.Name x q) [.Name nm p1] [] pos) (tCallS (spLE X.K X.mg g (a, oe)) (fun σ => WE (C.su i a cls d n).W σ) (tCons (tVar i) tNil)) (mCallE g n) := by
  obtain ⟨f, fd, h1, h2, h3, h4⟩ := B.ex
  obtain ⟨vs, hvs⟩ := hv
  have hot : Hot1 (X.suite a ((a, oe) :: pn)).A (a, oe) := ⟨rfl, vs, hvs, hz.2.2 vs hvs⟩
  refine ⟨pe_callE (X := X.suite a ((a, oe) :: pn)) (p := (a, oe)) h4 ⟨hr.dp, hr.un⟩ hot (List.mem_cons_self ..) hg h1 h2 (fun s us _ hl => by rw [List.append_nil] at hl ⊢; exact h3 s us hl) (fun σ => L2N.passAt takesS σ) (pa_cons he pa_nil hst) hdb hst hpl, fun Γ σ F H Q en p => ?_⟩
  obtain ⟨g1, g2, ⟨A, rfl⟩, rfl⟩ := en.pre
  refine ⟨_, g1, n, .ref A, F, rfl, ⟨hz, ⟨vs, hvs⟩, by rw [hmg]; exact g2, A, rfl⟩, en.sub, ?_⟩
  unfold mCallE at p
  rw [hK, hmg]
  revert p
  cases g n with
  | ok ds => exact fun p => p
  | exc n d => exact fun p F' H' cls dv e q => p F' H' cls dv e q
  | stuck => exact fun p => p
end
end FL

set_option Elab.async false
set_option linter.all false
set_option maxRecDepth 100000
namespace FL
open PySem PySem.Spec PyProof.Rows L2
set_option autoImplicit false
/-! ### numbers to 999 as texts -/
def dg (c : Nat) : List Nat := if c < 10 then [48 + c] else if c < 100 then [48 + c / 10, 48 + c % 10] else [48 + c / 100, 48 + c / 10 % 10, 48 + c % 10]
theorem numL_dg {c : Nat} (h : c < 1000) : TL.numL c = dg c := by
  unfold dg
  by_cases q : c < 10
  · rw [if_pos q, TL.numL_lt q]
  · rw [if_neg q, TL.numL_step (by omega)]
    by_cases q2 : c < 100
    · rw [if_pos q2, TL.numL_lt (by omega)]; rfl
    · rw [if_neg q2, TL.numL_step (by omega), TL.numL_lt (by omega)]
      show [48 + c / 10 / 10, 48 + c / 10 % 10, 48 + c % 10] = _
      rw [Nat.div_div_eq_div_mul]
theorem mk_dg {c : Nat} (h : c < 1000) : Str.ofString (toString ((c : Nat) : Int)) = mk (dg c) := by
  have e := TL.tl_num c
  rw [numL_dg h] at e
  rw [← e]
  exact (mk_of _).symm
theorem dg_mem {c d : Nat} (h : c < 1000) (hd : d ∈ dg c) : 48 ≤ d ∧ d ≤ 57 := by
  unfold dg at hd
  split at hd
  · simp at hd; omega
  · split at hd
    · simp at hd; omega
    · simp at hd; omega
theorem dg_len (c : Nat) : 1 ≤ (dg c).length ∧ (dg c).length ≤ 3 := by
  unfold dg
  split
  · simp
  · split <;> simp
theorem dg_head {c : Nat} (h : c < 1000) (h' : 1 ≤ c) : (dg c).getD 0 0 ≠ 48 := by
  unfold dg
  split
  · show 48 + c ≠ 48; omega
  · split
    · show 48 + c / 10 ≠ 48; omega
    · show 48 + c / 100 ≠ 48; omega
theorem str_dg {c : Nat} (h : c < 1000) : gStr [.int (c : Int)] = .ok (.str (dg c)) := by
  have hl : (c : Int).natAbs.log2 < 1920 := by
    rw [Int.natAbs_natCast]
    by_cases z : c = 0
    · rw [z]; decide
    · exact (Nat.log2_lt z).mpr (Nat.lt_of_lt_of_le h (by decide))
  show (if (c : Int).natAbs.log2 < 1920 then outS (Str.ofString (toString (c : Int))) else .stuck) = _
  rw [if_pos hl]
  exact outS_ok (mk_dg h) fun d hd => by have := dg_mem h hd; omega
theorem int_dg {c : Nat} (h : c < 1000) : gInt [.str (dg c)] = .ok (.int (c : Int)) := by
  have e : intText? (mk (dg c)) = some (c : Int) := by
    rw [← mk_dg h]
    exact TL.int_num (by rw [numL_dg h]; have := dg_len c; omega)
  have hl := dg_len c
  show (match intText? (mk (dg c)) with | some n => if (dg c).length ≤ 640 then R.ok (D.int n) else R.stuck | none => R.stuck) = _
  rw [e]
  exact if_pos (by omega)
/-- a part of such a number's figures is such a number's -/
theorem dg_take {c k : Nat} (h : c < 1000) (h' : 1 ≤ c) (hk : 1 ≤ k) (hk' : k ≤ (dg c).length) : ∃ c', 1 ≤ c' ∧ c' < 1000 ∧ (dg c).take k = dg c' := by
  unfold dg at hk' ⊢
  by_cases q : c < 10
  · rw [if_pos q] at hk' ⊢
    refine ⟨c, h', h, ?_⟩
    rw [if_pos q, List.take_of_length_le (by simp; omega)]
  · rw [if_neg q] at hk' ⊢
    by_cases q2 : c < 100
    · rw [if_pos q2] at hk' ⊢
      have hk' : k ≤ 2 := hk'
      rcases (by omega : k = 1 ∨ k = 2) with e | e <;> subst e
      · refine ⟨c / 10, by omega, by omega, ?_⟩
        rw [if_pos (by omega)]; rfl
      · refine ⟨c, h', h, ?_⟩
        rw [if_neg q, if_pos q2]; rfl
    · rw [if_neg q2] at hk' ⊢
      have hk' : k ≤ 3 := hk'
      rcases (by omega : k = 1 ∨ k = 2 ∨ k = 3) with e | e | e <;> subst e
      · refine ⟨c / 100, by omega, by omega, ?_⟩
        rw [if_pos (by omega)]; rfl
      · refine ⟨c / 10, by omega, by omega, ?_⟩
        rw [if_neg (by omega), if_pos (by omega), Nat.div_div_eq_div_mul]; rfl
      · refine ⟨c, h', h, ?_⟩
        rw [if_neg q, if_neg q2]; rfl
/-- figures, not too many, the first not 0 -/
theorem dg_of {ds : List Nat} (h : ∀ d ∈ ds, 48 ≤ d ∧ d ≤ 57) (h0 : ds ≠ []) (h3 : ds.length ≤ 3) (hh : ds.getD 0 0 ≠ 48) : ∃ c, 1 ≤ c ∧ c < 1000 ∧ ds = dg c := by
  match ds, h, h0, h3, hh with
  | [a], h, _, _, hh =>
    have := h a (by simp)
    have hh : a ≠ 48 := hh
    refine ⟨a - 48, by omega, by omega, ?_⟩
    unfold dg
    rw [if_pos (by omega), show 48 + (a - 48) = a by omega]
  | [a, b], h, _, _, hh =>
    have := h a (by simp)
    have := h b (by simp)
    have hh : a ≠ 48 := hh
    refine ⟨(a - 48) * 10 + (b - 48), by omega, by omega, ?_⟩
    unfold dg
    rw [if_neg (by omega), if_pos (by omega), show 48 + ((a - 48) * 10 + (b - 48)) / 10 = a by omega, show 48 + ((a - 48) * 10 + (b - 48)) % 10 = b by omega]
  | [a, b, c], h, _, _, hh =>
    have := h a (by simp)
    have := h b (by simp)
    have := h c (by simp)
    have hh : a ≠ 48 := hh
    refine ⟨(a - 48) * 100 + (b - 48) * 10 + (c - 48), by omega, by omega, ?_⟩
    unfold dg
    rw [if_neg (by omega), if_neg (by omega), show 48 + ((a - 48) * 100 + (b - 48) * 10 + (c - 48)) / 100 = a by omega, show 48 + ((a - 48) * 100 + (b - 48) * 10 + (c - 48)) / 10 % 10 = b by omega, show 48 + ((a - 48) * 100 + (b - 48) * 10 + (c - 48)) % 10 = c by omega]
  | _ :: _ :: _ :: _ :: _, _, _, h3, _ => simp at h3
/-! ### a text among texts -/
theorem isIn_lstS (v : List Nat) : ∀ ss : List (List Nat), D.isIn (.str v) (.lst (ss.map D.str)) = .ok (decide (v ∈ ss)) := fun ss => by
  have h1 : (ss.map D.str).all D.flat = true := by
    rw [List.all_eq_true]
    intro d hd
    obtain ⟨x, _, rfl⟩ := List.mem_map.mp hd
    rfl
  show (if ((D.str v).flat && (ss.map D.str).all D.flat) = true then R.ok ((ss.map D.str).any fun y => D.eqv y (.str v)) else .stuck) = _
  rw [if_pos (by rw [h1]; rfl)]
  congr 1
  rw [Bool.eq_iff_iff, List.any_eq_true, decide_eq_true_iff]
  constructor
  · rintro ⟨d, hd, e⟩
    obtain ⟨x, hx, rfl⟩ := List.mem_map.mp hd
    have : x = v := of_decide_eq_true e
    rw [← this]; exact hx
  · intro h
    exact ⟨_, List.mem_map_of_mem h, decide_eq_true rfl⟩
theorem in_lstS (v : List Nat) (ss : List (List Nat)) : D.in_ (.str v) (.lst (ss.map D.str)) = .ok (.bl (decide (v ∈ ss))) := by
  unfold D.in_; rw [isIn_lstS]; rfl
theorem notIn_lstS (v : List Nat) (ss : List (List Nat)) : D.notIn (.str v) (.lst (ss.map D.str)) = .ok (.bl (!decide (v ∈ ss))) := by
  unfold D.notIn; rw [isIn_lstS]; rfl
/-- statements, one behind the other -/
theorem mSeq_assoc (a b c : Env → SO) : mSeq (mSeq a b) c = mSeq a (mSeq b c) := by
  funext Γ
  show (SO.bind (SO.bind (a Γ) b) c) = SO.bind (a Γ) (mSeq b c)
  cases a Γ <;> rfl
theorem range_by3 (i j : Int) (h : -1000000000 ≤ i) (h1 : i ≤ 1000000000) (h2 : -1000000000 ≤ j) (h3 : j ≤ 1000000000) : gRange3X [.int i, .int j, .int 3] = .ok (rngL i 3 (if i < j then ((j - i - 1) / 3 + 1).toNat else 0)) := by
  have e : Builtin.Range.rangeSize i j 3 = if i < j then (j - i - 1) / 3 + 1 else 0 := by unfold Builtin.Range.rangeSize; simp
  have s : Builtin.Range.small i j 3 = true := by
    unfold Builtin.Range.small
    rw [e]
    simp only [Builtin.Range.rangeFitsLong, Bool.and_eq_true, Bool.or_eq_true, decide_eq_true_eq, beq_iff_eq, show ((3 : Int) > 0) from by decide, if_true]
    split <;> omega
  have n : 0 ≤ Builtin.Range.rangeSize i j 3 := by rw [e]; split <;> omega
  show (if (3 : Int) ≠ 0 ∧ (3 : Int).natAbs < 1073741824 ∧ Builtin.Range.small i j 3 = true ∧ 0 ≤ Builtin.Range.rangeSize i j 3 then R.ok (rngL i 3 (Builtin.Range.rangeSize i j 3).toNat) else .stuck) = _
  rw [if_pos ⟨by decide, by decide, s, n⟩, e]
  split <;> rfl
end FL

set_option Elab.async false
set_option linter.all false
set_option maxRecDepth 100000
set_option maxHeartbeats 4000000
/-! ### the text of law_k43_half_a_phrase: its defs, their plain functions -/
namespace LW
open PySem PySem.Spec PyProof.Rows L2 FL
set_option autoImplicit false
def topS (i : Nat) : Stmt := PySem.Challenge.pw_modehand_k43_half_a_phrase.main.body.getD i (.Pass ⟨0, 0, 0, 0⟩)
abbrev s_is_sign : Stmt := topS 11
abbrev s_shelf_of : Stmt := topS 12
abbrev s_count_of : Stmt := topS 13
abbrev s_target_of : Stmt := topS 14
abbrev s_ended : Stmt := topS 15
abbrev s_fits_verb : Stmt := topS 16
abbrev s_typed_of : Stmt := topS 17
abbrev s_behind_count : Stmt := topS 18
abbrev s_first : Stmt := topS 19
abbrev s__law_cell_at : Stmt := topS 21
abbrev s__law_sign_by : Stmt := topS 22
abbrev s__law_letter_by : Stmt := topS 23
abbrev s__law_count_by : Stmt := topS 24
abbrev s__law_move_by : Stmt := topS 25
abbrev s__law_target_by : Stmt := topS 26
abbrev s__law_run_by : Stmt := topS 27
abbrev s__law_typed_by : Stmt := topS 28
abbrev s__law_phrase : Stmt := topS 29
abbrev s__law_keys : Stmt := topS 30
abbrev s_law : Stmt := topS 31
def fa : List He.Fa := [.free "ord", .free "len", .str "LETTERS" "abcdefghijklmnopqrstuvwxyz", .str "FIGURES" "0123456789", .free "int", .str "THINGS" "cair([{)]}'\"s", .str "MOVES" "hljkbewvogzp", .str "LONG_MOVES" "ftm", .free "range", .str "VERBS" "CYXGSDFJTRPMKVZANEL.@:", .str "SHELF_VERBS" "CYXP", .str "BARE_VERBS" "MKV:", .str "TARGET_VERBS" "CYXGSDFJ", .free "str", .free "min", .free "tuple", .free "isinstance", .glo "law", .glo "is_sign", .glo "shelf_of", .glo "count_of", .glo "target_of", .glo "ended", .glo "fits_verb", .glo "typed_of", .glo "behind_count", .glo "first", .glo "_law_cell_at", .glo "_law_sign_by", .glo "_law_letter_by", .glo "_law_count_by", .glo "_law_move_by", .glo "_law_target_by", .glo "_law_run_by", .glo "_law_typed_by", .glo "_law_phrase", .glo "_law_keys"]
def d_is_sign : He.DefD := ⟨("is_sign", none), "is_sign", "is_sign", defArgs s_is_sign, defBody s_is_sign, defScope s_is_sign, [], []⟩
def d_shelf_of : He.DefD := ⟨("shelf_of", none), "shelf_of", "shelf_of", defArgs s_shelf_of, defBody s_shelf_of, defScope s_shelf_of, [], []⟩
def d_count_of : He.DefD := ⟨("count_of", none), "count_of", "count_of", defArgs s_count_of, defBody s_count_of, defScope s_count_of, [], []⟩
def d_target_of : He.DefD := ⟨("target_of", none), "target_of", "target_of", defArgs s_target_of, defBody s_target_of, defScope s_target_of, [], []⟩
def d_ended : He.DefD := ⟨("ended", none), "ended", "ended", defArgs s_ended, defBody s_ended, defScope s_ended, [], []⟩
def d_fits_verb : He.DefD := ⟨("fits_verb", none), "fits_verb", "fits_verb", defArgs s_fits_verb, defBody s_fits_verb, defScope s_fits_verb, [], []⟩
def d_typed_of : He.DefD := ⟨("typed_of", none), "typed_of", "typed_of", defArgs s_typed_of, defBody s_typed_of, defScope s_typed_of, [], []⟩
def d_behind_count : He.DefD := ⟨("behind_count", none), "behind_count", "behind_count", defArgs s_behind_count, defBody s_behind_count, defScope s_behind_count, [], []⟩
def d_first : He.DefD := ⟨("first", none), "first", "first", defArgs s_first, defBody s_first, defScope s_first, [], []⟩
def d__law_cell_at : He.DefD := ⟨("_law_cell_at", none), "_law_cell_at", "_law_cell_at", defArgs s__law_cell_at, defBody s__law_cell_at, defScope s__law_cell_at, [], []⟩
def d__law_sign_by : He.DefD := ⟨("_law_sign_by", none), "_law_sign_by", "_law_sign_by", defArgs s__law_sign_by, defBody s__law_sign_by, defScope s__law_sign_by, [], []⟩
def d__law_letter_by : He.DefD := ⟨("_law_letter_by", none), "_law_letter_by", "_law_letter_by", defArgs s__law_letter_by, defBody s__law_letter_by, defScope s__law_letter_by, [], []⟩
def d__law_count_by : He.DefD := ⟨("_law_count_by", none), "_law_count_by", "_law_count_by", defArgs s__law_count_by, defBody s__law_count_by, defScope s__law_count_by, [], []⟩
def d__law_move_by : He.DefD := ⟨("_law_move_by", none), "_law_move_by", "_law_move_by", defArgs s__law_move_by, defBody s__law_move_by, defScope s__law_move_by, [], []⟩
def d__law_target_by : He.DefD := ⟨("_law_target_by", none), "_law_target_by", "_law_target_by", defArgs s__law_target_by, defBody s__law_target_by, defScope s__law_target_by, [], []⟩
def d__law_run_by : He.DefD := ⟨("_law_run_by", none), "_law_run_by", "_law_run_by", defArgs s__law_run_by, defBody s__law_run_by, defScope s__law_run_by, [], []⟩
def d__law_typed_by : He.DefD := ⟨("_law_typed_by", none), "_law_typed_by", "_law_typed_by", defArgs s__law_typed_by, defBody s__law_typed_by, defScope s__law_typed_by, [], []⟩
def d__law_phrase : He.DefD := ⟨("_law_phrase", none), "_law_phrase", "_law_phrase", defArgs s__law_phrase, defBody s__law_phrase, defScope s__law_phrase, [], []⟩
def d__law_keys : He.DefD := ⟨("_law_keys", none), "_law_keys", "_law_keys", defArgs s__law_keys, defBody s__law_keys, defScope s__law_keys, [], []⟩
def d_law : He.DefD := ⟨("law", none), "law", "law", defArgs s_law, defBody s_law, defScope s_law, [], []⟩
def fx : List FaX := [.tup "HALF" [.str "half"]]
def fn : List He.DefD := [d_is_sign, d_shelf_of, d_count_of, d_target_of, d_ended, d_fits_verb, d_typed_of, d_behind_count, d_first, d__law_cell_at, d__law_sign_by, d__law_letter_by, d__law_count_by, d__law_move_by, d__law_target_by, d__law_run_by, d__law_typed_by, d__law_phrase, d__law_keys, d_law]
def ks_c3fcd3 : List Nat := [97, 98, 99, 100, 101, 102, 103, 104, 105, 106, 107, 108, 109, 110, 111, 112, 113, 114, 115, 116, 117, 118, 119, 120, 121, 122]
def ks_7958c9 : List Nat := [67, 89, 88, 71, 83, 68, 70, 74, 84, 82, 80, 77, 75, 86, 90, 65, 78, 69, 76, 46, 64, 58]
def ks_7109b8 : List Nat := [32, 33, 34, 35, 36, 38, 39, 40, 41, 42, 43, 44, 45, 46, 47, 48, 49, 50, 51, 52, 53, 54, 55, 56, 57, 58, 59, 60, 61, 62] ++ [63, 64, 65, 66, 67, 68, 69, 70, 71, 72, 73, 74, 75, 76, 77, 78, 79, 80, 81, 82, 83, 84, 85, 86, 87, 88, 89, 90, 91, 92] ++ [93, 94, 95, 96]
def ks_006d57 : List Nat := [97, 98, 99, 100, 101, 102, 103, 104, 105, 106, 107, 108, 109, 110, 111, 112, 113, 114, 115, 116, 117, 118, 119, 120, 121, 122, 123, 124, 125]
def b_is_sign : FL.Env → SO :=
    (mRet (mAndV (mCh D.le D.le (mC (.int 32)) (mCall gOrd (mCons (mVar 0) mNil)) (mC (.int 125))) (mOp D.ne (mCall gOrd (mCons (mVar 0) mNil)) (mC (.int 37)))))
def p_is_sign : List D → R D := mFn 1 b_is_sign
theorem u_is_sign (x0 : D) : p_is_sign [x0] = retD (b_is_sign [.val x0]) := rfl
def b_shelf_of : FL.Env → SO :=
    (mSeq (mIfS (mT (mOp D.ne (mSl (mVar 0) mPn (mPs (mC (.int 1)))) (mC (.str [34]))))
      (mRet (mTup (mCons (mC (.str [116, 111, 108, 100])) (mCons (mC (.str [])) (mCons (mC (.int 0)) mNil)))))
      mSkip)
    (mSeq (mIfS (mT (mOp D.eq (mCall gLen (mCons (mVar 0) mNil)) (mC (.int 1))))
      (mRet (mC (.tup [.str [104, 97, 108, 102]])))
      mSkip)
    (mSeq (mIfS (mT (mOp D.notIn (mOp D.ix (mVar 0) (mC (.int 1))) (mC (.str ks_c3fcd3))))
      (mRet (mTup (mCons (mC (.str [110, 111, 110, 101])) (mCons (mC (.int 2)) mNil))))
      mSkip)
    (mRet (mTup (mCons (mC (.str [116, 111, 108, 100])) (mCons (mOp D.ix (mVar 0) (mC (.int 1))) (mCons (mC (.int 2)) mNil))))))))
def p_shelf_of : List D → R D := mFn 1 b_shelf_of
theorem u_shelf_of (x0 : D) : p_shelf_of [x0] = retD (b_shelf_of [.val x0]) := rfl
def b_count_of_l1 : FL.Env → SO :=
    (mSeq (mIfS (mOr (mT (mOp D.eq (mOp D.ix (mVar 0) (mVar 1)) (mC (.str [48])))) (mT (mOp D.eq (mVar 2) (mOp D.add (mVar 1) (mC (.int 3))))))
        (mRet (mTup (mCons (mC (.str [110, 111, 110, 101])) (mCons (mOp D.add (mVar 2) (mC (.int 1))) mNil))))
        mSkip)
      (mAsg 2 (mOp D.add (mVar 2) (mC (.int 1)))))
def b_count_of_t1 : FL.Env → R Bool :=
    (mAnd (mT (mOp D.lt (mVar 2) (mCall gLen (mCons (mVar 0) mNil)))) (mT (mOp D.in_ (mOp D.ix (mVar 0) (mVar 2)) (mC (.str [48, 49, 50, 51, 52, 53, 54, 55, 56, 57])))))
def b_count_of : FL.Env → SO :=
    (mSeq (mAsg 2 (mVar 1))
    (mSeq (mWhile b_count_of_t1 b_count_of_l1)
    (mSeq (mIfS (mT (mOp D.eq (mVar 2) (mVar 1)))
      (mRet (mTup (mCons (mC (.str [116, 111, 108, 100])) (mCons (mC .non) (mCons (mVar 1) mNil)))))
      mSkip)
    (mRet (mTup (mCons (mC (.str [116, 111, 108, 100])) (mCons (mCall gInt (mCons (mSl (mVar 0) (mPs (mVar 1)) (mPs (mVar 2))) mNil)) (mCons (mVar 2) mNil))))))))
def p_count_of : List D → R D := mFn 3 b_count_of
theorem u_count_of (x0 x1 : D) : p_count_of [x0, x1] = retD (b_count_of [.val x0, .val x1, .no]) := rfl
def b_target_of : FL.Env → SO :=
    (mSeq (mIfS (mT (mOp D.eq (mVar 1) (mCall gLen (mCons (mVar 0) mNil))))
      (mRet (mC (.tup [.str [104, 97, 108, 102]])))
      mSkip)
    (mSeq (mAsg 3 (mOp D.ix (mVar 0) (mVar 1)))
    (mSeq (mIfS (mOr (mT (mOp D.in_ (mVar 3) (mC (.str [104, 108, 106, 107, 98, 101, 119, 118, 111, 103, 122, 112])))) (mAnd (mT (mVar 2)) (mT (mOp D.in_ (mVar 3) (mC (.str [99, 97, 105, 114, 40, 91, 123, 41, 93, 125, 39, 34, 115]))))))
      (mRet (mTup (mCons (mC (.str [116, 111, 108, 100])) (mCons (mVar 3) (mCons (mOp D.add (mVar 1) (mC (.int 1))) mNil)))))
      mSkip)
    (mSeq (mIfS (mT (mOp D.notIn (mVar 3) (mC (.str [102, 116, 109]))))
      (mRet (mTup (mCons (mC (.str [110, 111, 110, 101])) (mCons (mOp D.add (mVar 1) (mC (.int 1))) mNil))))
      mSkip)
    (mSeq (mIfS (mT (mOp D.eq (mOp D.add (mVar 1) (mC (.int 1))) (mCall gLen (mCons (mVar 0) mNil))))
      (mRet (mC (.tup [.str [104, 97, 108, 102]])))
      mSkip)
    (mSeq (mAsg 4 (mOp D.ix (mVar 0) (mOp D.add (mVar 1) (mC (.int 1)))))
    (mSeq (mIfS (mOr (mAnd (mT (mOp D.eq (mVar 3) (mC (.str [109])))) (mT (mOp D.in_ (mVar 4) (mC (.str ks_c3fcd3))))) (mAnd (mT (mOp D.ne (mVar 3) (mC (.str [109])))) (mT (mCall (fun ds => p_is_sign (ds ++ [])) (mCons (mVar 4) mNil)))))
      (mRet (mTup (mCons (mC (.str [116, 111, 108, 100])) (mCons (mOp D.add (mVar 3) (mVar 4)) (mCons (mOp D.add (mVar 1) (mC (.int 2))) mNil)))))
      mSkip)
    (mRet (mTup (mCons (mC (.str [110, 111, 110, 101])) (mCons (mOp D.add (mVar 1) (mC (.int 2))) mNil)))))))))))
def p_target_of : List D → R D := mFn 5 b_target_of
theorem u_target_of (x0 x1 x2 : D) : p_target_of [x0, x1, x2] = retD (b_target_of [.val x0, .val x1, .val x2, .no, .no]) := rfl
def b_ended_l1 : FL.Env → SO :=
    (mSeq (mIfS (mT (mOp D.eq (mOp D.ix (mVar 0) (mVar 4)) (mVar 2)))
        (mRet (mTup (mCons (mC (.str [116, 111, 108, 100])) (mCons (mSl (mVar 0) (mPs (mVar 1)) (mPs (mVar 4))) (mCons (mOp D.add (mVar 4) (mC (.int 1))) mNil)))))
        mSkip)
      (mIfS (mAnd (mT (mOp D.ne (mOp D.ix (mVar 0) (mVar 4)) (mVar 3))) (mNot (mT (mCall (fun ds => p_is_sign (ds ++ [])) (mCons (mOp D.ix (mVar 0) (mVar 4)) mNil)))))
        (mRet (mTup (mCons (mC (.str [110, 111, 110, 101])) (mCons (mOp D.add (mVar 4) (mC (.int 1))) mNil))))
        mSkip))
def b_ended : FL.Env → SO :=
    (mSeq (mFor (mCall gRange2 (mCons (mVar 1) (mCons (mCall gLen (mCons (mVar 0) mNil)) mNil))) (gSet 4) b_ended_l1)
    (mRet (mC (.tup [.str [104, 97, 108, 102]]))))
def p_ended : List D → R D := mFn 5 b_ended
theorem u_ended (x0 x1 x2 x3 : D) : p_ended [x0, x1, x2, x3] = retD (b_ended [.val x0, .val x1, .val x2, .val x3, .no]) := rfl
def b_fits_verb : FL.Env → SO :=
    (mSeq (mIfS (mT (mOp D.eq (mVar 0) (mC (.str [82]))))
      (mRet (mCall (fun ds => p_is_sign (ds ++ [])) (mCons (mVar 1) mNil)))
      mSkip)
    (mSeq (mIfS (mT (mOp D.eq (mVar 0) (mC (.str [86]))))
      (mRet (mOp D.in_ (mVar 1) (mC (.str [115, 114, 98]))))
      mSkip)
    (mRet (mOp D.in_ (mVar 1) (mC (.str ks_c3fcd3))))))
def p_fits_verb : List D → R D := mFn 2 b_fits_verb
theorem u_fits_verb (x0 x1 : D) : p_fits_verb [x0, x1] = retD (b_fits_verb [.val x0, .val x1]) := rfl
def b_typed_of : FL.Env → SO :=
    (mSeq (mIfS (mOr (mT (mOp D.eq (mVar 2) (mC (.str [88])))) (mT (mOp D.eq (mVar 2) (mC (.str [84])))))
      (mRet (mCall (fun ds => p_ended (ds ++ [])) (mCons (mVar 0) (mCons (mVar 1) (mCons (mC (.str [126])) (mCons (mC (.str [10])) mNil))))))
      mSkip)
    (mSeq (mIfS (mT (mOp D.eq (mVar 2) (mC (.str [58]))))
      (mRet (mCall (fun ds => p_ended (ds ++ [])) (mCons (mVar 0) (mCons (mVar 1) (mCons (mC (.str [10])) (mCons (mC (.str [126])) mNil))))))
      mSkip)
    (mSeq (mIfS (mT (mOp D.notIn (mVar 2) (mLe (mLst (mCons (mC (.str [82])) (mCons (mC (.str [86])) (mCons (mC (.str [77])) (mCons (mC (.str [75])) (mCons (mC (.str [64])) mNil)))))))))
      (mRet (mTup (mCons (mC (.str [116, 111, 108, 100])) (mCons (mC (.str [])) (mCons (mVar 1) mNil)))))
      mSkip)
    (mSeq (mIfS (mT (mOp D.eq (mVar 1) (mCall gLen (mCons (mVar 0) mNil))))
      (mRet (mC (.tup [.str [104, 97, 108, 102]])))
      mSkip)
    (mSeq (mIfS (mNot (mT (mCall (fun ds => p_fits_verb (ds ++ [])) (mCons (mVar 2) (mCons (mOp D.ix (mVar 0) (mVar 1)) mNil)))))
      (mRet (mTup (mCons (mC (.str [110, 111, 110, 101])) (mCons (mOp D.add (mVar 1) (mC (.int 1))) mNil))))
      mSkip)
    (mRet (mTup (mCons (mC (.str [116, 111, 108, 100])) (mCons (mOp D.ix (mVar 0) (mVar 1)) (mCons (mOp D.add (mVar 1) (mC (.int 1))) mNil))))))))))
def p_typed_of : List D → R D := mFn 3 b_typed_of
theorem u_typed_of (x0 x1 x2 : D) : p_typed_of [x0, x1, x2] = retD (b_typed_of [.val x0, .val x1, .val x2]) := rfl
def b_behind_count : FL.Env → SO :=
    (mSeq (mAsg 4 (mC (.str [])))
    (mSeq (mAsg 5 (mTup (mCons (mC (.str [116, 111, 108, 100])) (mCons (mC (.str [])) (mCons (mOp D.add (mVar 3) (mC (.int 1))) mNil)))))
    (mSeq (mIfS (mT (mOp D.in_ (mOp D.ix (mVar 0) (mVar 3)) (mC (.str ks_7958c9))))
      (mAsg 4 (mOp D.ix (mVar 0) (mVar 3)))
      mSkip)
    (mSeq (mIfS (mAnd (mT (mOp D.ne (mVar 1) (mC (.str [])))) (mOr (mT (mOp D.eq (mVar 4) (mC (.str [])))) (mT (mOp D.notIn (mVar 4) (mC (.str [67, 89, 88, 80]))))))
      (mRet (mTup (mCons (mC (.str [110, 111, 110, 101])) (mCons (mOp D.add (mVar 3) (mC (.int 1))) mNil))))
      mSkip)
    (mSeq (mIfS (mAnd (mT (mOp D.notN (mVar 2) (mC .non))) (mAnd (mT (mOp D.ne (mVar 4) (mC (.str [])))) (mT (mOp D.in_ (mVar 4) (mC (.str [77, 75, 86, 58]))))))
      (mRet (mTup (mCons (mC (.str [110, 111, 110, 101])) (mCons (mOp D.add (mVar 3) (mC (.int 1))) mNil))))
      mSkip)
    (mSeq (mIfS (mT (mOp D.eq (mVar 4) (mC (.str []))))
      (mAsg 5 (mCall (fun ds => p_target_of (ds ++ [])) (mCons (mVar 0) (mCons (mVar 3) (mCons (mC (.bl false)) mNil)))))
      (mIfS (mT (mOp D.in_ (mVar 4) (mC (.str [67, 89, 88, 71, 83, 68, 70, 74]))))
        (mAsg 5 (mCall (fun ds => p_target_of (ds ++ [])) (mCons (mVar 0) (mCons (mOp D.add (mVar 3) (mC (.int 1))) (mCons (mC (.bl true)) mNil)))))
        mSkip))
    (mSeq (mIfS (mT (mOp D.ne (mOp D.ix (mVar 5) (mC (.int 0))) (mC (.str [116, 111, 108, 100]))))
      (mRet (mVar 5))
      mSkip)
    (mSeq (mAsg 6 (mCall (fun ds => p_typed_of (ds ++ [])) (mCons (mVar 0) (mCons (mOp D.ix (mVar 5) (mC (.int 2))) (mCons (mVar 4) mNil)))))
    (mSeq (mIfS (mT (mOp D.ne (mOp D.ix (mVar 6) (mC (.int 0))) (mC (.str [116, 111, 108, 100]))))
      (mRet (mVar 6))
      mSkip)
    (mRet (mTup (mCons (mC (.str [112, 104, 114, 97, 115, 101])) (mCons (mTup (mCons (mVar 1) (mCons (mVar 2) (mCons (mVar 4) (mCons (mOp D.ix (mVar 5) (mC (.int 1))) (mCons (mOp D.ix (mVar 6) (mC (.int 1))) mNil)))))) (mCons (mOp D.ix (mVar 6) (mC (.int 2))) mNil))))))))))))))
def p_behind_count : List D → R D := mFn 7 b_behind_count
theorem u_behind_count (x0 x1 x2 x3 : D) : p_behind_count [x0, x1, x2, x3] = retD (b_behind_count [.val x0, .val x1, .val x2, .val x3, .no, .no, .no]) := rfl
def b_first : FL.Env → SO :=
    (mSeq (mAsg 1 (mCall (fun ds => p_shelf_of (ds ++ [])) (mCons (mVar 0) mNil)))
    (mSeq (mIfS (mT (mOp D.ne (mOp D.ix (mVar 1) (mC (.int 0))) (mC (.str [116, 111, 108, 100]))))
      (mRet (mVar 1))
      mSkip)
    (mSeq (mAsg 2 (mCall (fun ds => p_count_of (ds ++ [])) (mCons (mVar 0) (mCons (mOp D.ix (mVar 1) (mC (.int 2))) mNil))))
    (mSeq (mIfS (mT (mOp D.ne (mOp D.ix (mVar 2) (mC (.int 0))) (mC (.str [116, 111, 108, 100]))))
      (mRet (mVar 2))
      mSkip)
    (mSeq (mIfS (mT (mOp D.eq (mOp D.ix (mVar 2) (mC (.int 2))) (mCall gLen (mCons (mVar 0) mNil))))
      (mRet (mC (.tup [.str [104, 97, 108, 102]])))
      mSkip)
    (mRet (mCall (fun ds => p_behind_count (ds ++ [])) (mCons (mVar 0) (mCons (mOp D.ix (mVar 1) (mC (.int 1))) (mCons (mOp D.ix (mVar 2) (mC (.int 1))) (mCons (mOp D.ix (mVar 2) (mC (.int 2))) mNil)))))))))))
def p_first : List D → R D := mFn 3 b_first
theorem u_first (x0 : D) : p_first [x0] = retD (b_first [.val x0, .no, .no]) := rfl
def b__law_cell_at : FL.Env → SO :=
    (mSeq (mIfS (mT (mOp D.lt (mVar 1) (mCall gLen (mCons (mVar 0) mNil))))
      (mRet (mOp D.ix (mVar 0) (mVar 1)))
      mSkip)
    (mRet (mC (.int 0))))
def p__law_cell_at : List D → R D := mFn 2 b__law_cell_at
theorem u__law_cell_at (x0 x1 : D) : p__law_cell_at [x0, x1] = retD (b__law_cell_at [.val x0, .val x1]) := rfl
def b__law_sign_by : FL.Env → SO :=
    (mSeq (mAsg 1 (mC (.str ks_7109b8)))
    (mSeq (mAsg 1 (mOp D.add (mVar 1) (mC (.str ks_006d57))))
    (mRet (mOp D.ix (mVar 1) (mOp D.mod (mVar 0) (mC (.int 93)))))))
def p__law_sign_by : List D → R D := mFn 2 b__law_sign_by
theorem u__law_sign_by (x0 : D) : p__law_sign_by [x0] = retD (b__law_sign_by [.val x0, .no]) := rfl
def b__law_letter_by : FL.Env → SO :=
    (mRet (mOp D.ix (mC (.str ks_c3fcd3)) (mOp D.mod (mVar 0) (mC (.int 26)))))
def p__law_letter_by : List D → R D := mFn 1 b__law_letter_by
theorem u__law_letter_by (x0 : D) : p__law_letter_by [x0] = retD (b__law_letter_by [.val x0]) := rfl
def b__law_count_by : FL.Env → SO :=
    (mSeq (mIfS (mT (mOp D.eq (mOp D.mod (mVar 0) (mC (.int 3))) (mC (.int 0))))
      (mRet (mC .non))
      mSkip)
    (mSeq (mIfS (mT (mOp D.eq (mOp D.mod (mVar 0) (mC (.int 3))) (mC (.int 1))))
      (mRet (mOp D.add (mC (.int 1)) (mOp D.mod (mOp D.fdiv (mVar 0) (mC (.int 3))) (mC (.int 12)))))
      mSkip)
    (mRet (mOp D.add (mC (.int 1)) (mOp D.mod (mOp D.fdiv (mVar 0) (mC (.int 3))) (mC (.int 999)))))))
def p__law_count_by : List D → R D := mFn 1 b__law_count_by
theorem u__law_count_by (x0 : D) : p__law_count_by [x0] = retD (b__law_count_by [.val x0]) := rfl
def b__law_move_by : FL.Env → SO :=
    (mSeq (mAsg 1 (mOp D.ix (mC (.str [104, 108, 106, 107, 98, 101, 119, 118, 111, 103, 122, 112, 102, 116, 109])) (mOp D.mod (mVar 0) (mC (.int 15)))))
    (mSeq (mIfS (mT (mOp D.eq (mVar 1) (mC (.str [109]))))
      (mRet (mOp D.add (mVar 1) (mCall (fun ds => p__law_letter_by (ds ++ [])) (mCons (mOp D.fdiv (mVar 0) (mC (.int 15))) mNil))))
      mSkip)
    (mSeq (mIfS (mT (mOp D.in_ (mVar 1) (mC (.str [102, 116]))))
      (mRet (mOp D.add (mVar 1) (mCall (fun ds => p__law_sign_by (ds ++ [])) (mCons (mOp D.fdiv (mVar 0) (mC (.int 15))) mNil))))
      mSkip)
    (mRet (mVar 1)))))
def p__law_move_by : List D → R D := mFn 2 b__law_move_by
theorem u__law_move_by (x0 : D) : p__law_move_by [x0] = retD (b__law_move_by [.val x0, .no]) := rfl
def b__law_target_by : FL.Env → SO :=
    (mSeq (mIfS (mT (mOp D.eq (mOp D.mod (mVar 0) (mC (.int 2))) (mC (.int 0))))
      (mRet (mCall (fun ds => p__law_move_by (ds ++ [])) (mCons (mOp D.fdiv (mVar 0) (mC (.int 2))) mNil)))
      mSkip)
    (mRet (mOp D.ix (mC (.str [99, 97, 105, 114, 40, 91, 123, 41, 93, 125, 39, 34, 115])) (mOp D.mod (mOp D.fdiv (mVar 0) (mC (.int 2))) (mC (.int 13))))))
def p__law_target_by : List D → R D := mFn 1 b__law_target_by
theorem u__law_target_by (x0 : D) : p__law_target_by [x0] = retD (b__law_target_by [.val x0]) := rfl
def b__law_run_by_l1 : FL.Env → SO :=
    (mSeq (mAsg 5 (mOp D.mod (mOp D.mul (mOp D.add (mOp D.mod (mVar 0) (mC (.int 2147483647))) (mC (.int 7919))) (mOp D.add (mC (.int 48271)) (mOp D.mul (mOp D.mul (mC (.int 69621)) (mVar 4)) (mVar 4)))) (mC (.int 2147483629))))
      (mIfS (mT (mOp D.eq (mOp D.mod (mVar 5) (mC (.int 9))) (mC (.int 4))))
        (mAsg 3 (mOp D.add (mVar 3) (mVar 1)))
        (mAsg 3 (mOp D.add (mVar 3) (mCall (fun ds => p__law_sign_by (ds ++ [])) (mCons (mOp D.fdiv (mVar 5) (mC (.int 9))) mNil))))))
def b__law_run_by : FL.Env → SO :=
    (mSeq (mAsg 2 (mOp D.mod (mVar 0) (mC (.int 7))))
    (mSeq (mIfS (mT (mOp D.eq (mOp D.mod (mOp D.fdiv (mVar 0) (mC (.int 7))) (mC (.int 8))) (mC (.int 1))))
      (mAsg 2 (mOp D.add (mC (.int 20)) (mOp D.mod (mOp D.fdiv (mVar 0) (mC (.int 56))) (mC (.int 30)))))
      mSkip)
    (mSeq (mAsg 3 (mC (.str [])))
    (mSeq (mFor (mCall gRange1 (mCons (mVar 2) mNil)) (gSet 4) b__law_run_by_l1)
    (mRet (mVar 3))))))
def p__law_run_by : List D → R D := mFn 6 b__law_run_by
theorem u__law_run_by (x0 x1 : D) : p__law_run_by [x0, x1] = retD (b__law_run_by [.val x0, .val x1, .no, .no, .no, .no]) := rfl
def b__law_typed_by : FL.Env → SO :=
    (mSeq (mIfS (mT (mOp D.in_ (mVar 0) (mLe (mLst (mCons (mC (.str [88])) (mCons (mC (.str [84])) mNil))))))
      (mRet (mCall (fun ds => p__law_run_by (ds ++ [])) (mCons (mVar 1) (mCons (mC (.str [10])) mNil))))
      mSkip)
    (mSeq (mIfS (mT (mOp D.eq (mVar 0) (mC (.str [58]))))
      (mRet (mCall (fun ds => p__law_run_by (ds ++ [])) (mCons (mVar 1) (mCons (mC (.str [126])) mNil))))
      mSkip)
    (mSeq (mIfS (mT (mOp D.eq (mVar 0) (mC (.str [82]))))
      (mRet (mCall (fun ds => p__law_sign_by (ds ++ [])) (mCons (mVar 1) mNil)))
      mSkip)
    (mSeq (mIfS (mT (mOp D.eq (mVar 0) (mC (.str [86]))))
      (mRet (mOp D.ix (mC (.str [115, 114, 98])) (mOp D.mod (mVar 1) (mC (.int 3)))))
      mSkip)
    (mSeq (mIfS (mT (mOp D.in_ (mVar 0) (mLe (mLst (mCons (mC (.str [77])) (mCons (mC (.str [75])) (mCons (mC (.str [64])) mNil)))))))
      (mRet (mCall (fun ds => p__law_letter_by (ds ++ [])) (mCons (mVar 1) mNil)))
      mSkip)
    (mRet (mC (.str []))))))))
def p__law_typed_by : List D → R D := mFn 2 b__law_typed_by
theorem u__law_typed_by (x0 x1 : D) : p__law_typed_by [x0, x1] = retD (b__law_typed_by [.val x0, .val x1]) := rfl
def b__law_phrase : FL.Env → SO :=
    (mSeq (mAsg 3 (mC (.str [])))
    (mSeq (mIfS (mT (mOp D.lt (mOp D.mod (mVar 0) (mC (.int 27))) (mC (.int 22))))
      (mAsg 3 (mOp D.ix (mC (.str ks_7958c9)) (mOp D.mod (mVar 0) (mC (.int 27)))))
      mSkip)
    (mSeq (mAsg 4 (mC (.str [])))
    (mSeq (mIfS (mAnd (mT (mOp D.in_ (mVar 3) (mLe (mLst (mCons (mC (.str [67])) (mCons (mC (.str [89])) (mCons (mC (.str [88])) (mCons (mC (.str [80])) mNil)))))))) (mT (mOp D.eq (mOp D.mod (mOp D.fdiv (mVar 0) (mC (.int 27))) (mC (.int 2))) (mC (.int 1)))))
      (mAsg 4 (mCall (fun ds => p__law_letter_by (ds ++ [])) (mCons (mOp D.fdiv (mVar 0) (mC (.int 54))) mNil)))
      mSkip)
    (mSeq (mAsg 5 (mC .non))
    (mSeq (mIfS (mT (mOp D.notIn (mVar 3) (mLe (mLst (mCons (mC (.str [77])) (mCons (mC (.str [75])) (mCons (mC (.str [86])) (mCons (mC (.str [58])) mNil))))))))
      (mAsg 5 (mCall (fun ds => p__law_count_by (ds ++ [])) (mCons (mVar 1) mNil)))
      mSkip)
    (mSeq (mAsg 6 (mC (.str [])))
    (mSeq (mIfS (mT (mOp D.eq (mVar 3) (mC (.str []))))
      (mAsg 6 (mCall (fun ds => p__law_move_by (ds ++ [])) (mCons (mOp D.mod (mOp D.mul (mVar 2) (mC (.int 48271))) (mC (.int 2147483647))) mNil)))
      (mIfS (mT (mOp D.in_ (mVar 3) (mC (.str [67, 89, 88, 71, 83, 68, 70, 74]))))
        (mAsg 6 (mCall (fun ds => p__law_target_by (ds ++ [])) (mCons (mOp D.mod (mOp D.mul (mVar 2) (mC (.int 48271))) (mC (.int 2147483647))) mNil)))
        mSkip))
    (mRet (mTup (mCons (mVar 4) (mCons (mVar 5) (mCons (mVar 3) (mCons (mVar 6) (mCons (mCall (fun ds => p__law_typed_by (ds ++ [])) (mCons (mVar 3) (mCons (mVar 2) mNil))) mNil)))))))))))))))
def p__law_phrase : List D → R D := mFn 7 b__law_phrase
theorem u__law_phrase (x0 x1 x2 : D) : p__law_phrase [x0, x1, x2] = retD (b__law_phrase [.val x0, .val x1, .val x2, .no, .no, .no, .no]) := rfl
def b__law_keys : FL.Env → SO :=
    (mSeq (mAsg 1 (mC (.str [])))
    (mSeq (mIfS (mT (mOp D.ne (mOp D.ix (mVar 0) (mC (.int 0))) (mC (.str []))))
      (mAsg 1 (mOp D.add (mC (.str [34])) (mOp D.ix (mVar 0) (mC (.int 0)))))
      mSkip)
    (mSeq (mIfS (mT (mOp D.notN (mOp D.ix (mVar 0) (mC (.int 1))) (mC .non)))
      (mAsg 1 (mOp D.add (mVar 1) (mCall gStr (mCons (mOp D.ix (mVar 0) (mC (.int 1))) mNil))))
      mSkip)
    (mSeq (mAsg 1 (mOp D.add (mOp D.add (mOp D.add (mVar 1) (mOp D.ix (mVar 0) (mC (.int 2)))) (mOp D.ix (mVar 0) (mC (.int 3)))) (mOp D.ix (mVar 0) (mC (.int 4)))))
    (mSeq (mIfS (mT (mOp D.in_ (mOp D.ix (mVar 0) (mC (.int 2))) (mLe (mLst (mCons (mC (.str [88])) (mCons (mC (.str [84])) mNil))))))
      (mAsg 1 (mOp D.add (mVar 1) (mC (.str [126]))))
      mSkip)
    (mSeq (mIfS (mT (mOp D.eq (mOp D.ix (mVar 0) (mC (.int 2))) (mC (.str [58]))))
      (mAsg 1 (mOp D.add (mVar 1) (mC (.str [10]))))
      mSkip)
    (mRet (mVar 1))))))))
def p__law_keys : List D → R D := mFn 2 b__law_keys
theorem u__law_keys (x0 : D) : p__law_keys [x0] = retD (b__law_keys [.val x0, .no]) := rfl
def b_law_c1 : FL.Env → R D :=
    (mCall (fun ds => p__law_cell_at (ds ++ [])) (mCons (mVar 0) (mCons (mOp D.add (mVar 1) (mVar 4)) mNil)))
def b_law_l1 : FL.Env → SO :=
    (mSeq (mAsg 5 (mCall (fun ds => p_first (ds ++ [])) (mCons (mSl (mVar 3) mPn (mPs (mVar 4))) mNil)))
        (mIfS (mOr (mNot (mT (mCall gIsi (mCons (mVar 5) (mCons (mC (.ty "tuple")) mNil))))) (mT (mOp D.ne (mVar 5) (mTup (mCons (mC (.str [104, 97, 108, 102])) mNil)))))
          (mRet (mC (.bl false)))
          mSkip))
def b_law_l2 : FL.Env → SO :=
    (mSeq (mAsg 2 (mLe (mComp [4] (mCall gRange1 (mCons (mC (.int 3)) mNil)) (gSet 4) mYes b_law_c1)))
      (mSeq (mAsg 3 (mCall (fun ds => p__law_keys (ds ++ [])) (mCons (mCall (fun ds => p__law_phrase (ds ++ [])) (mCons (mOp D.ix (mVar 2) (mC (.int 0))) (mCons (mOp D.ix (mVar 2) (mC (.int 1))) (mCons (mOp D.ix (mVar 2) (mC (.int 2))) mNil)))) mNil)))
      (mFor (mCall gRange1 (mCons (mCall gLen (mCons (mVar 3) mNil)) mNil)) (gSet 4) b_law_l1)))
def b_law : FL.Env → SO :=
    (mSeq (mFor (mCall gRange3X (mCons (mC (.int 0)) (mCons (mOp D.add (mCall gMin2 (mCons (mCall gLen (mCons (mVar 0) mNil)) (mCons (mC (.int 27)) mNil))) (mC (.int 1))) (mCons (mC (.int 3)) mNil)))) (gSet 1) b_law_l2)
    (mRet (mC (.bl true))))
def p_law : List D → R D := mFn 6 b_law
theorem u_law (x0 : D) : p_law [x0] = retD (b_law [.val x0, .no, .no, .no, .no, .no]) := rfl
section
variable {P : Program} {w : World} {K : PySem.W.Frag} {mg : Str → Option Value} {base : Heap}
abbrev N_is_sign : List PySem.Str := ["key"]
theorem sc_is_sign : FnScope ["key"] ["key"] (defScope s_is_sign) := ⟨rfl, rfl, rfl, by decide +kernel, rfl, by decide +kernel, by decide +kernel⟩
theorem B_is_sign (T : TxX fa fn fx K mg) : FnB P w K mg base "is_sign" 1 ["key"] (spV K mg 1 p_is_sign) := by
  exact T.t.fnbV 0 18 rfl rfl rfl rfl sc_is_sign (fun _ _ _ _ _ _ us hl => match us, hl with | [_], _ => rfl) (fun f cdv A outer s H F0 E hr tk po => ⟨_, (fss_one (fs_ret (fe_and (fe_chain op_leA os_le op_leA os_le (FE.r fe_int) (FE.r (fe_callB call_ord cs_ord rfl (T.free 0 rfl) (by decide +kernel) (fb_cons (FE.r (fe_var (pv 0))) fb_nil))) (FE.r fe_int)) (fe_one (fe_cmpo (op_neD (hu64 hr)) os_ne (FE.r (fe_callB call_ord cs_ord rfl (T.free 0 rfl) (by decide +kernel) (fb_cons (FE.r (fe_var (pv 0))) fb_nil))) (FE.r fe_int) (nomark _))))))⟩)
abbrev N_shelf_of : List PySem.Str := ["keys"]
theorem sc_shelf_of : FnScope ["keys"] ["keys"] (defScope s_shelf_of) := ⟨rfl, rfl, rfl, by decide +kernel, rfl, by decide +kernel, by decide +kernel⟩
theorem B_shelf_of (T : TxX fa fn fx K mg) : FnB P w K mg base "shelf_of" 1 ["keys"] (spV K mg 1 p_shelf_of) := by
  exact T.t.fnbV 1 19 rfl rfl rfl rfl sc_shelf_of (fun _ _ _ _ _ _ us hl => match us, hl with | [_], _ => rfl) (fun f cdv A outer s H F0 E hr tk po => ⟨_, (fss_cons (fs_if (ft_cmp (op_neD (hu64 hr)) os_ne (FE.r (fe_slice rfl (FE.r (fe_var (pv 0))) fo_none (fo_some fe_int))) (FE.r (fe_str [34] (by decide +kernel) (by decide +kernel))) (nomark _))
      (fss_one (fs_ret (fe_tup (fa_cons (fe_str [116, 111, 108, 100] (by decide +kernel) (by decide +kernel)) (fa_cons (fe_str [] (by decide +kernel) (by decide +kernel)) (fa_cons fe_int fa_nil))))))
      fss_nil)
    (fss_cons (fs_if (ft_cmp (op_eqD (hu64 hr)) os_eq (FE.r (fe_callB call_lenV cs_len rfl (T.free 1 rfl) (by decide +kernel) (fb_cons (FE.r (fe_var (pv 0))) fb_nil))) (FE.r fe_int) (nomark _))
      (fss_one (fs_ret (fe_gtup rfl (T.tup 0 rfl) rfl rfl)))
      fss_nil)
    (fss_cons (fs_if (ft_cmp op_notInA os_notIn (FE.r (fe_ix ix_seq os_ix (FE.r (fe_var (pv 0))) (FE.r fe_int) (fun _ _ => rfl))) (FE.r (fe_gstr (T.str 2 rfl) ks_c3fcd3 rfl (by decide +kernel) (by decide +kernel))) rfl)
      (fss_one (fs_ret (fe_tup (fa_cons (fe_str [110, 111, 110, 101] (by decide +kernel) (by decide +kernel)) (fa_cons fe_int fa_nil)))))
      fss_nil)
    (fss_one (fs_ret (fe_tup (fa_cons (fe_str [116, 111, 108, 100] (by decide +kernel) (by decide +kernel)) (fa_cons (fe_ix ix_seq os_ix (FE.r (fe_var (pv 0))) (FE.r fe_int) (fun _ _ => rfl)) (fa_cons fe_int fa_nil)))))))))⟩)
abbrev N_count_of : List PySem.Str := ["keys", "at", "end"]
theorem sc_count_of : FnScope ["keys", "at", "end"] ["keys", "at"] (defScope s_count_of) := ⟨rfl, rfl, rfl, by decide +kernel, rfl, by decide +kernel, by decide +kernel⟩
theorem B_count_of (T : TxX fa fn fx K mg) : FnB P w K mg base "count_of" 1 ["keys", "at"] (spV K mg 2 p_count_of) := by
  exact T.t.fnbV 2 20 rfl rfl rfl rfl sc_count_of (fun _ _ _ _ _ _ us hl => match us, hl with | [_, _], _ => rfl) (fun f cdv A outer s H F0 E hr tk po => ⟨_, (fss_cons (fs_set (i := 2) keeps sc_count_of.nd rfl (by first | exact .inl rfl | exact .inr rfl) (fe_var (pv 1)))
    (fss_cons (fs_while po (FW.t (fw_and (ft_cmp op_ltA os_lt (FE.r (fe_var (pv 2))) (FE.r (fe_callB call_lenV cs_len rfl (T.free 1 rfl) (by decide +kernel) (fb_cons (FE.r (fe_var (pv 0))) fb_nil))) (nomark _)) (fw_and1 (ft_cmp op_inA os_in (FE.r (fe_ix ix_seq os_ix (FE.r (fe_var (pv 0))) (FE.r (fe_var (pv 2))) (fun _ _ => rfl))) (FE.r (fe_gstr (T.str 3 rfl) [48, 49, 50, 51, 52, 53, 54, 55, 56, 57] rfl (by decide +kernel) (by decide +kernel))) rfl))))
      (fss_cons (fs_if (FW.t (fw_or (ft_cmp (op_eqD (hu64 hr)) os_eq (FE.r (fe_ix ix_seq os_ix (FE.r (fe_var (pv 0))) (FE.r (fe_var (pv 1))) (fun _ _ => rfl))) (FE.r (fe_str [48] (by decide +kernel) (by decide +kernel))) (nomark _)) (fw_or1 (ft_cmp (op_eqD (hu64 hr)) os_eq (FE.r (fe_var (pv 2))) (FE.r (fe_op op_addA os_add (FE.r (fe_var (pv 1))) (FE.r fe_int))) (nomark _)))))
        (fss_one (fs_ret (fe_tup (fa_cons (fe_str [110, 111, 110, 101] (by decide +kernel) (by decide +kernel)) (fa_cons (fe_op op_addA os_add (FE.r (fe_var (pv 2))) (FE.r fe_int)) fa_nil)))))
        fss_nil)
      (fss_one (fs_set (i := 2) keeps sc_count_of.nd rfl (by first | exact .inl rfl | exact .inr rfl) (fe_op op_addA os_add (FE.r (fe_var (pv 2))) (FE.r fe_int))))))
    (fss_cons (fs_if (ft_cmp (op_eqD (hu64 hr)) os_eq (FE.r (fe_var (pv 2))) (FE.r (fe_var (pv 1))) (nomark _))
      (fss_one (fs_ret (fe_tup (fa_cons (fe_str [116, 111, 108, 100] (by decide +kernel) (by decide +kernel)) (fa_cons fe_non (fa_cons (fe_var (pv 1)) fa_nil))))))
      fss_nil)
    (fss_one (fs_ret (fe_tup (fa_cons (fe_str [116, 111, 108, 100] (by decide +kernel) (by decide +kernel)) (fa_cons (fe_callTy call_intA cs_int rfl (T.free 4 rfl) (by decide +kernel) (fb_cons (FE.r (fe_slice rfl (FE.r (fe_var (pv 0))) (fo_some (fe_var (pv 1))) (fo_some (fe_var (pv 2))))) fb_nil)) (fa_cons (fe_var (pv 2)) fa_nil)))))))))⟩)
abbrev N_target_of : List PySem.Str := ["keys", "at", "things", "key", "sign"]
theorem sc_target_of : FnScope ["keys", "at", "things", "key", "sign"] ["keys", "at", "things"] (defScope s_target_of) := ⟨rfl, rfl, rfl, by decide +kernel, rfl, by decide +kernel, by decide +kernel⟩
theorem B_target_of (T : TxX fa fn fx K mg) : FnB P w K mg base "target_of" 2 ["keys", "at", "things"] (spV K mg 3 p_target_of) := by
  have B_is_sign := B_is_sign (P := P) (w := w) (base := base) T
  exact T.t.fnbV 3 21 rfl rfl rfl rfl sc_target_of (fun _ _ _ _ _ _ us hl => match us, hl with | [_, _, _], _ => rfl) (fun f cdv A outer s H F0 E hr tk po => ⟨_, (fss_cons (fs_if (ft_cmp (op_eqD (hu64 hr)) os_eq (FE.r (fe_var (pv 1))) (FE.r (fe_callB call_lenV cs_len rfl (T.free 1 rfl) (by decide +kernel) (fb_cons (FE.r (fe_var (pv 0))) fb_nil))) (nomark _))
      (fss_one (fs_ret (fe_gtup rfl (T.tup 0 rfl) rfl rfl)))
      fss_nil)
    (fss_cons (fs_set (i := 3) keeps sc_target_of.nd rfl (by first | exact .inl rfl | exact .inr rfl) (fe_ix ix_seq os_ix (FE.r (fe_var (pv 0))) (FE.r (fe_var (pv 1))) (fun _ _ => rfl)))
    (fss_cons (fs_if (FW.t (fw_or (ft_cmp op_inA os_in (FE.r (fe_var (pv 3))) (FE.r (fe_gstr (T.str 6 rfl) [104, 108, 106, 107, 98, 101, 119, 118, 111, 103, 122, 112] rfl (by decide +kernel) (by decide +kernel))) rfl) (fw_or1 (FW.t (fw_and (ft_val (fe_var (pv 2))) (fw_and1 (ft_cmp op_inA os_in (FE.r (fe_var (pv 3))) (FE.r (fe_gstr (T.str 5 rfl) [99, 97, 105, 114, 40, 91, 123, 41, 93, 125, 39, 34, 115] rfl (by decide +kernel) (by decide +kernel))) rfl)))))))
      (fss_one (fs_ret (fe_tup (fa_cons (fe_str [116, 111, 108, 100] (by decide +kernel) (by decide +kernel)) (fa_cons (fe_var (pv 3)) (fa_cons (fe_op op_addA os_add (FE.r (fe_var (pv 1))) (FE.r fe_int)) fa_nil))))))
      fss_nil)
    (fss_cons (fs_if (ft_cmp op_notInA os_notIn (FE.r (fe_var (pv 3))) (FE.r (fe_gstr (T.str 7 rfl) [102, 116, 109] rfl (by decide +kernel) (by decide +kernel))) rfl)
      (fss_one (fs_ret (fe_tup (fa_cons (fe_str [110, 111, 110, 101] (by decide +kernel) (by decide +kernel)) (fa_cons (fe_op op_addA os_add (FE.r (fe_var (pv 1))) (FE.r fe_int)) fa_nil)))))
      fss_nil)
    (fss_cons (fs_if (ft_cmp (op_eqD (hu64 hr)) os_eq (FE.r (fe_op op_addA os_add (FE.r (fe_var (pv 1))) (FE.r fe_int))) (FE.r (fe_callB call_lenV cs_len rfl (T.free 1 rfl) (by decide +kernel) (fb_cons (FE.r (fe_var (pv 0))) fb_nil))) (nomark _))
      (fss_one (fs_ret (fe_gtup rfl (T.tup 0 rfl) rfl rfl)))
      fss_nil)
    (fss_cons (fs_set (i := 4) keeps sc_target_of.nd rfl (by first | exact .inl rfl | exact .inr rfl) (fe_ix ix_seq os_ix (FE.r (fe_var (pv 0))) (FE.r (fe_op op_addA os_add (FE.r (fe_var (pv 1))) (FE.r fe_int))) (fun _ _ => rfl)))
    (fss_cons (fs_if (FW.t (fw_or (FW.t (fw_and (ft_cmp (op_eqD (hu64 hr)) os_eq (FE.r (fe_var (pv 3))) (FE.r (fe_str [109] (by decide +kernel) (by decide +kernel))) (nomark _)) (fw_and1 (ft_cmp op_inA os_in (FE.r (fe_var (pv 4))) (FE.r (fe_gstr (T.str 2 rfl) ks_c3fcd3 rfl (by decide +kernel) (by decide +kernel))) rfl)))) (fw_or1 (FW.t (fw_and (ft_cmp (op_neD (hu64 hr)) os_ne (FE.r (fe_var (pv 3))) (FE.r (fe_str [109] (by decide +kernel) (by decide +kernel))) (nomark _)) (fw_and1 (ft_val (fe_call (FnB.d B_is_sign) rfl rfl (hr.mono (by decide)) rfl tk (fa_cons (fe_var (pv 4)) fa_nil) rfl (mCons_len mNil_len)))))))))
      (fss_one (fs_ret (fe_tup (fa_cons (fe_str [116, 111, 108, 100] (by decide +kernel) (by decide +kernel)) (fa_cons (fe_op op_addA os_add (FE.r (fe_var (pv 3))) (FE.r (fe_var (pv 4)))) (fa_cons (fe_op op_addA os_add (FE.r (fe_var (pv 1))) (FE.r fe_int)) fa_nil))))))
      fss_nil)
    (fss_one (fs_ret (fe_tup (fa_cons (fe_str [110, 111, 110, 101] (by decide +kernel) (by decide +kernel)) (fa_cons (fe_op op_addA os_add (FE.r (fe_var (pv 1))) (FE.r fe_int)) fa_nil))))))))))))⟩)
abbrev N_ended : List PySem.Str := ["keys", "at", "mark", "beside", "end"]
theorem sc_ended : FnScope ["keys", "at", "mark", "beside", "end"] ["keys", "at", "mark", "beside"] (defScope s_ended) := ⟨rfl, rfl, rfl, by decide +kernel, rfl, by decide +kernel, by decide +kernel⟩
theorem B_ended (T : TxX fa fn fx K mg) : FnB P w K mg base "ended" 2 ["keys", "at", "mark", "beside"] (spV K mg 4 p_ended) := by
  have B_is_sign := B_is_sign (P := P) (w := w) (base := base) T
  exact T.t.fnbV 4 22 rfl rfl rfl rfl sc_ended (fun _ _ _ _ _ _ us hl => match us, hl with | [_, _, _, _], _ => rfl) (fun f cdv A outer s H F0 E hr tk po => ⟨_, (fss_cons (fs_for po rfl (fi_range2 rfl (T.free 8 rfl) (fa_cons (fe_var (pv 1)) (fa_cons (fe_callB call_lenV cs_len rfl (T.free 1 rfl) (by decide +kernel) (fb_cons (FE.r (fe_var (pv 0))) fb_nil)) fa_nil))) (fg_name (i := 4) keeps sc_ended.nd rfl (by first | exact .inl rfl | exact .inr rfl))
      (fss_cons (fs_if (ft_cmp (op_eqD (hu64 hr)) os_eq (FE.r (fe_ix ix_seq os_ix (FE.r (fe_var (pv 0))) (FE.r (fe_var (pv 4))) (fun _ _ => rfl))) (FE.r (fe_var (pv 2))) (nomark _))
        (fss_one (fs_ret (fe_tup (fa_cons (fe_str [116, 111, 108, 100] (by decide +kernel) (by decide +kernel)) (fa_cons (fe_slice rfl (FE.r (fe_var (pv 0))) (fo_some (fe_var (pv 1))) (fo_some (fe_var (pv 4)))) (fa_cons (fe_op op_addA os_add (FE.r (fe_var (pv 4))) (FE.r fe_int)) fa_nil))))))
        fss_nil)
      (fss_one (fs_if (FW.t (fw_and (ft_cmp (op_neD (hu64 hr)) os_ne (FE.r (fe_ix ix_seq os_ix (FE.r (fe_var (pv 0))) (FE.r (fe_var (pv 4))) (fun _ _ => rfl))) (FE.r (fe_var (pv 3))) (nomark _)) (fw_and1 (ft_not (ft_val (fe_call (FnB.d B_is_sign) rfl rfl (hr.mono (by decide)) rfl tk (fa_cons (fe_ix ix_seq os_ix (FE.r (fe_var (pv 0))) (FE.r (fe_var (pv 4))) (fun _ _ => rfl)) fa_nil) rfl (mCons_len mNil_len)))))))
        (fss_one (fs_ret (fe_tup (fa_cons (fe_str [110, 111, 110, 101] (by decide +kernel) (by decide +kernel)) (fa_cons (fe_op op_addA os_add (FE.r (fe_var (pv 4))) (FE.r fe_int)) fa_nil)))))
        fss_nil))))
    (fss_one (fs_ret (fe_gtup rfl (T.tup 0 rfl) rfl rfl))))⟩)
abbrev N_fits_verb : List PySem.Str := ["verb", "key"]
theorem sc_fits_verb : FnScope ["verb", "key"] ["verb", "key"] (defScope s_fits_verb) := ⟨rfl, rfl, rfl, by decide +kernel, rfl, by decide +kernel, by decide +kernel⟩
theorem B_fits_verb (T : TxX fa fn fx K mg) : FnB P w K mg base "fits_verb" 2 ["verb", "key"] (spV K mg 2 p_fits_verb) := by
  have B_is_sign := B_is_sign (P := P) (w := w) (base := base) T
  exact T.t.fnbV 5 23 rfl rfl rfl rfl sc_fits_verb (fun _ _ _ _ _ _ us hl => match us, hl with | [_, _], _ => rfl) (fun f cdv A outer s H F0 E hr tk po => ⟨_, (fss_cons (fs_if (ft_cmp (op_eqD (hu64 hr)) os_eq (FE.r (fe_var (pv 0))) (FE.r (fe_str [82] (by decide +kernel) (by decide +kernel))) (nomark _))
      (fss_one (fs_ret (fe_call (FnB.d B_is_sign) rfl rfl (hr.mono (by decide)) rfl tk (fa_cons (fe_var (pv 1)) fa_nil) rfl (mCons_len mNil_len))))
      fss_nil)
    (fss_cons (fs_if (ft_cmp (op_eqD (hu64 hr)) os_eq (FE.r (fe_var (pv 0))) (FE.r (fe_str [86] (by decide +kernel) (by decide +kernel))) (nomark _))
      (fss_one (fs_ret (fe_cmpo op_inA os_in (FE.r (fe_var (pv 1))) (FE.r (fe_str [115, 114, 98] (by decide +kernel) (by decide +kernel))) rfl)))
      fss_nil)
    (fss_one (fs_ret (fe_cmpo op_inA os_in (FE.r (fe_var (pv 1))) (FE.r (fe_gstr (T.str 2 rfl) ks_c3fcd3 rfl (by decide +kernel) (by decide +kernel))) rfl)))))⟩)
abbrev N_typed_of : List PySem.Str := ["keys", "at", "verb"]
theorem sc_typed_of : FnScope ["keys", "at", "verb"] ["keys", "at", "verb"] (defScope s_typed_of) := ⟨rfl, rfl, rfl, by decide +kernel, rfl, by decide +kernel, by decide +kernel⟩
theorem B_typed_of (T : TxX fa fn fx K mg) : FnB P w K mg base "typed_of" 3 ["keys", "at", "verb"] (spV K mg 3 p_typed_of) := by
  have B_ended := B_ended (P := P) (w := w) (base := base) T
  have B_fits_verb := B_fits_verb (P := P) (w := w) (base := base) T
  exact T.t.fnbV 6 24 rfl rfl rfl rfl sc_typed_of (fun _ _ _ _ _ _ us hl => match us, hl with | [_, _, _], _ => rfl) (fun f cdv A outer s H F0 E hr tk po => ⟨_, (fss_cons (fs_if (FW.t (fw_or (ft_cmp (op_eqD (hu64 hr)) os_eq (FE.r (fe_var (pv 2))) (FE.r (fe_str [88] (by decide +kernel) (by decide +kernel))) (nomark _)) (fw_or1 (ft_cmp (op_eqD (hu64 hr)) os_eq (FE.r (fe_var (pv 2))) (FE.r (fe_str [84] (by decide +kernel) (by decide +kernel))) (nomark _)))))
      (fss_one (fs_ret (fe_call (FnB.d B_ended) rfl rfl (hr.mono (by decide)) rfl tk (fa_cons (fe_var (pv 0)) (fa_cons (fe_var (pv 1)) (fa_cons (fe_str [126] (by decide +kernel) (by decide +kernel)) (fa_cons (fe_str [10] (by decide +kernel) (by decide +kernel)) fa_nil)))) rfl (mCons_len (mCons_len (mCons_len (mCons_len mNil_len)))))))
      fss_nil)
    (fss_cons (fs_if (ft_cmp (op_eqD (hu64 hr)) os_eq (FE.r (fe_var (pv 2))) (FE.r (fe_str [58] (by decide +kernel) (by decide +kernel))) (nomark _))
      (fss_one (fs_ret (fe_call (FnB.d B_ended) rfl rfl (hr.mono (by decide)) rfl tk (fa_cons (fe_var (pv 0)) (fa_cons (fe_var (pv 1)) (fa_cons (fe_str [10] (by decide +kernel) (by decide +kernel)) (fa_cons (fe_str [126] (by decide +kernel) (by decide +kernel)) fa_nil)))) rfl (mCons_len (mCons_len (mCons_len (mCons_len mNil_len)))))))
      fss_nil)
    (fss_cons (fs_if (ft_cmp op_notInA os_notIn (FE.r (fe_var (pv 2))) (FL.r (fl_lst (fa_cons (fe_str [82] (by decide +kernel) (by decide +kernel)) (fa_cons (fe_str [86] (by decide +kernel) (by decide +kernel)) (fa_cons (fe_str [77] (by decide +kernel) (by decide +kernel)) (fa_cons (fe_str [75] (by decide +kernel) (by decide +kernel)) (fa_cons (fe_str [64] (by decide +kernel) (by decide +kernel)) fa_nil))))))) rfl)
      (fss_one (fs_ret (fe_tup (fa_cons (fe_str [116, 111, 108, 100] (by decide +kernel) (by decide +kernel)) (fa_cons (fe_str [] (by decide +kernel) (by decide +kernel)) (fa_cons (fe_var (pv 1)) fa_nil))))))
      fss_nil)
    (fss_cons (fs_if (ft_cmp (op_eqD (hu64 hr)) os_eq (FE.r (fe_var (pv 1))) (FE.r (fe_callB call_lenV cs_len rfl (T.free 1 rfl) (by decide +kernel) (fb_cons (FE.r (fe_var (pv 0))) fb_nil))) (nomark _))
      (fss_one (fs_ret (fe_gtup rfl (T.tup 0 rfl) rfl rfl)))
      fss_nil)
    (fss_cons (fs_if (ft_not (ft_val (fe_call (FnB.d B_fits_verb) rfl rfl (hr.mono (by decide)) rfl tk (fa_cons (fe_var (pv 2)) (fa_cons (fe_ix ix_seq os_ix (FE.r (fe_var (pv 0))) (FE.r (fe_var (pv 1))) (fun _ _ => rfl)) fa_nil)) rfl (mCons_len (mCons_len mNil_len)))))
      (fss_one (fs_ret (fe_tup (fa_cons (fe_str [110, 111, 110, 101] (by decide +kernel) (by decide +kernel)) (fa_cons (fe_op op_addA os_add (FE.r (fe_var (pv 1))) (FE.r fe_int)) fa_nil)))))
      fss_nil)
    (fss_one (fs_ret (fe_tup (fa_cons (fe_str [116, 111, 108, 100] (by decide +kernel) (by decide +kernel)) (fa_cons (fe_ix ix_seq os_ix (FE.r (fe_var (pv 0))) (FE.r (fe_var (pv 1))) (fun _ _ => rfl)) (fa_cons (fe_op op_addA os_add (FE.r (fe_var (pv 1))) (FE.r fe_int)) fa_nil)))))))))))⟩)
abbrev N_behind_count : List PySem.Str := ["keys", "shelf", "count", "at", "verb", "target", "typed"]
theorem sc_behind_count : FnScope ["keys", "shelf", "count", "at", "verb", "target", "typed"] ["keys", "shelf", "count", "at"] (defScope s_behind_count) := ⟨rfl, rfl, rfl, by decide +kernel, rfl, by decide +kernel, by decide +kernel⟩
theorem B_behind_count (T : TxX fa fn fx K mg) : FnB P w K mg base "behind_count" 4 ["keys", "shelf", "count", "at"] (spV K mg 4 p_behind_count) := by
  have B_target_of := B_target_of (P := P) (w := w) (base := base) T
  have B_typed_of := B_typed_of (P := P) (w := w) (base := base) T
  exact T.t.fnbV 7 25 rfl rfl rfl rfl sc_behind_count (fun _ _ _ _ _ _ us hl => match us, hl with | [_, _, _, _], _ => rfl) (fun f cdv A outer s H F0 E hr tk po => ⟨_, (fss_cons (fs_set (i := 4) keeps sc_behind_count.nd rfl (by first | exact .inl rfl | exact .inr rfl) (fe_str [] (by decide +kernel) (by decide +kernel)))
    (fss_cons (fs_set (i := 5) keeps sc_behind_count.nd rfl (by first | exact .inl rfl | exact .inr rfl) (fe_tup (fa_cons (fe_str [116, 111, 108, 100] (by decide +kernel) (by decide +kernel)) (fa_cons (fe_str [] (by decide +kernel) (by decide +kernel)) (fa_cons (fe_op op_addA os_add (FE.r (fe_var (pv 3))) (FE.r fe_int)) fa_nil)))))
    (fss_cons (fs_if (ft_cmp op_inA os_in (FE.r (fe_ix ix_seq os_ix (FE.r (fe_var (pv 0))) (FE.r (fe_var (pv 3))) (fun _ _ => rfl))) (FE.r (fe_gstr (T.str 9 rfl) ks_7958c9 rfl (by decide +kernel) (by decide +kernel))) rfl)
      (fss_one (fs_set (i := 4) keeps sc_behind_count.nd rfl (by first | exact .inl rfl | exact .inr rfl) (fe_ix ix_seq os_ix (FE.r (fe_var (pv 0))) (FE.r (fe_var (pv 3))) (fun _ _ => rfl))))
      fss_nil)
    (fss_cons (fs_if (FW.t (fw_and (ft_cmp (op_neD (hu64 hr)) os_ne (FE.r (fe_var (pv 1))) (FE.r (fe_str [] (by decide +kernel) (by decide +kernel))) (nomark _)) (fw_and1 (FW.t (fw_or (ft_cmp (op_eqD (hu64 hr)) os_eq (FE.r (fe_var (pv 4))) (FE.r (fe_str [] (by decide +kernel) (by decide +kernel))) (nomark _)) (fw_or1 (ft_cmp op_notInA os_notIn (FE.r (fe_var (pv 4))) (FE.r (fe_gstr (T.str 10 rfl) [67, 89, 88, 80] rfl (by decide +kernel) (by decide +kernel))) rfl)))))))
      (fss_one (fs_ret (fe_tup (fa_cons (fe_str [110, 111, 110, 101] (by decide +kernel) (by decide +kernel)) (fa_cons (fe_op op_addA os_add (FE.r (fe_var (pv 3))) (FE.r fe_int)) fa_nil)))))
      fss_nil)
    (fss_cons (fs_if (FW.t (fw_and (ft_cmp op_notN os_notN (FE.r (fe_var (pv 2))) (FE.r fe_non) (nomark _)) (fw_and (ft_cmp (op_neD (hu64 hr)) os_ne (FE.r (fe_var (pv 4))) (FE.r (fe_str [] (by decide +kernel) (by decide +kernel))) (nomark _)) (fw_and1 (ft_cmp op_inA os_in (FE.r (fe_var (pv 4))) (FE.r (fe_gstr (T.str 11 rfl) [77, 75, 86, 58] rfl (by decide +kernel) (by decide +kernel))) rfl)))))
      (fss_one (fs_ret (fe_tup (fa_cons (fe_str [110, 111, 110, 101] (by decide +kernel) (by decide +kernel)) (fa_cons (fe_op op_addA os_add (FE.r (fe_var (pv 3))) (FE.r fe_int)) fa_nil)))))
      fss_nil)
    (fss_cons (fs_if (ft_cmp (op_eqD (hu64 hr)) os_eq (FE.r (fe_var (pv 4))) (FE.r (fe_str [] (by decide +kernel) (by decide +kernel))) (nomark _))
      (fss_one (fs_set (i := 5) keeps sc_behind_count.nd rfl (by first | exact .inl rfl | exact .inr rfl) (fe_call (FnB.d B_target_of) rfl rfl (hr.mono (by decide)) rfl tk (fa_cons (fe_var (pv 0)) (fa_cons (fe_var (pv 3)) (fa_cons fe_bl fa_nil))) rfl (mCons_len (mCons_len (mCons_len mNil_len))))))
      (fss_one (fs_if (ft_cmp op_inA os_in (FE.r (fe_var (pv 4))) (FE.r (fe_gstr (T.str 12 rfl) [67, 89, 88, 71, 83, 68, 70, 74] rfl (by decide +kernel) (by decide +kernel))) rfl)
        (fss_one (fs_set (i := 5) keeps sc_behind_count.nd rfl (by first | exact .inl rfl | exact .inr rfl) (fe_call (FnB.d B_target_of) rfl rfl (hr.mono (by decide)) rfl tk (fa_cons (fe_var (pv 0)) (fa_cons (fe_op op_addA os_add (FE.r (fe_var (pv 3))) (FE.r fe_int)) (fa_cons fe_bl fa_nil))) rfl (mCons_len (mCons_len (mCons_len mNil_len))))))
        fss_nil)))
    (fss_cons (fs_if (ft_cmp (op_neD (hu64 hr)) os_ne (FE.r (fe_ix ix_seq os_ix (FE.r (fe_var (pv 5))) (FE.r fe_int) (fun _ _ => rfl))) (FE.r (fe_str [116, 111, 108, 100] (by decide +kernel) (by decide +kernel))) (nomark _))
      (fss_one (fs_ret (fe_var (pv 5))))
      fss_nil)
    (fss_cons (fs_set (i := 6) keeps sc_behind_count.nd rfl (by first | exact .inl rfl | exact .inr rfl) (fe_call (FnB.d B_typed_of) rfl rfl (hr.mono (by decide)) rfl tk (fa_cons (fe_var (pv 0)) (fa_cons (fe_ix ix_seq os_ix (FE.r (fe_var (pv 5))) (FE.r fe_int) (fun _ _ => rfl)) (fa_cons (fe_var (pv 4)) fa_nil))) rfl (mCons_len (mCons_len (mCons_len mNil_len)))))
    (fss_cons (fs_if (ft_cmp (op_neD (hu64 hr)) os_ne (FE.r (fe_ix ix_seq os_ix (FE.r (fe_var (pv 6))) (FE.r fe_int) (fun _ _ => rfl))) (FE.r (fe_str [116, 111, 108, 100] (by decide +kernel) (by decide +kernel))) (nomark _))
      (fss_one (fs_ret (fe_var (pv 6))))
      fss_nil)
    (fss_one (fs_ret (fe_tup (fa_cons (fe_str [112, 104, 114, 97, 115, 101] (by decide +kernel) (by decide +kernel)) (fa_cons (fe_tup (fa_cons (fe_var (pv 1)) (fa_cons (fe_var (pv 2)) (fa_cons (fe_var (pv 4)) (fa_cons (fe_ix ix_seq os_ix (FE.r (fe_var (pv 5))) (FE.r fe_int) (fun _ _ => rfl)) (fa_cons (fe_ix ix_seq os_ix (FE.r (fe_var (pv 6))) (FE.r fe_int) (fun _ _ => rfl)) fa_nil)))))) (fa_cons (fe_ix ix_seq os_ix (FE.r (fe_var (pv 6))) (FE.r fe_int) (fun _ _ => rfl)) fa_nil)))))))))))))))⟩)
abbrev N_first : List PySem.Str := ["keys", "shelf", "count"]
theorem sc_first : FnScope ["keys", "shelf", "count"] ["keys"] (defScope s_first) := ⟨rfl, rfl, rfl, by decide +kernel, rfl, by decide +kernel, by decide +kernel⟩
theorem B_first (T : TxX fa fn fx K mg) : FnB P w K mg base "first" 5 ["keys"] (spV K mg 1 p_first) := by
  have B_behind_count := B_behind_count (P := P) (w := w) (base := base) T
  have B_count_of := B_count_of (P := P) (w := w) (base := base) T
  have B_shelf_of := B_shelf_of (P := P) (w := w) (base := base) T
  exact T.t.fnbV 8 26 rfl rfl rfl rfl sc_first (fun _ _ _ _ _ _ us hl => match us, hl with | [_], _ => rfl) (fun f cdv A outer s H F0 E hr tk po => ⟨_, (fss_cons (fs_set (i := 1) keeps sc_first.nd rfl (by first | exact .inl rfl | exact .inr rfl) (fe_call (FnB.d B_shelf_of) rfl rfl (hr.mono (by decide)) rfl tk (fa_cons (fe_var (pv 0)) fa_nil) rfl (mCons_len mNil_len)))
    (fss_cons (fs_if (ft_cmp (op_neD (hu64 hr)) os_ne (FE.r (fe_ix ix_seq os_ix (FE.r (fe_var (pv 1))) (FE.r fe_int) (fun _ _ => rfl))) (FE.r (fe_str [116, 111, 108, 100] (by decide +kernel) (by decide +kernel))) (nomark _))
      (fss_one (fs_ret (fe_var (pv 1))))
      fss_nil)
    (fss_cons (fs_set (i := 2) keeps sc_first.nd rfl (by first | exact .inl rfl | exact .inr rfl) (fe_call (FnB.d B_count_of) rfl rfl (hr.mono (by decide)) rfl tk (fa_cons (fe_var (pv 0)) (fa_cons (fe_ix ix_seq os_ix (FE.r (fe_var (pv 1))) (FE.r fe_int) (fun _ _ => rfl)) fa_nil)) rfl (mCons_len (mCons_len mNil_len))))
    (fss_cons (fs_if (ft_cmp (op_neD (hu64 hr)) os_ne (FE.r (fe_ix ix_seq os_ix (FE.r (fe_var (pv 2))) (FE.r fe_int) (fun _ _ => rfl))) (FE.r (fe_str [116, 111, 108, 100] (by decide +kernel) (by decide +kernel))) (nomark _))
      (fss_one (fs_ret (fe_var (pv 2))))
      fss_nil)
    (fss_cons (fs_if (ft_cmp (op_eqD (hu64 hr)) os_eq (FE.r (fe_ix ix_seq os_ix (FE.r (fe_var (pv 2))) (FE.r fe_int) (fun _ _ => rfl))) (FE.r (fe_callB call_lenV cs_len rfl (T.free 1 rfl) (by decide +kernel) (fb_cons (FE.r (fe_var (pv 0))) fb_nil))) (nomark _))
      (fss_one (fs_ret (fe_gtup rfl (T.tup 0 rfl) rfl rfl)))
      fss_nil)
    (fss_one (fs_ret (fe_call (FnB.d B_behind_count) rfl rfl (hr.mono (by decide)) rfl tk (fa_cons (fe_var (pv 0)) (fa_cons (fe_ix ix_seq os_ix (FE.r (fe_var (pv 1))) (FE.r fe_int) (fun _ _ => rfl)) (fa_cons (fe_ix ix_seq os_ix (FE.r (fe_var (pv 2))) (FE.r fe_int) (fun _ _ => rfl)) (fa_cons (fe_ix ix_seq os_ix (FE.r (fe_var (pv 2))) (FE.r fe_int) (fun _ _ => rfl)) fa_nil)))) rfl (mCons_len (mCons_len (mCons_len (mCons_len mNil_len))))))))))))⟩)
abbrev N__law_cell_at : List PySem.Str := ["_law_script", "_law_k"]
theorem sc__law_cell_at : FnScope ["_law_script", "_law_k"] ["_law_script", "_law_k"] (defScope s__law_cell_at) := ⟨rfl, rfl, rfl, by decide +kernel, rfl, by decide +kernel, by decide +kernel⟩
theorem B__law_cell_at (T : TxX fa fn fx K mg) : FnB P w K mg base "_law_cell_at" 1 ["_law_script", "_law_k"] (spV K mg 2 p__law_cell_at) := by
  exact T.t.fnbV 9 27 rfl rfl rfl rfl sc__law_cell_at (fun _ _ _ _ _ _ us hl => match us, hl with | [_, _], _ => rfl) (fun f cdv A outer s H F0 E hr tk po => ⟨_, (fss_cons (fs_if (ft_cmp op_ltA os_lt (FE.r (fe_var (pv 1))) (FE.r (fe_callB call_lenV cs_len rfl (T.free 1 rfl) (by decide +kernel) (fb_cons (FE.r (fe_var (pv 0))) fb_nil))) (nomark _))
      (fss_one (fs_ret (fe_ix ix_seq os_ix (FE.r (fe_var (pv 0))) (FE.r (fe_var (pv 1))) (fun _ _ => rfl))))
      fss_nil)
    (fss_one (fs_ret fe_int)))⟩)
abbrev N__law_sign_by : List PySem.Str := ["_law_cell", "_law_some"]
theorem sc__law_sign_by : FnScope ["_law_cell", "_law_some"] ["_law_cell"] (defScope s__law_sign_by) := ⟨rfl, rfl, rfl, by decide +kernel, rfl, by decide +kernel, by decide +kernel⟩
theorem B__law_sign_by (T : TxX fa fn fx K mg) : FnB P w K mg base "_law_sign_by" 1 ["_law_cell"] (spV K mg 1 p__law_sign_by) := by
  exact T.t.fnbV 10 28 rfl rfl rfl rfl sc__law_sign_by (fun _ _ _ _ _ _ us hl => match us, hl with | [_], _ => rfl) (fun f cdv A outer s H F0 E hr tk po => ⟨_, (fss_cons (fs_set (i := 1) keeps sc__law_sign_by.nd rfl (by first | exact .inl rfl | exact .inr rfl) (fe_str ks_7109b8 (by decide +kernel) (by decide +kernel)))
    (fss_cons (fs_set (i := 1) keeps sc__law_sign_by.nd rfl (by first | exact .inl rfl | exact .inr rfl) (fe_op op_addA os_add (FE.r (fe_var (pv 1))) (FE.r (fe_str ks_006d57 (by decide +kernel) (by decide +kernel)))))
    (fss_one (fs_ret (fe_ix ix_seq os_ix (FE.r (fe_var (pv 1))) (FE.r (fe_op op_mod os_mod (FE.r (fe_var (pv 0))) (FE.r fe_int))) (fun _ _ => rfl))))))⟩)
abbrev N__law_letter_by : List PySem.Str := ["_law_cell"]
theorem sc__law_letter_by : FnScope ["_law_cell"] ["_law_cell"] (defScope s__law_letter_by) := ⟨rfl, rfl, rfl, by decide +kernel, rfl, by decide +kernel, by decide +kernel⟩
theorem B__law_letter_by (T : TxX fa fn fx K mg) : FnB P w K mg base "_law_letter_by" 1 ["_law_cell"] (spV K mg 1 p__law_letter_by) := by
  exact T.t.fnbV 11 29 rfl rfl rfl rfl sc__law_letter_by (fun _ _ _ _ _ _ us hl => match us, hl with | [_], _ => rfl) (fun f cdv A outer s H F0 E hr tk po => ⟨_, (fss_one (fs_ret (fe_ix ix_seq os_ix (FE.r (fe_str ks_c3fcd3 (by decide +kernel) (by decide +kernel))) (FE.r (fe_op op_mod os_mod (FE.r (fe_var (pv 0))) (FE.r fe_int))) (fun _ _ => rfl))))⟩)
abbrev N__law_count_by : List PySem.Str := ["_law_cell"]
theorem sc__law_count_by : FnScope ["_law_cell"] ["_law_cell"] (defScope s__law_count_by) := ⟨rfl, rfl, rfl, by decide +kernel, rfl, by decide +kernel, by decide +kernel⟩
theorem B__law_count_by (T : TxX fa fn fx K mg) : FnB P w K mg base "_law_count_by" 1 ["_law_cell"] (spV K mg 1 p__law_count_by) := by
  exact T.t.fnbV 12 30 rfl rfl rfl rfl sc__law_count_by (fun _ _ _ _ _ _ us hl => match us, hl with | [_], _ => rfl) (fun f cdv A outer s H F0 E hr tk po => ⟨_, (fss_cons (fs_if (ft_cmp (op_eqD (hu64 hr)) os_eq (FE.r (fe_op op_mod os_mod (FE.r (fe_var (pv 0))) (FE.r fe_int))) (FE.r fe_int) (nomark _))
      (fss_one (fs_ret fe_non))
      fss_nil)
    (fss_cons (fs_if (ft_cmp (op_eqD (hu64 hr)) os_eq (FE.r (fe_op op_mod os_mod (FE.r (fe_var (pv 0))) (FE.r fe_int))) (FE.r fe_int) (nomark _))
      (fss_one (fs_ret (fe_op op_addA os_add (FE.r fe_int) (FE.r (fe_op op_mod os_mod (FE.r (fe_op op_fdivW os_fdiv (FE.r (fe_var (pv 0))) (FE.r fe_int))) (FE.r fe_int))))))
      fss_nil)
    (fss_one (fs_ret (fe_op op_addA os_add (FE.r fe_int) (FE.r (fe_op op_mod os_mod (FE.r (fe_op op_fdivW os_fdiv (FE.r (fe_var (pv 0))) (FE.r fe_int))) (FE.r fe_int))))))))⟩)
abbrev N__law_move_by : List PySem.Str := ["_law_cell", "_law_key"]
theorem sc__law_move_by : FnScope ["_law_cell", "_law_key"] ["_law_cell"] (defScope s__law_move_by) := ⟨rfl, rfl, rfl, by decide +kernel, rfl, by decide +kernel, by decide +kernel⟩
theorem B__law_move_by (T : TxX fa fn fx K mg) : FnB P w K mg base "_law_move_by" 2 ["_law_cell"] (spV K mg 1 p__law_move_by) := by
  have B__law_letter_by := B__law_letter_by (P := P) (w := w) (base := base) T
  have B__law_sign_by := B__law_sign_by (P := P) (w := w) (base := base) T
  exact T.t.fnbV 13 31 rfl rfl rfl rfl sc__law_move_by (fun _ _ _ _ _ _ us hl => match us, hl with | [_], _ => rfl) (fun f cdv A outer s H F0 E hr tk po => ⟨_, (fss_cons (fs_set (i := 1) keeps sc__law_move_by.nd rfl (by first | exact .inl rfl | exact .inr rfl) (fe_ix ix_seq os_ix (FE.r (fe_str [104, 108, 106, 107, 98, 101, 119, 118, 111, 103, 122, 112, 102, 116, 109] (by decide +kernel) (by decide +kernel))) (FE.r (fe_op op_mod os_mod (FE.r (fe_var (pv 0))) (FE.r fe_int))) (fun _ _ => rfl)))
    (fss_cons (fs_if (ft_cmp (op_eqD (hu64 hr)) os_eq (FE.r (fe_var (pv 1))) (FE.r (fe_str [109] (by decide +kernel) (by decide +kernel))) (nomark _))
      (fss_one (fs_ret (fe_op op_addA os_add (FE.r (fe_var (pv 1))) (FE.r (fe_call (FnB.d B__law_letter_by) rfl rfl (hr.mono (by decide)) rfl tk (fa_cons (fe_op op_fdivW os_fdiv (FE.r (fe_var (pv 0))) (FE.r fe_int)) fa_nil) rfl (mCons_len mNil_len))))))
      fss_nil)
    (fss_cons (fs_if (ft_cmp op_inA os_in (FE.r (fe_var (pv 1))) (FE.r (fe_str [102, 116] (by decide +kernel) (by decide +kernel))) rfl)
      (fss_one (fs_ret (fe_op op_addA os_add (FE.r (fe_var (pv 1))) (FE.r (fe_call (FnB.d B__law_sign_by) rfl rfl (hr.mono (by decide)) rfl tk (fa_cons (fe_op op_fdivW os_fdiv (FE.r (fe_var (pv 0))) (FE.r fe_int)) fa_nil) rfl (mCons_len mNil_len))))))
      fss_nil)
    (fss_one (fs_ret (fe_var (pv 1)))))))⟩)
abbrev N__law_target_by : List PySem.Str := ["_law_cell"]
theorem sc__law_target_by : FnScope ["_law_cell"] ["_law_cell"] (defScope s__law_target_by) := ⟨rfl, rfl, rfl, by decide +kernel, rfl, by decide +kernel, by decide +kernel⟩
theorem B__law_target_by (T : TxX fa fn fx K mg) : FnB P w K mg base "_law_target_by" 3 ["_law_cell"] (spV K mg 1 p__law_target_by) := by
  have B__law_move_by := B__law_move_by (P := P) (w := w) (base := base) T
  exact T.t.fnbV 14 32 rfl rfl rfl rfl sc__law_target_by (fun _ _ _ _ _ _ us hl => match us, hl with | [_], _ => rfl) (fun f cdv A outer s H F0 E hr tk po => ⟨_, (fss_cons (fs_if (ft_cmp (op_eqD (hu64 hr)) os_eq (FE.r (fe_op op_mod os_mod (FE.r (fe_var (pv 0))) (FE.r fe_int))) (FE.r fe_int) (nomark _))
      (fss_one (fs_ret (fe_call (FnB.d B__law_move_by) rfl rfl (hr.mono (by decide)) rfl tk (fa_cons (fe_op op_fdivW os_fdiv (FE.r (fe_var (pv 0))) (FE.r fe_int)) fa_nil) rfl (mCons_len mNil_len))))
      fss_nil)
    (fss_one (fs_ret (fe_ix ix_seq os_ix (FE.r (fe_str [99, 97, 105, 114, 40, 91, 123, 41, 93, 125, 39, 34, 115] (by decide +kernel) (by decide +kernel))) (FE.r (fe_op op_mod os_mod (FE.r (fe_op op_fdivW os_fdiv (FE.r (fe_var (pv 0))) (FE.r fe_int))) (FE.r fe_int))) (fun _ _ => rfl)))))⟩)
abbrev N__law_run_by : List PySem.Str := ["_law_cell", "_law_beside", "_law_size", "_law_signs", "_law_k", "_law_number"]
theorem sc__law_run_by : FnScope ["_law_cell", "_law_beside", "_law_size", "_law_signs", "_law_k", "_law_number"] ["_law_cell", "_law_beside"] (defScope s__law_run_by) := ⟨rfl, rfl, rfl, by decide +kernel, rfl, by decide +kernel, by decide +kernel⟩
theorem B__law_run_by (T : TxX fa fn fx K mg) : FnB P w K mg base "_law_run_by" 2 ["_law_cell", "_law_beside"] (spV K mg 2 p__law_run_by) := by
  have B__law_sign_by := B__law_sign_by (P := P) (w := w) (base := base) T
  exact T.t.fnbV 15 33 rfl rfl rfl rfl sc__law_run_by (fun _ _ _ _ _ _ us hl => match us, hl with | [_, _], _ => rfl) (fun f cdv A outer s H F0 E hr tk po => ⟨_, (fss_cons (fs_set (i := 2) keeps sc__law_run_by.nd rfl (by first | exact .inl rfl | exact .inr rfl) (fe_op op_mod os_mod (FE.r (fe_var (pv 0))) (FE.r fe_int)))
    (fss_cons (fs_if (ft_cmp (op_eqD (hu64 hr)) os_eq (FE.r (fe_op op_mod os_mod (FE.r (fe_op op_fdivW os_fdiv (FE.r (fe_var (pv 0))) (FE.r fe_int))) (FE.r fe_int))) (FE.r fe_int) (nomark _))
      (fss_one (fs_set (i := 2) keeps sc__law_run_by.nd rfl (by first | exact .inl rfl | exact .inr rfl) (fe_op op_addA os_add (FE.r fe_int) (FE.r (fe_op op_mod os_mod (FE.r (fe_op op_fdivW os_fdiv (FE.r (fe_var (pv 0))) (FE.r fe_int))) (FE.r fe_int))))))
      fss_nil)
    (fss_cons (fs_set (i := 3) keeps sc__law_run_by.nd rfl (by first | exact .inl rfl | exact .inr rfl) (fe_str [] (by decide +kernel) (by decide +kernel)))
    (fss_cons (fs_for po rfl (fi_range1 rfl (T.free 8 rfl) (fa_cons (fe_var (pv 2)) fa_nil)) (fg_name (i := 4) keeps sc__law_run_by.nd rfl (by first | exact .inl rfl | exact .inr rfl))
      (fss_cons (fs_set (i := 5) keeps sc__law_run_by.nd rfl (by first | exact .inl rfl | exact .inr rfl) (fe_op op_mod os_mod (FE.r (fe_op op_mulA os_mul (FE.r (fe_op op_addA os_add (FE.r (fe_op op_mod os_mod (FE.r (fe_var (pv 0))) (FE.r fe_int))) (FE.r fe_int))) (FE.r (fe_op op_addA os_add (FE.r fe_int) (FE.r (fe_op op_mulA os_mul (FE.r (fe_op op_mulA os_mul (FE.r fe_int) (FE.r (fe_var (pv 4))))) (FE.r (fe_var (pv 4))))))))) (FE.r fe_int)))
      (fss_one (fs_if (ft_cmp (op_eqD (hu64 hr)) os_eq (FE.r (fe_op op_mod os_mod (FE.r (fe_var (pv 5))) (FE.r fe_int))) (FE.r fe_int) (nomark _))
        (fss_one (fs_set (i := 3) keeps sc__law_run_by.nd rfl (by first | exact .inl rfl | exact .inr rfl) (fe_op op_addA os_add (FE.r (fe_var (pv 3))) (FE.r (fe_var (pv 1))))))
        (fss_one (fs_set (i := 3) keeps sc__law_run_by.nd rfl (by first | exact .inl rfl | exact .inr rfl) (fe_op op_addA os_add (FE.r (fe_var (pv 3))) (FE.r (fe_call (FnB.d B__law_sign_by) rfl rfl (hr.mono (by decide)) rfl tk (fa_cons (fe_op op_fdivW os_fdiv (FE.r (fe_var (pv 5))) (FE.r fe_int)) fa_nil) rfl (mCons_len mNil_len))))))))))
    (fss_one (fs_ret (fe_var (pv 3))))))))⟩)
abbrev N__law_typed_by : List PySem.Str := ["_law_verb", "_law_cell"]
theorem sc__law_typed_by : FnScope ["_law_verb", "_law_cell"] ["_law_verb", "_law_cell"] (defScope s__law_typed_by) := ⟨rfl, rfl, rfl, by decide +kernel, rfl, by decide +kernel, by decide +kernel⟩
theorem B__law_typed_by (T : TxX fa fn fx K mg) : FnB P w K mg base "_law_typed_by" 3 ["_law_verb", "_law_cell"] (spV K mg 2 p__law_typed_by) := by
  have B__law_letter_by := B__law_letter_by (P := P) (w := w) (base := base) T
  have B__law_run_by := B__law_run_by (P := P) (w := w) (base := base) T
  have B__law_sign_by := B__law_sign_by (P := P) (w := w) (base := base) T
  exact T.t.fnbV 16 34 rfl rfl rfl rfl sc__law_typed_by (fun _ _ _ _ _ _ us hl => match us, hl with | [_, _], _ => rfl) (fun f cdv A outer s H F0 E hr tk po => ⟨_, (fss_cons (fs_if (ft_cmp op_inA os_in (FE.r (fe_var (pv 0))) (FL.r (fl_lst (fa_cons (fe_str [88] (by decide +kernel) (by decide +kernel)) (fa_cons (fe_str [84] (by decide +kernel) (by decide +kernel)) fa_nil)))) rfl)
      (fss_one (fs_ret (fe_call (FnB.d B__law_run_by) rfl rfl (hr.mono (by decide)) rfl tk (fa_cons (fe_var (pv 1)) (fa_cons (fe_str [10] (by decide +kernel) (by decide +kernel)) fa_nil)) rfl (mCons_len (mCons_len mNil_len)))))
      fss_nil)
    (fss_cons (fs_if (ft_cmp (op_eqD (hu64 hr)) os_eq (FE.r (fe_var (pv 0))) (FE.r (fe_str [58] (by decide +kernel) (by decide +kernel))) (nomark _))
      (fss_one (fs_ret (fe_call (FnB.d B__law_run_by) rfl rfl (hr.mono (by decide)) rfl tk (fa_cons (fe_var (pv 1)) (fa_cons (fe_str [126] (by decide +kernel) (by decide +kernel)) fa_nil)) rfl (mCons_len (mCons_len mNil_len)))))
      fss_nil)
    (fss_cons (fs_if (ft_cmp (op_eqD (hu64 hr)) os_eq (FE.r (fe_var (pv 0))) (FE.r (fe_str [82] (by decide +kernel) (by decide +kernel))) (nomark _))
      (fss_one (fs_ret (fe_call (FnB.d B__law_sign_by) rfl rfl (hr.mono (by decide)) rfl tk (fa_cons (fe_var (pv 1)) fa_nil) rfl (mCons_len mNil_len))))
      fss_nil)
    (fss_cons (fs_if (ft_cmp (op_eqD (hu64 hr)) os_eq (FE.r (fe_var (pv 0))) (FE.r (fe_str [86] (by decide +kernel) (by decide +kernel))) (nomark _))
      (fss_one (fs_ret (fe_ix ix_seq os_ix (FE.r (fe_str [115, 114, 98] (by decide +kernel) (by decide +kernel))) (FE.r (fe_op op_mod os_mod (FE.r (fe_var (pv 1))) (FE.r fe_int))) (fun _ _ => rfl))))
      fss_nil)
    (fss_cons (fs_if (ft_cmp op_inA os_in (FE.r (fe_var (pv 0))) (FL.r (fl_lst (fa_cons (fe_str [77] (by decide +kernel) (by decide +kernel)) (fa_cons (fe_str [75] (by decide +kernel) (by decide +kernel)) (fa_cons (fe_str [64] (by decide +kernel) (by decide +kernel)) fa_nil))))) rfl)
      (fss_one (fs_ret (fe_call (FnB.d B__law_letter_by) rfl rfl (hr.mono (by decide)) rfl tk (fa_cons (fe_var (pv 1)) fa_nil) rfl (mCons_len mNil_len))))
      fss_nil)
    (fss_one (fs_ret (fe_str [] (by decide +kernel) (by decide +kernel)))))))))⟩)
abbrev N__law_phrase : List PySem.Str := ["_law_one", "_law_two", "_law_three", "_law_verb", "_law_shelf", "_law_count", "_law_target"]
theorem sc__law_phrase : FnScope ["_law_one", "_law_two", "_law_three", "_law_verb", "_law_shelf", "_law_count", "_law_target"] ["_law_one", "_law_two", "_law_three"] (defScope s__law_phrase) := ⟨rfl, rfl, rfl, by decide +kernel, rfl, by decide +kernel, by decide +kernel⟩
theorem B__law_phrase (T : TxX fa fn fx K mg) : FnB P w K mg base "_law_phrase" 4 ["_law_one", "_law_two", "_law_three"] (spV K mg 3 p__law_phrase) := by
  have B__law_count_by := B__law_count_by (P := P) (w := w) (base := base) T
  have B__law_letter_by := B__law_letter_by (P := P) (w := w) (base := base) T
  have B__law_move_by := B__law_move_by (P := P) (w := w) (base := base) T
  have B__law_target_by := B__law_target_by (P := P) (w := w) (base := base) T
  have B__law_typed_by := B__law_typed_by (P := P) (w := w) (base := base) T
  exact T.t.fnbV 17 35 rfl rfl rfl rfl sc__law_phrase (fun _ _ _ _ _ _ us hl => match us, hl with | [_, _, _], _ => rfl) (fun f cdv A outer s H F0 E hr tk po => ⟨_, (fss_cons (fs_set (i := 3) keeps sc__law_phrase.nd rfl (by first | exact .inl rfl | exact .inr rfl) (fe_str [] (by decide +kernel) (by decide +kernel)))
    (fss_cons (fs_if (ft_cmp op_ltA os_lt (FE.r (fe_op op_mod os_mod (FE.r (fe_var (pv 0))) (FE.r fe_int))) (FE.r fe_int) (nomark _))
      (fss_one (fs_set (i := 3) keeps sc__law_phrase.nd rfl (by first | exact .inl rfl | exact .inr rfl) (fe_ix ix_seq os_ix (FE.r (fe_str ks_7958c9 (by decide +kernel) (by decide +kernel))) (FE.r (fe_op op_mod os_mod (FE.r (fe_var (pv 0))) (FE.r fe_int))) (fun _ _ => rfl))))
      fss_nil)
    (fss_cons (fs_set (i := 4) keeps sc__law_phrase.nd rfl (by first | exact .inl rfl | exact .inr rfl) (fe_str [] (by decide +kernel) (by decide +kernel)))
    (fss_cons (fs_if (FW.t (fw_and (ft_cmp op_inA os_in (FE.r (fe_var (pv 3))) (FL.r (fl_lst (fa_cons (fe_str [67] (by decide +kernel) (by decide +kernel)) (fa_cons (fe_str [89] (by decide +kernel) (by decide +kernel)) (fa_cons (fe_str [88] (by decide +kernel) (by decide +kernel)) (fa_cons (fe_str [80] (by decide +kernel) (by decide +kernel)) fa_nil)))))) rfl) (fw_and1 (ft_cmp (op_eqD (hu64 hr)) os_eq (FE.r (fe_op op_mod os_mod (FE.r (fe_op op_fdivW os_fdiv (FE.r (fe_var (pv 0))) (FE.r fe_int))) (FE.r fe_int))) (FE.r fe_int) (nomark _)))))
      (fss_one (fs_set (i := 4) keeps sc__law_phrase.nd rfl (by first | exact .inl rfl | exact .inr rfl) (fe_call (FnB.d B__law_letter_by) rfl rfl (hr.mono (by decide)) rfl tk (fa_cons (fe_op op_fdivW os_fdiv (FE.r (fe_var (pv 0))) (FE.r fe_int)) fa_nil) rfl (mCons_len mNil_len))))
      fss_nil)
    (fss_cons (fs_set (i := 5) keeps sc__law_phrase.nd rfl (by first | exact .inl rfl | exact .inr rfl) fe_non)
    (fss_cons (fs_if (ft_cmp op_notInA os_notIn (FE.r (fe_var (pv 3))) (FL.r (fl_lst (fa_cons (fe_str [77] (by decide +kernel) (by decide +kernel)) (fa_cons (fe_str [75] (by decide +kernel) (by decide +kernel)) (fa_cons (fe_str [86] (by decide +kernel) (by decide +kernel)) (fa_cons (fe_str [58] (by decide +kernel) (by decide +kernel)) fa_nil)))))) rfl)
      (fss_one (fs_set (i := 5) keeps sc__law_phrase.nd rfl (by first | exact .inl rfl | exact .inr rfl) (fe_call (FnB.d B__law_count_by) rfl rfl (hr.mono (by decide)) rfl tk (fa_cons (fe_var (pv 1)) fa_nil) rfl (mCons_len mNil_len))))
      fss_nil)
    (fss_cons (fs_set (i := 6) keeps sc__law_phrase.nd rfl (by first | exact .inl rfl | exact .inr rfl) (fe_str [] (by decide +kernel) (by decide +kernel)))
    (fss_cons (fs_if (ft_cmp (op_eqD (hu64 hr)) os_eq (FE.r (fe_var (pv 3))) (FE.r (fe_str [] (by decide +kernel) (by decide +kernel))) (nomark _))
      (fss_one (fs_set (i := 6) keeps sc__law_phrase.nd rfl (by first | exact .inl rfl | exact .inr rfl) (fe_call (FnB.d B__law_move_by) rfl rfl (hr.mono (by decide)) rfl tk (fa_cons (fe_op op_mod os_mod (FE.r (fe_op op_mulA os_mul (FE.r (fe_var (pv 2))) (FE.r fe_int))) (FE.r fe_int)) fa_nil) rfl (mCons_len mNil_len))))
      (fss_one (fs_if (ft_cmp op_inA os_in (FE.r (fe_var (pv 3))) (FE.r (fe_str [67, 89, 88, 71, 83, 68, 70, 74] (by decide +kernel) (by decide +kernel))) rfl)
        (fss_one (fs_set (i := 6) keeps sc__law_phrase.nd rfl (by first | exact .inl rfl | exact .inr rfl) (fe_call (FnB.d B__law_target_by) rfl rfl (hr.mono (by decide)) rfl tk (fa_cons (fe_op op_mod os_mod (FE.r (fe_op op_mulA os_mul (FE.r (fe_var (pv 2))) (FE.r fe_int))) (FE.r fe_int)) fa_nil) rfl (mCons_len mNil_len))))
        fss_nil)))
    (fss_one (fs_ret (fe_tup (fa_cons (fe_var (pv 4)) (fa_cons (fe_var (pv 5)) (fa_cons (fe_var (pv 3)) (fa_cons (fe_var (pv 6)) (fa_cons (fe_call (FnB.d B__law_typed_by) rfl rfl (hr.mono (by decide)) rfl tk (fa_cons (fe_var (pv 3)) (fa_cons (fe_var (pv 2)) fa_nil)) rfl (mCons_len (mCons_len mNil_len))) fa_nil))))))))))))))))⟩)
abbrev N__law_keys : List PySem.Str := ["_law_phrase_here", "_law_keys_here"]
theorem sc__law_keys : FnScope ["_law_phrase_here", "_law_keys_here"] ["_law_phrase_here"] (defScope s__law_keys) := ⟨rfl, rfl, rfl, by decide +kernel, rfl, by decide +kernel, by decide +kernel⟩
theorem B__law_keys (T : TxX fa fn fx K mg) : FnB P w K mg base "_law_keys" 1 ["_law_phrase_here"] (spV K mg 1 p__law_keys) := by
  exact T.t.fnbV 18 36 rfl rfl rfl rfl sc__law_keys (fun _ _ _ _ _ _ us hl => match us, hl with | [_], _ => rfl) (fun f cdv A outer s H F0 E hr tk po => ⟨_, (fss_cons (fs_set (i := 1) keeps sc__law_keys.nd rfl (by first | exact .inl rfl | exact .inr rfl) (fe_str [] (by decide +kernel) (by decide +kernel)))
    (fss_cons (fs_if (ft_cmp (op_neD (hu64 hr)) os_ne (FE.r (fe_ix ix_seq os_ix (FE.r (fe_var (pv 0))) (FE.r fe_int) (fun _ _ => rfl))) (FE.r (fe_str [] (by decide +kernel) (by decide +kernel))) (nomark _))
      (fss_one (fs_set (i := 1) keeps sc__law_keys.nd rfl (by first | exact .inl rfl | exact .inr rfl) (fe_op op_addA os_add (FE.r (fe_str [34] (by decide +kernel) (by decide +kernel))) (FE.r (fe_ix ix_seq os_ix (FE.r (fe_var (pv 0))) (FE.r fe_int) (fun _ _ => rfl))))))
      fss_nil)
    (fss_cons (fs_if (ft_cmp op_notN os_notN (FE.r (fe_ix ix_seq os_ix (FE.r (fe_var (pv 0))) (FE.r fe_int) (fun _ _ => rfl))) (FE.r fe_non) (nomark _))
      (fss_one (fs_set (i := 1) keeps sc__law_keys.nd rfl (by first | exact .inl rfl | exact .inr rfl) (fe_op op_addA os_add (FE.r (fe_var (pv 1))) (FE.r (fe_callTy call_str_int cs_strI rfl (T.free 13 rfl) (by decide +kernel) (fb_cons (FE.r (fe_ix ix_seq os_ix (FE.r (fe_var (pv 0))) (FE.r fe_int) (fun _ _ => rfl))) fb_nil))))))
      fss_nil)
    (fss_cons (fs_set (i := 1) keeps sc__law_keys.nd rfl (by first | exact .inl rfl | exact .inr rfl) (fe_op op_addA os_add (FE.r (fe_op op_addA os_add (FE.r (fe_op op_addA os_add (FE.r (fe_var (pv 1))) (FE.r (fe_ix ix_seq os_ix (FE.r (fe_var (pv 0))) (FE.r fe_int) (fun _ _ => rfl))))) (FE.r (fe_ix ix_seq os_ix (FE.r (fe_var (pv 0))) (FE.r fe_int) (fun _ _ => rfl))))) (FE.r (fe_ix ix_seq os_ix (FE.r (fe_var (pv 0))) (FE.r fe_int) (fun _ _ => rfl)))))
    (fss_cons (fs_if (ft_cmp op_inA os_in (FE.r (fe_ix ix_seq os_ix (FE.r (fe_var (pv 0))) (FE.r fe_int) (fun _ _ => rfl))) (FL.r (fl_lst (fa_cons (fe_str [88] (by decide +kernel) (by decide +kernel)) (fa_cons (fe_str [84] (by decide +kernel) (by decide +kernel)) fa_nil)))) rfl)
      (fss_one (fs_set (i := 1) keeps sc__law_keys.nd rfl (by first | exact .inl rfl | exact .inr rfl) (fe_op op_addA os_add (FE.r (fe_var (pv 1))) (FE.r (fe_str [126] (by decide +kernel) (by decide +kernel))))))
      fss_nil)
    (fss_cons (fs_if (ft_cmp (op_eqD (hu64 hr)) os_eq (FE.r (fe_ix ix_seq os_ix (FE.r (fe_var (pv 0))) (FE.r fe_int) (fun _ _ => rfl))) (FE.r (fe_str [58] (by decide +kernel) (by decide +kernel))) (nomark _))
      (fss_one (fs_set (i := 1) keeps sc__law_keys.nd rfl (by first | exact .inl rfl | exact .inr rfl) (fe_op op_addA os_add (FE.r (fe_var (pv 1))) (FE.r (fe_str [10] (by decide +kernel) (by decide +kernel))))))
      fss_nil)
    (fss_one (fs_ret (fe_var (pv 1))))))))))⟩)
abbrev N_law : List PySem.Str := ["_law_script", "_law_k", "_law_cells", "_law_keys_here", "_law_j", "_law_found"]
theorem sc_law : FnScope ["_law_script", "_law_k", "_law_cells", "_law_keys_here", "_law_j", "_law_found"] ["_law_script"] (defScope s_law) := ⟨rfl, rfl, rfl, by decide +kernel, rfl, by decide +kernel, by decide +kernel⟩
theorem B_law (T : TxX fa fn fx K mg) : FnB P w K mg base "law" 6 ["_law_script"] (spV K mg 1 p_law) := by
  have B__law_cell_at := B__law_cell_at (P := P) (w := w) (base := base) T
  have B__law_keys := B__law_keys (P := P) (w := w) (base := base) T
  have B__law_phrase := B__law_phrase (P := P) (w := w) (base := base) T
  have B_first := B_first (P := P) (w := w) (base := base) T
  exact T.t.fnbV 19 17 rfl rfl rfl rfl sc_law (fun _ _ _ _ _ _ us hl => match us, hl with | [_], _ => rfl) (fun f cdv A outer s H F0 E hr tk po => ⟨_, (fss_cons (fs_for po rfl (fi_range3X rfl (T.free 8 rfl) (fa_cons fe_int (fa_cons (fe_op op_addA os_add (FE.r (fe_callB (call_min2' rfl) cs_min2 rfl (T.free 14 rfl) (by decide +kernel) (fb_cons (FE.r (fe_callB call_lenV cs_len rfl (T.free 1 rfl) (by decide +kernel) (fb_cons (FE.r (fe_var (pv 0))) fb_nil))) (fb_cons (FE.r fe_int) fb_nil)))) (FE.r fe_int)) (fa_cons fe_int fa_nil)))) (fg_name (i := 1) keeps sc_law.nd rfl (by first | exact .inl rfl | exact .inr rfl))
      (fss_cons (fs_setLc (i := 2) [("_law_j", 4)] keeps rfl sc_law.nd rfl rfl (sw_true rfl rfl rfl (by decide +kernel)) (fi_range1 rfl (T.free 8 rfl) (fa_cons fe_int fa_nil)) (blkOk_by (N := N_law) (sc := defScope s_law) (by decide +kernel)) (fun _ _ _ _ _ _ => ⟨_, (fg_name (i := 4) (keepsW (by decide)) sc_law.nd rfl (by first | exact .inl rfl | exact .inr rfl))⟩) (fun _ _ _ _ _ _ => ⟨_, fts_nil⟩) (fun _ _ _ _ _ _ => ⟨_, (fe_call (FnB.d B__law_cell_at) rfl rfl (hr.mono (by decide)) rfl takesB (fa_cons (fe_var (pv 0)) (fa_cons (fe_op op_addA os_add (FE.r (fe_var (pv 1))) (FE.r (fe_var (pv 4)))) fa_nil)) rfl (mCons_len (mCons_len mNil_len)))⟩))
      (fss_cons (fs_set (i := 3) keeps sc_law.nd rfl (by first | exact .inl rfl | exact .inr rfl) (fe_call (FnB.d B__law_keys) rfl rfl (hr.mono (by decide)) rfl tk (fa_cons (fe_call (FnB.d B__law_phrase) rfl rfl (hr.mono (by decide)) rfl tk (fa_cons (fe_ix ix_seq os_ix (FE.r (fe_var (pv 2))) (FE.r fe_int) (fun _ _ => rfl)) (fa_cons (fe_ix ix_seq os_ix (FE.r (fe_var (pv 2))) (FE.r fe_int) (fun _ _ => rfl)) (fa_cons (fe_ix ix_seq os_ix (FE.r (fe_var (pv 2))) (FE.r fe_int) (fun _ _ => rfl)) fa_nil))) rfl (mCons_len (mCons_len (mCons_len mNil_len)))) fa_nil) rfl (mCons_len mNil_len)))
      (fss_one (fs_for po rfl (fi_range1 rfl (T.free 8 rfl) (fa_cons (fe_callB call_lenV cs_len rfl (T.free 1 rfl) (by decide +kernel) (fb_cons (FE.r (fe_var (pv 3))) fb_nil)) fa_nil)) (fg_name (i := 4) keeps sc_law.nd rfl (by first | exact .inl rfl | exact .inr rfl))
        (fss_cons (fs_set (i := 5) keeps sc_law.nd rfl (by first | exact .inl rfl | exact .inr rfl) (fe_call (FnB.d B_first) rfl rfl (hr.mono (by decide)) rfl tk (fa_cons (fe_slice rfl (FE.r (fe_var (pv 3))) fo_none (fo_some (fe_var (pv 4)))) fa_nil) rfl (mCons_len mNil_len)))
        (fss_one (fs_if (FW.t (fw_or (ft_not (ft_val (fe_callB call_isi cs_isi rfl (T.free 16 rfl) (by decide +kernel) (fb_cons (FE.r (fe_var (pv 5))) (fb_cons (FE.r (fe_ty "tuple" rfl (T.free 15 rfl) (by decide +kernel))) fb_nil))))) (fw_or1 (ft_cmp (op_neD (hu64 hr)) os_ne (FE.r (fe_var (pv 5))) (FE.r (fe_tup (fa_cons (fe_str [104, 97, 108, 102] (by decide +kernel) (by decide +kernel)) fa_nil))) (nomark _)))))
          (fss_one (fs_ret fe_bl))
          fss_nil))))))))
    (fss_one (fs_ret fe_bl)))⟩)
end

end LW

set_option Elab.async false
set_option linter.all false
set_option maxRecDepth 100000
set_option maxHeartbeats 4000000
namespace LW
open FL
theorem e_cell (ns : List Int) (k : Int) (h : 0 ≤ k) : p__law_cell_at [.scr ns, .int k] = .ok (.int (ns.getD k.toNat 0)) := by
  rw [u__law_cell_at]
  unfold b__law_cell_at
  by_cases hk : k < (ns.length : Int)
  · simp -implicitDefEqProofs (disch := first | omega | (simp only [List.length_map, List.length_append, List.length_cons, List.length_nil, List.length_take, List.length_drop, repS_len, rngL_len, List.length_range, List.length_reverse]; done) | (simp only [List.length_map, List.length_append, List.length_cons, List.length_nil, List.length_take, List.length_drop, repS_len, rngL_len, List.length_range, List.length_reverse]; omega)) only [mVar_ev, mVarR_ev, getV_val, getR_val, getR_own, mC_ev, mOp_ev, mOpL_ev, mT_ev, asB_bl, mAnd_ev, mOr_ev, mNot_ev, mAndV_ev, mOrV_ev, mNotV_ev, mIf_ev, mNil_ev, mCons_ev, mTup_ev, mLst_ev, mCall_ev, mPn_ev, mPs_ev, asI_int, mSl_ev, mSlL_ev, asL_lst, asL_scr, asTp_tup, asSt_str, R_ite, mWalk_ev, mLe_ev, mNeg_ev, mSeq_ev, mSkip_ev, bind_nx, bind_rt, bind_rtL, bind_bk, bind_ct, bind_ex, bind_ite, lift_ok, lift_exc, lift_ite, mAsg_ev, mAsgL_ev, mDrop_ev, mRet_ev, mRetL_ev, mRetN_ev, mRetOwn_ev, getO_own, mIfS_ev, mSet1_ev, onO_own, onO_val, mAppend_ev, putO_own, mAsgG_ev, optSO_some, gSet_ev, gsNil_ev, gsCons_ev, obind_some, gTupM_1, gTupM_2, gTupM_3, gTupM_4, gTupM_5, gTupM_6, mFor_ev, retD_nx, retD_rt, retD_rtL, retD_ex, retD_ite, retLs_rtL, retLs_ex, retLs_ite, nth_zero, nth_succ, set_zero, set_succ, add_int, add_str, add_lst, lcat_lst, sub_int', neg_int', lt_int', le_int', gt_int', ge_int', mod_int', fdiv_int, mul_int', mul_str', isN_non, isN_int, notN_non, notN_int, eq_int', ne_int', eq_str', ne_str', eq_bl', ne_bl', len_str', len_lst, len_tup, len_scr, max_int, min_int, sl_str', sl_lst, sl_scr, lsl_lst, lsl_scr, ix_str', ix_lst, ix_tup', ix_scr, range1_ok, range2_ok, range3_ok, mMeth_ev, onStr_str, mComp_ev, mCh_ev, wipeE_nil, wipeE_cons, mYes_ev, int_int, int_bl, asW_lst, asW_tup, asW_scr, asW_str, lt_str', le_str', gt_str', ge_str', mRaise_ev, sum_ints, all_bls, any_bls, list_lst, list_tup, list_scr, sorted_ints', g_find_ev, g_find3_ev, g_find4_ev, g_rfind_ev, g_rfind4_ev, g_count_ev, g_count3_ev, g_count4_ev, g_startswith_ev, g_endswith_ev, Int.reduceToNat, List.getD_cons_zero, List.getD_cons_succ, List.length_map, List.length_reverse, Int.zero_mul, Int.mul_zero, Int.add_zero, Int.mul_one, nc0, nc1, nc2, nc3, nc4, nc5, nc6, nc7, nc8, nc9, nc10, nc11, nc12, nc13, List.cons_append, List.nil_append, decide_true, decide_false, not_false_eq_true, not_true_eq_false, mCallR_ev, retLE_rtL, retDE_rt, flatR_bl, flatR_int, flatR_str, flatR_non, flatR_exc, getOwn_own, mMut0_ev, mSetIx_ev, putIx_ok, rev_lst, lrep_ev, if_small, if_small', rngL_len, endS_nx, endS_rt, in_sign, notIn_sign, isN_str, notN_str, isN_tup, notN_tup, isi_int_int, isi_int_bool, isi_bl_bool, isi_bl_int, isi_str_str, isi_tup_tup, isi_lst_lst, isi_non_int, isi_non_tup, _root_.FL.R.ok_bind, _root_.FL.R.exc_bind, _root_.FL.R.stuck_bind, _root_.FL.R.pure_eq, List.append_nil, List.length_cons, List.length_nil, Nat.zero_add, Nat.reduceAdd, Nat.reduceLeDiff, Nat.reduceLT, decide_eq_true_eq, if_true, if_false, ite_true, ite_false, Bool.true_eq_false, Bool.false_eq_true, Bool.not_true, Bool.not_false, reduceIte, Bool.not_eq_true', decide_eq_false_iff_not, hk]
  · simp -implicitDefEqProofs (disch := first | omega | (simp only [List.length_map, List.length_append, List.length_cons, List.length_nil, List.length_take, List.length_drop, repS_len, rngL_len, List.length_range, List.length_reverse]; done) | (simp only [List.length_map, List.length_append, List.length_cons, List.length_nil, List.length_take, List.length_drop, repS_len, rngL_len, List.length_range, List.length_reverse]; omega)) only [mVar_ev, mVarR_ev, getV_val, getR_val, getR_own, mC_ev, mOp_ev, mOpL_ev, mT_ev, asB_bl, mAnd_ev, mOr_ev, mNot_ev, mAndV_ev, mOrV_ev, mNotV_ev, mIf_ev, mNil_ev, mCons_ev, mTup_ev, mLst_ev, mCall_ev, mPn_ev, mPs_ev, asI_int, mSl_ev, mSlL_ev, asL_lst, asL_scr, asTp_tup, asSt_str, R_ite, mWalk_ev, mLe_ev, mNeg_ev, mSeq_ev, mSkip_ev, bind_nx, bind_rt, bind_rtL, bind_bk, bind_ct, bind_ex, bind_ite, lift_ok, lift_exc, lift_ite, mAsg_ev, mAsgL_ev, mDrop_ev, mRet_ev, mRetL_ev, mRetN_ev, mRetOwn_ev, getO_own, mIfS_ev, mSet1_ev, onO_own, onO_val, mAppend_ev, putO_own, mAsgG_ev, optSO_some, gSet_ev, gsNil_ev, gsCons_ev, obind_some, gTupM_1, gTupM_2, gTupM_3, gTupM_4, gTupM_5, gTupM_6, mFor_ev, retD_nx, retD_rt, retD_rtL, retD_ex, retD_ite, retLs_rtL, retLs_ex, retLs_ite, nth_zero, nth_succ, set_zero, set_succ, add_int, add_str, add_lst, lcat_lst, sub_int', neg_int', lt_int', le_int', gt_int', ge_int', mod_int', fdiv_int, mul_int', mul_str', isN_non, isN_int, notN_non, notN_int, eq_int', ne_int', eq_str', ne_str', eq_bl', ne_bl', len_str', len_lst, len_tup, len_scr, max_int, min_int, sl_str', sl_lst, sl_scr, lsl_lst, lsl_scr, ix_str', ix_lst, ix_tup', ix_scr, range1_ok, range2_ok, range3_ok, mMeth_ev, onStr_str, mComp_ev, mCh_ev, wipeE_nil, wipeE_cons, mYes_ev, int_int, int_bl, asW_lst, asW_tup, asW_scr, asW_str, lt_str', le_str', gt_str', ge_str', mRaise_ev, sum_ints, all_bls, any_bls, list_lst, list_tup, list_scr, sorted_ints', g_find_ev, g_find3_ev, g_find4_ev, g_rfind_ev, g_rfind4_ev, g_count_ev, g_count3_ev, g_count4_ev, g_startswith_ev, g_endswith_ev, Int.reduceToNat, List.getD_cons_zero, List.getD_cons_succ, List.length_map, List.length_reverse, Int.zero_mul, Int.mul_zero, Int.add_zero, Int.mul_one, nc0, nc1, nc2, nc3, nc4, nc5, nc6, nc7, nc8, nc9, nc10, nc11, nc12, nc13, List.cons_append, List.nil_append, decide_true, decide_false, not_false_eq_true, not_true_eq_false, mCallR_ev, retLE_rtL, retDE_rt, flatR_bl, flatR_int, flatR_str, flatR_non, flatR_exc, getOwn_own, mMut0_ev, mSetIx_ev, putIx_ok, rev_lst, lrep_ev, if_small, if_small', rngL_len, endS_nx, endS_rt, in_sign, notIn_sign, isN_str, notN_str, isN_tup, notN_tup, isi_int_int, isi_int_bool, isi_bl_bool, isi_bl_int, isi_str_str, isi_tup_tup, isi_lst_lst, isi_non_int, isi_non_tup, _root_.FL.R.ok_bind, _root_.FL.R.exc_bind, _root_.FL.R.stuck_bind, _root_.FL.R.pure_eq, List.append_nil, List.length_cons, List.length_nil, Nat.zero_add, Nat.reduceAdd, Nat.reduceLeDiff, Nat.reduceLT, decide_eq_true_eq, if_true, if_false, ite_true, ite_false, Bool.true_eq_false, Bool.false_eq_true, Bool.not_true, Bool.not_false, reduceIte, Bool.not_eq_true', decide_eq_false_iff_not, hk]
    rw [List.getD_eq_getElem?_getD, List.getElem?_eq_none (by omega)]
    rfl

/-! ### how rows of keys are read: the plain functions -/
inductive TT (α : Type) where
  | half | non (n : Nat) | told (a : α) (n : Nat)
def TT.sh {α : Type} (k : Nat) : TT α → TT α
  | .half => .half
  | .non n => .non (k + n)
  | .told a n => .told a (k + n)
def letS : List Nat := ks_c3fcd3
def verbS : List Nat := ks_7958c9
def moveS : List Nat := [104, 108, 106, 107, 98, 101, 119, 118, 111, 103, 122, 112]
def thingS : List Nat := [99, 97, 105, 114, 40, 91, 123, 41, 93, 125, 39, 34, 115]
def figS : List Nat := [48, 49, 50, 51, 52, 53, 54, 55, 56, 57]
def isSg (c : Nat) : Bool := decide (32 ≤ c ∧ c ≤ 125 ∧ c ≠ 37)
def shelfM : List Nat → TT (List Nat)
  | [] => .told [] 0
  | c :: r => if c = 34 then (match r with | [] => .half | l :: _ => if l ∈ letS then .told [l] 2 else .non 2) else .told [] 0
def figs (s : List Nat) : List Nat := s.takeWhile fun c => decide (c ∈ figS)
def countM (s : List Nat) : TT (List Nat) :=
  if figs s = [] then .told [] 0 else if s.getD 0 0 = 48 then .non 1 else if 4 ≤ (figs s).length then .non 4 else .told (figs s) (figs s).length
def targetM (th : Bool) : List Nat → TT (List Nat)
  | [] => .half
  | k :: r => if k ∈ moveS ∨ (th = true ∧ k ∈ thingS) then .told [k] 1 else if k ∉ [102, 116, 109] then .non 1 else
    match r with
    | [] => .half
    | s :: _ => if (k = 109 ∧ s ∈ letS) ∨ (k ≠ 109 ∧ isSg s = true) then .told [k, s] 2 else .non 2
def endedM (m b : Nat) : List Nat → TT (List Nat)
  | [] => .half
  | c :: r => if c = m then .told [] 1 else if c ≠ b ∧ isSg c = false then .non 1 else
    match endedM m b r with
    | .half => .half
    | .non n => .non (n + 1)
    | .told a n => .told (c :: a) (n + 1)
def fitsM (v : List Nat) (k : Nat) : Bool := if v = [82] then isSg k else if v = [86] then decide (k ∈ [115, 114, 98]) else decide (k ∈ letS)
def typedM (v : List Nat) (s : List Nat) : TT (List Nat) :=
  if v = [88] ∨ v = [84] then endedM 126 10 s else if v = [58] then endedM 10 126 s else if v ∉ [[82], [86], [77], [75], [64]] then .told [] 0 else
    match s with
    | [] => .half
    | k :: _ => if fitsM v k = true then .told [k] 1 else .non 1
structure Phr where
  (sh : List Nat) (ct : List Nat) (v : List Nat) (tg : List Nat) (ty : List Nat)
def verbM (k : Nat) : List Nat := if k ∈ verbS then [k] else []
def tgtM (v : List Nat) (s : List Nat) : TT (List Nat) :=
  if v = [] then targetM false s else if v.getD 0 0 ∈ [67, 89, 88, 71, 83, 68, 70, 74] then (targetM true s.tail).sh 1 else .told [] 1
def behindM (sh ct : List Nat) (s : List Nat) : TT Phr :=
  if sh ≠ [] ∧ (verbM (s.getD 0 0) = [] ∨ s.getD 0 0 ∉ [67, 89, 88, 80]) then .non 1
  else if ct ≠ [] ∧ verbM (s.getD 0 0) ≠ [] ∧ s.getD 0 0 ∈ [77, 75, 86, 58] then .non 1
  else match tgtM (verbM (s.getD 0 0)) s with
    | .half => .half
    | .non n => .non n
    | .told tg n => match typedM (verbM (s.getD 0 0)) (s.drop n) with
      | .half => .half
      | .non m => .non (n + m)
      | .told ty m => .told ⟨sh, ct, verbM (s.getD 0 0), tg, ty⟩ (n + m)
def afterM (sh : List Nat) (s : List Nat) : TT Phr := match countM s with
  | .half => .half
  | .non n => .non n
  | .told ct n => if s.drop n = [] then .half else (behindM sh ct (s.drop n)).sh n
def firstM (s : List Nat) : TT Phr := match shelfM s with
  | .half => .half
  | .non n => .non n
  | .told sh n => (afterM sh (s.drop n)).sh n
/-! as data -/
def ctD (ct : List Nat) : D := if ct = [] then .non else match gInt [.str ct] with
  | .ok d => d
  | _ => .non
def phD (p : Phr) : D := .tup [.str p.sh, ctD p.ct, .str p.v, .str p.tg, .str p.ty]
def tD {α : Type} (f : α → D) (at_ : Nat) : TT α → D
  | .half => .tup [.str [104, 97, 108, 102]]
  | .non n => .tup [.str [110, 111, 110, 101], .int ((at_ + n : Nat) : Int)]
  | .told a n => .tup [.str [116, 111, 108, 100], f a, .int ((at_ + n : Nat) : Int)]
def fD : TT Phr → D
  | .half => .tup [.str [104, 97, 108, 102]]
  | .non n => .tup [.str [110, 111, 110, 101], .int ((n : Nat) : Int)]
  | .told a n => .tup [.str [112, 104, 114, 97, 115, 101], phD a, .int ((n : Nat) : Int)]
theorem ctD_dg {c : Nat} (h : c < 1000) (h' : 1 ≤ c) : ctD (dg c) = .int c := by
  have : dg c ≠ [] := fun z => by have := (dg_len c).1; rw [z] at this; simp at this
  unfold ctD
  rw [if_neg this, int_dg h]
theorem fig_iff (c : Nat) : c ∈ figS ↔ 48 ≤ c ∧ c ≤ 57 := by
  unfold figS
  simp only [List.mem_cons, List.not_mem_nil, or_false]
  omega
theorem figs_mem {s : List Nat} {d : Nat} (h : d ∈ figs s) : 48 ≤ d ∧ d ≤ 57 := (fig_iff d).mp (of_decide_eq_true (List.all_eq_true.mp (List.all_takeWhile (l := s) (p := fun c => decide (c ∈ figS))) d h))
theorem figs_pre (s : List Nat) : figs s = s.take (figs s).length := by
  have : figs s <+: s := List.takeWhile_prefix _
  exact (List.prefix_iff_eq_take.mp this)
/-- the figures are those of a number, where the count is told -/
theorem count_dg {s ct : List Nat} {n : Nat} (h : countM s = .told ct n) : (ct = [] ∧ n = 0) ∨ ∃ c, 1 ≤ c ∧ c < 1000 ∧ ct = dg c ∧ n = ct.length ∧ s.take n = ct := by
  unfold countM at h
  by_cases q1 : figs s = []
  · rw [if_pos q1] at h; cases h; exact .inl ⟨rfl, rfl⟩
  · rw [if_neg q1] at h
    by_cases q2 : s.getD 0 0 = 48
    · rw [if_pos q2] at h; cases h
    · rw [if_neg q2] at h
      by_cases q3 : 4 ≤ (figs s).length
      · rw [if_pos q3] at h; cases h
      · rw [if_neg q3] at h
        cases h
        have hh : (figs s).getD 0 0 = s.getD 0 0 := by
          have hl : 0 < (figs s).length := List.length_pos_iff.mpr q1
          rw [List.getD_eq_getElem?_getD, List.getD_eq_getElem?_getD]
          conv => lhs; rw [figs_pre s]
          rw [List.getElem?_take_of_lt hl]
        obtain ⟨c, h1, h2, h3⟩ := dg_of (ds := figs s) (fun d hd => figs_mem hd) q1 (by omega) (by rw [hh]; exact q2)
        exact .inr ⟨c, h1, h2, h3, rfl, (figs_pre s).symm⟩
theorem fig_lt {s : List Nat} {j : Nat} (h : j < (figs s).length) : j < s.length ∧ s.getD j 0 ∈ figS := by
  have e := figs_pre s
  have hl : (figs s).length ≤ s.length := by
    have := congrArg List.length e
    rw [List.length_take] at this
    omega
  have g : s.getD j 0 = (figs s).getD j 0 := by
    rw [List.getD_eq_getElem?_getD, List.getD_eq_getElem?_getD]
    conv => rhs; rw [e]
    rw [List.getElem?_take_of_lt h]
  refine ⟨by omega, ?_⟩
  rw [g, fig_iff, List.getD_eq_getElem?_getD, List.getElem?_eq_getElem h]
  exact figs_mem (List.getElem_mem h)
theorem fig_end : ∀ {s : List Nat}, (figs s).length < s.length → s.getD (figs s).length 0 ∉ figS
  | [], h => by simp at h
  | c :: r, h => by
    by_cases q : c ∈ figS
    · have e : figs (c :: r) = c :: figs r := List.takeWhile_cons_of_pos (decide_eq_true q)
      rw [e] at h ⊢
      exact fig_end (s := r) (by simpa using h)
    · have e : figs (c :: r) = [] := List.takeWhile_cons_of_neg (by rw [decide_eq_false q]; decide)
      rw [e]
      exact q
theorem tD_sh {α : Type} (f : α → D) (at_ k : Nat) (T : TT α) : tD f (at_ + k) T = tD f at_ (T.sh k) := by
  cases T with
  | half => rfl
  | non n => show D.tup [_, .int ((at_ + k + n : Nat) : Int)] = D.tup [_, .int ((at_ + (k + n) : Nat) : Int)]; rw [Nat.add_assoc]
  | told a n => show D.tup [_, _, .int ((at_ + k + n : Nat) : Int)] = D.tup [_, _, .int ((at_ + (k + n) : Nat) : Int)]; rw [Nat.add_assoc]
def fDs (at_ : Nat) : TT Phr → D
  | .half => .tup [.str [104, 97, 108, 102]]
  | .non n => .tup [.str [110, 111, 110, 101], .int ((at_ + n : Nat) : Int)]
  | .told a n => .tup [.str [112, 104, 114, 97, 115, 101], phD a, .int ((at_ + n : Nat) : Int)]
theorem fDs_sh (at_ k : Nat) (T : TT Phr) : fDs (at_ + k) T = fDs at_ (T.sh k) := by
  cases T with
  | half => rfl
  | non n => show D.tup [_, .int ((at_ + k + n : Nat) : Int)] = D.tup [_, .int ((at_ + (k + n) : Nat) : Int)]; rw [Nat.add_assoc]
  | told a n => show D.tup [_, _, .int ((at_ + k + n : Nat) : Int)] = D.tup [_, _, .int ((at_ + (k + n) : Nat) : Int)]; rw [Nat.add_assoc]
theorem targetM_cons (th : Bool) (k : Nat) (r : List Nat) : targetM th (k :: r) = if k ∈ moveS ∨ (th = true ∧ k ∈ thingS) then .told [k] 1 else if k ∉ [102, 116, 109] then .non 1 else
    match r with
    | [] => .half
    | s :: _ => if (k = 109 ∧ s ∈ letS) ∨ (k ≠ 109 ∧ isSg s = true) then .told [k, s] 2 else .non 2 := rfl
theorem targetM_le {th : Bool} {s a : List Nat} {n : Nat} (h : targetM th s = .told a n) : n ≤ s.length := by
  cases s with
  | nil => cases h
  | cons k r =>
    rw [targetM_cons] at h
    split at h
    · cases h; simp
    · split at h
      · cases h
      · split at h
        · cases h
        · split at h
          · cases h; simp
          · cases h
theorem endedM_le {m b : Nat} : ∀ {s a : List Nat} {n : Nat}, endedM m b s = .told a n → n ≤ s.length
  | c :: r, a, n, h => by
    have h' : (if c = m then TT.told [] 1 else if c ≠ b ∧ isSg c = false then .non 1 else
      match endedM m b r with
      | .half => .half
      | .non n => .non (n + 1)
      | .told a n => .told (c :: a) (n + 1)) = .told a n := h
    split at h'
    · cases h'; simp
    · split at h'
      · cases h'
      · split at h'
        · cases h'
        · cases h'
        · rename_i a' n' e
          cases h'
          have := endedM_le e
          rw [List.length_cons]; omega
theorem typedM_le {v s a : List Nat} {n : Nat} (h : typedM v s = .told a n) : n ≤ s.length := by
  unfold typedM at h
  split at h
  · exact endedM_le h
  · split at h
    · exact endedM_le h
    · split at h
      · cases h; exact Nat.zero_le _
      · split at h
        · cases h
        · split at h
          · cases h; simp
          · cases h
/-- what comes of the target and of what is typed -/
def restM (sh ct v : List Nat) (s : List Nat) (T : TT (List Nat)) : TT Phr := match T with
  | .half => .half
  | .non n => .non n
  | .told tg n => match typedM v (s.drop n) with
    | .half => .half
    | .non m => .non (n + m)
    | .told ty m => .told ⟨sh, ct, v, tg, ty⟩ (n + m)
theorem behindM_eq (sh ct s : List Nat) : behindM sh ct s = if sh ≠ [] ∧ (verbM (s.getD 0 0) = [] ∨ s.getD 0 0 ∉ [67, 89, 88, 80]) then .non 1
  else if ct ≠ [] ∧ verbM (s.getD 0 0) ≠ [] ∧ s.getD 0 0 ∈ [77, 75, 86, 58] then .non 1
  else restM sh ct (verbM (s.getD 0 0)) s (tgtM (verbM (s.getD 0 0)) s) := rfl

/-! ### the walk -/
theorem e_sg (c : Nat) : p_is_sign [.str [c]] = .ok (.bl (isSg c)) := by
  rw [u_is_sign]; unfold b_is_sign
  unfold isSg
  by_cases q1 : (32 : Int) ≤ c
  · by_cases q2 : (c : Int) ≤ 125
    · by_cases q3 : (c : Int) = 37
      · have e : decide (32 ≤ c ∧ c ≤ 125 ∧ c ≠ 37) = false := decide_eq_false (by omega)
        rw [e]
        simp -implicitDefEqProofs (disch := first | omega | (simp only [List.length_map, List.length_append, List.length_cons, List.length_nil, List.length_take, List.length_drop, repS_len, rngL_len, List.length_range, List.length_reverse]; done) | (simp only [List.length_map, List.length_append, List.length_cons, List.length_nil, List.length_take, List.length_drop, repS_len, rngL_len, List.length_range, List.length_reverse]; omega)) only [mVar_ev, mVarR_ev, getV_val, getR_val, getR_own, mC_ev, mOp_ev, mOpL_ev, mT_ev, asB_bl, mAnd_ev, mOr_ev, mNot_ev, mAndV_ev, mOrV_ev, mNotV_ev, mIf_ev, mNil_ev, mCons_ev, mTup_ev, mLst_ev, mCall_ev, mPn_ev, mPs_ev, asI_int, mSl_ev, mSlL_ev, asL_lst, asL_scr, asTp_tup, asSt_str, R_ite, mWalk_ev, mLe_ev, mNeg_ev, mSeq_ev, mSkip_ev, bind_nx, bind_rt, bind_rtL, bind_bk, bind_ct, bind_ex, bind_ite, lift_ok, lift_exc, lift_ite, mAsg_ev, mAsgL_ev, mDrop_ev, mRet_ev, mRetL_ev, mRetN_ev, mRetOwn_ev, getO_own, mIfS_ev, mSet1_ev, onO_own, onO_val, mAppend_ev, putO_own, mAsgG_ev, optSO_some, gSet_ev, gsNil_ev, gsCons_ev, obind_some, gTupM_1, gTupM_2, gTupM_3, gTupM_4, gTupM_5, gTupM_6, mFor_ev, retD_nx, retD_rt, retD_rtL, retD_ex, retD_ite, retLs_rtL, retLs_ex, retLs_ite, nth_zero, nth_succ, set_zero, set_succ, add_int, add_str, add_lst, lcat_lst, sub_int', neg_int', lt_int', le_int', gt_int', ge_int', mod_int', fdiv_int, mul_int', mul_str', isN_non, isN_int, notN_non, notN_int, eq_int', ne_int', eq_str', ne_str', eq_bl', ne_bl', len_str', len_lst, len_tup, len_scr, max_int, min_int, sl_str', sl_lst, sl_scr, lsl_lst, lsl_scr, ix_str', ix_lst, ix_tup', ix_scr, range1_ok, range2_ok, range3_ok, mMeth_ev, onStr_str, mComp_ev, mCh_ev, wipeE_nil, wipeE_cons, mYes_ev, int_int, int_bl, asW_lst, asW_tup, asW_scr, asW_str, lt_str', le_str', gt_str', ge_str', mRaise_ev, sum_ints, all_bls, any_bls, list_lst, list_tup, list_scr, sorted_ints', g_find_ev, g_find3_ev, g_find4_ev, g_rfind_ev, g_rfind4_ev, g_count_ev, g_count3_ev, g_count4_ev, g_startswith_ev, g_endswith_ev, Int.reduceToNat, List.getD_cons_zero, List.getD_cons_succ, List.length_map, List.length_reverse, Int.zero_mul, Int.mul_zero, Int.add_zero, Int.mul_one, nc0, nc1, nc2, nc3, nc4, nc5, nc6, nc7, nc8, nc9, nc10, nc11, nc12, nc13, List.cons_append, List.nil_append, decide_true, decide_false, not_false_eq_true, not_true_eq_false, mCallR_ev, retLE_rtL, retDE_rt, flatR_bl, flatR_int, flatR_str, flatR_non, flatR_exc, getOwn_own, mMut0_ev, mSetIx_ev, putIx_ok, rev_lst, lrep_ev, if_small, if_small', rngL_len, endS_nx, endS_rt, in_sign, notIn_sign, isN_str, notN_str, isN_tup, notN_tup, isi_int_int, isi_int_bool, isi_bl_bool, isi_bl_int, isi_str_str, isi_tup_tup, isi_lst_lst, isi_non_int, isi_non_tup, _root_.FL.R.ok_bind, _root_.FL.R.exc_bind, _root_.FL.R.stuck_bind, _root_.FL.R.pure_eq, List.append_nil, List.length_cons, List.length_nil, Nat.zero_add, Nat.reduceAdd, Nat.reduceLeDiff, Nat.reduceLT, decide_eq_true_eq, if_true, if_false, ite_true, ite_false, Bool.true_eq_false, Bool.false_eq_true, Bool.not_true, Bool.not_false, reduceIte, Bool.not_eq_true', decide_eq_false_iff_not, ord_one, q1, q2, q3, ite_self]
      · have e : decide (32 ≤ c ∧ c ≤ 125 ∧ c ≠ 37) = true := decide_eq_true (by omega)
        rw [e]
        simp -implicitDefEqProofs (disch := first | omega | (simp only [List.length_map, List.length_append, List.length_cons, List.length_nil, List.length_take, List.length_drop, repS_len, rngL_len, List.length_range, List.length_reverse]; done) | (simp only [List.length_map, List.length_append, List.length_cons, List.length_nil, List.length_take, List.length_drop, repS_len, rngL_len, List.length_range, List.length_reverse]; omega)) only [mVar_ev, mVarR_ev, getV_val, getR_val, getR_own, mC_ev, mOp_ev, mOpL_ev, mT_ev, asB_bl, mAnd_ev, mOr_ev, mNot_ev, mAndV_ev, mOrV_ev, mNotV_ev, mIf_ev, mNil_ev, mCons_ev, mTup_ev, mLst_ev, mCall_ev, mPn_ev, mPs_ev, asI_int, mSl_ev, mSlL_ev, asL_lst, asL_scr, asTp_tup, asSt_str, R_ite, mWalk_ev, mLe_ev, mNeg_ev, mSeq_ev, mSkip_ev, bind_nx, bind_rt, bind_rtL, bind_bk, bind_ct, bind_ex, bind_ite, lift_ok, lift_exc, lift_ite, mAsg_ev, mAsgL_ev, mDrop_ev, mRet_ev, mRetL_ev, mRetN_ev, mRetOwn_ev, getO_own, mIfS_ev, mSet1_ev, onO_own, onO_val, mAppend_ev, putO_own, mAsgG_ev, optSO_some, gSet_ev, gsNil_ev, gsCons_ev, obind_some, gTupM_1, gTupM_2, gTupM_3, gTupM_4, gTupM_5, gTupM_6, mFor_ev, retD_nx, retD_rt, retD_rtL, retD_ex, retD_ite, retLs_rtL, retLs_ex, retLs_ite, nth_zero, nth_succ, set_zero, set_succ, add_int, add_str, add_lst, lcat_lst, sub_int', neg_int', lt_int', le_int', gt_int', ge_int', mod_int', fdiv_int, mul_int', mul_str', isN_non, isN_int, notN_non, notN_int, eq_int', ne_int', eq_str', ne_str', eq_bl', ne_bl', len_str', len_lst, len_tup, len_scr, max_int, min_int, sl_str', sl_lst, sl_scr, lsl_lst, lsl_scr, ix_str', ix_lst, ix_tup', ix_scr, range1_ok, range2_ok, range3_ok, mMeth_ev, onStr_str, mComp_ev, mCh_ev, wipeE_nil, wipeE_cons, mYes_ev, int_int, int_bl, asW_lst, asW_tup, asW_scr, asW_str, lt_str', le_str', gt_str', ge_str', mRaise_ev, sum_ints, all_bls, any_bls, list_lst, list_tup, list_scr, sorted_ints', g_find_ev, g_find3_ev, g_find4_ev, g_rfind_ev, g_rfind4_ev, g_count_ev, g_count3_ev, g_count4_ev, g_startswith_ev, g_endswith_ev, Int.reduceToNat, List.getD_cons_zero, List.getD_cons_succ, List.length_map, List.length_reverse, Int.zero_mul, Int.mul_zero, Int.add_zero, Int.mul_one, nc0, nc1, nc2, nc3, nc4, nc5, nc6, nc7, nc8, nc9, nc10, nc11, nc12, nc13, List.cons_append, List.nil_append, decide_true, decide_false, not_false_eq_true, not_true_eq_false, mCallR_ev, retLE_rtL, retDE_rt, flatR_bl, flatR_int, flatR_str, flatR_non, flatR_exc, getOwn_own, mMut0_ev, mSetIx_ev, putIx_ok, rev_lst, lrep_ev, if_small, if_small', rngL_len, endS_nx, endS_rt, in_sign, notIn_sign, isN_str, notN_str, isN_tup, notN_tup, isi_int_int, isi_int_bool, isi_bl_bool, isi_bl_int, isi_str_str, isi_tup_tup, isi_lst_lst, isi_non_int, isi_non_tup, _root_.FL.R.ok_bind, _root_.FL.R.exc_bind, _root_.FL.R.stuck_bind, _root_.FL.R.pure_eq, List.append_nil, List.length_cons, List.length_nil, Nat.zero_add, Nat.reduceAdd, Nat.reduceLeDiff, Nat.reduceLT, decide_eq_true_eq, if_true, if_false, ite_true, ite_false, Bool.true_eq_false, Bool.false_eq_true, Bool.not_true, Bool.not_false, reduceIte, Bool.not_eq_true', decide_eq_false_iff_not, ord_one, q1, q2, q3]
    · have e : decide (32 ≤ c ∧ c ≤ 125 ∧ c ≠ 37) = false := decide_eq_false (by omega)
      rw [e]
      simp -implicitDefEqProofs (disch := first | omega | (simp only [List.length_map, List.length_append, List.length_cons, List.length_nil, List.length_take, List.length_drop, repS_len, rngL_len, List.length_range, List.length_reverse]; done) | (simp only [List.length_map, List.length_append, List.length_cons, List.length_nil, List.length_take, List.length_drop, repS_len, rngL_len, List.length_range, List.length_reverse]; omega)) only [mVar_ev, mVarR_ev, getV_val, getR_val, getR_own, mC_ev, mOp_ev, mOpL_ev, mT_ev, asB_bl, mAnd_ev, mOr_ev, mNot_ev, mAndV_ev, mOrV_ev, mNotV_ev, mIf_ev, mNil_ev, mCons_ev, mTup_ev, mLst_ev, mCall_ev, mPn_ev, mPs_ev, asI_int, mSl_ev, mSlL_ev, asL_lst, asL_scr, asTp_tup, asSt_str, R_ite, mWalk_ev, mLe_ev, mNeg_ev, mSeq_ev, mSkip_ev, bind_nx, bind_rt, bind_rtL, bind_bk, bind_ct, bind_ex, bind_ite, lift_ok, lift_exc, lift_ite, mAsg_ev, mAsgL_ev, mDrop_ev, mRet_ev, mRetL_ev, mRetN_ev, mRetOwn_ev, getO_own, mIfS_ev, mSet1_ev, onO_own, onO_val, mAppend_ev, putO_own, mAsgG_ev, optSO_some, gSet_ev, gsNil_ev, gsCons_ev, obind_some, gTupM_1, gTupM_2, gTupM_3, gTupM_4, gTupM_5, gTupM_6, mFor_ev, retD_nx, retD_rt, retD_rtL, retD_ex, retD_ite, retLs_rtL, retLs_ex, retLs_ite, nth_zero, nth_succ, set_zero, set_succ, add_int, add_str, add_lst, lcat_lst, sub_int', neg_int', lt_int', le_int', gt_int', ge_int', mod_int', fdiv_int, mul_int', mul_str', isN_non, isN_int, notN_non, notN_int, eq_int', ne_int', eq_str', ne_str', eq_bl', ne_bl', len_str', len_lst, len_tup, len_scr, max_int, min_int, sl_str', sl_lst, sl_scr, lsl_lst, lsl_scr, ix_str', ix_lst, ix_tup', ix_scr, range1_ok, range2_ok, range3_ok, mMeth_ev, onStr_str, mComp_ev, mCh_ev, wipeE_nil, wipeE_cons, mYes_ev, int_int, int_bl, asW_lst, asW_tup, asW_scr, asW_str, lt_str', le_str', gt_str', ge_str', mRaise_ev, sum_ints, all_bls, any_bls, list_lst, list_tup, list_scr, sorted_ints', g_find_ev, g_find3_ev, g_find4_ev, g_rfind_ev, g_rfind4_ev, g_count_ev, g_count3_ev, g_count4_ev, g_startswith_ev, g_endswith_ev, Int.reduceToNat, List.getD_cons_zero, List.getD_cons_succ, List.length_map, List.length_reverse, Int.zero_mul, Int.mul_zero, Int.add_zero, Int.mul_one, nc0, nc1, nc2, nc3, nc4, nc5, nc6, nc7, nc8, nc9, nc10, nc11, nc12, nc13, List.cons_append, List.nil_append, decide_true, decide_false, not_false_eq_true, not_true_eq_false, mCallR_ev, retLE_rtL, retDE_rt, flatR_bl, flatR_int, flatR_str, flatR_non, flatR_exc, getOwn_own, mMut0_ev, mSetIx_ev, putIx_ok, rev_lst, lrep_ev, if_small, if_small', rngL_len, endS_nx, endS_rt, in_sign, notIn_sign, isN_str, notN_str, isN_tup, notN_tup, isi_int_int, isi_int_bool, isi_bl_bool, isi_bl_int, isi_str_str, isi_tup_tup, isi_lst_lst, isi_non_int, isi_non_tup, _root_.FL.R.ok_bind, _root_.FL.R.exc_bind, _root_.FL.R.stuck_bind, _root_.FL.R.pure_eq, List.append_nil, List.length_cons, List.length_nil, Nat.zero_add, Nat.reduceAdd, Nat.reduceLeDiff, Nat.reduceLT, decide_eq_true_eq, if_true, if_false, ite_true, ite_false, Bool.true_eq_false, Bool.false_eq_true, Bool.not_true, Bool.not_false, reduceIte, Bool.not_eq_true', decide_eq_false_iff_not, ord_one, q1, q2]
  · have e : decide (32 ≤ c ∧ c ≤ 125 ∧ c ≠ 37) = false := decide_eq_false (by omega)
    rw [e]
    simp -implicitDefEqProofs (disch := first | omega | (simp only [List.length_map, List.length_append, List.length_cons, List.length_nil, List.length_take, List.length_drop, repS_len, rngL_len, List.length_range, List.length_reverse]; done) | (simp only [List.length_map, List.length_append, List.length_cons, List.length_nil, List.length_take, List.length_drop, repS_len, rngL_len, List.length_range, List.length_reverse]; omega)) only [mVar_ev, mVarR_ev, getV_val, getR_val, getR_own, mC_ev, mOp_ev, mOpL_ev, mT_ev, asB_bl, mAnd_ev, mOr_ev, mNot_ev, mAndV_ev, mOrV_ev, mNotV_ev, mIf_ev, mNil_ev, mCons_ev, mTup_ev, mLst_ev, mCall_ev, mPn_ev, mPs_ev, asI_int, mSl_ev, mSlL_ev, asL_lst, asL_scr, asTp_tup, asSt_str, R_ite, mWalk_ev, mLe_ev, mNeg_ev, mSeq_ev, mSkip_ev, bind_nx, bind_rt, bind_rtL, bind_bk, bind_ct, bind_ex, bind_ite, lift_ok, lift_exc, lift_ite, mAsg_ev, mAsgL_ev, mDrop_ev, mRet_ev, mRetL_ev, mRetN_ev, mRetOwn_ev, getO_own, mIfS_ev, mSet1_ev, onO_own, onO_val, mAppend_ev, putO_own, mAsgG_ev, optSO_some, gSet_ev, gsNil_ev, gsCons_ev, obind_some, gTupM_1, gTupM_2, gTupM_3, gTupM_4, gTupM_5, gTupM_6, mFor_ev, retD_nx, retD_rt, retD_rtL, retD_ex, retD_ite, retLs_rtL, retLs_ex, retLs_ite, nth_zero, nth_succ, set_zero, set_succ, add_int, add_str, add_lst, lcat_lst, sub_int', neg_int', lt_int', le_int', gt_int', ge_int', mod_int', fdiv_int, mul_int', mul_str', isN_non, isN_int, notN_non, notN_int, eq_int', ne_int', eq_str', ne_str', eq_bl', ne_bl', len_str', len_lst, len_tup, len_scr, max_int, min_int, sl_str', sl_lst, sl_scr, lsl_lst, lsl_scr, ix_str', ix_lst, ix_tup', ix_scr, range1_ok, range2_ok, range3_ok, mMeth_ev, onStr_str, mComp_ev, mCh_ev, wipeE_nil, wipeE_cons, mYes_ev, int_int, int_bl, asW_lst, asW_tup, asW_scr, asW_str, lt_str', le_str', gt_str', ge_str', mRaise_ev, sum_ints, all_bls, any_bls, list_lst, list_tup, list_scr, sorted_ints', g_find_ev, g_find3_ev, g_find4_ev, g_rfind_ev, g_rfind4_ev, g_count_ev, g_count3_ev, g_count4_ev, g_startswith_ev, g_endswith_ev, Int.reduceToNat, List.getD_cons_zero, List.getD_cons_succ, List.length_map, List.length_reverse, Int.zero_mul, Int.mul_zero, Int.add_zero, Int.mul_one, nc0, nc1, nc2, nc3, nc4, nc5, nc6, nc7, nc8, nc9, nc10, nc11, nc12, nc13, List.cons_append, List.nil_append, decide_true, decide_false, not_false_eq_true, not_true_eq_false, mCallR_ev, retLE_rtL, retDE_rt, flatR_bl, flatR_int, flatR_str, flatR_non, flatR_exc, getOwn_own, mMut0_ev, mSetIx_ev, putIx_ok, rev_lst, lrep_ev, if_small, if_small', rngL_len, endS_nx, endS_rt, in_sign, notIn_sign, isN_str, notN_str, isN_tup, notN_tup, isi_int_int, isi_int_bool, isi_bl_bool, isi_bl_int, isi_str_str, isi_tup_tup, isi_lst_lst, isi_non_int, isi_non_tup, _root_.FL.R.ok_bind, _root_.FL.R.exc_bind, _root_.FL.R.stuck_bind, _root_.FL.R.pure_eq, List.append_nil, List.length_cons, List.length_nil, Nat.zero_add, Nat.reduceAdd, Nat.reduceLeDiff, Nat.reduceLT, decide_eq_true_eq, if_true, if_false, ite_true, ite_false, Bool.true_eq_false, Bool.false_eq_true, Bool.not_true, Bool.not_false, reduceIte, Bool.not_eq_true', decide_eq_false_iff_not, ord_one, q1]
theorem one_ne {a b : Nat} (h : ¬ a = b) : ¬ [a] = [b] := fun z => h (List.cons.inj z).1
theorem e_shelf (ks : List Nat) (hl : ks.length ≤ 100000) : p_shelf_of [.str ks] = .ok (tD .str 0 (shelfM ks)) := by
  rw [u_shelf_of]; unfold b_shelf_of
  match ks, hl with
  | [], _ =>
    have e0 : cutL ([] : List Nat) none (some 1) = [] := rfl
    have z : ¬ ([] : List Nat) = [34] := by decide
    simp -implicitDefEqProofs (disch := first | omega | (simp only [List.length_map, List.length_append, List.length_cons, List.length_nil, List.length_take, List.length_drop, repS_len, rngL_len, List.length_range, List.length_reverse]; done) | (simp only [List.length_map, List.length_append, List.length_cons, List.length_nil, List.length_take, List.length_drop, repS_len, rngL_len, List.length_range, List.length_reverse]; omega)) only [mVar_ev, mVarR_ev, getV_val, getR_val, getR_own, mC_ev, mOp_ev, mOpL_ev, mT_ev, asB_bl, mAnd_ev, mOr_ev, mNot_ev, mAndV_ev, mOrV_ev, mNotV_ev, mIf_ev, mNil_ev, mCons_ev, mTup_ev, mLst_ev, mCall_ev, mPn_ev, mPs_ev, asI_int, mSl_ev, mSlL_ev, asL_lst, asL_scr, asTp_tup, asSt_str, R_ite, mWalk_ev, mLe_ev, mNeg_ev, mSeq_ev, mSkip_ev, bind_nx, bind_rt, bind_rtL, bind_bk, bind_ct, bind_ex, bind_ite, lift_ok, lift_exc, lift_ite, mAsg_ev, mAsgL_ev, mDrop_ev, mRet_ev, mRetL_ev, mRetN_ev, mRetOwn_ev, getO_own, mIfS_ev, mSet1_ev, onO_own, onO_val, mAppend_ev, putO_own, mAsgG_ev, optSO_some, gSet_ev, gsNil_ev, gsCons_ev, obind_some, gTupM_1, gTupM_2, gTupM_3, gTupM_4, gTupM_5, gTupM_6, mFor_ev, retD_nx, retD_rt, retD_rtL, retD_ex, retD_ite, retLs_rtL, retLs_ex, retLs_ite, nth_zero, nth_succ, set_zero, set_succ, add_int, add_str, add_lst, lcat_lst, sub_int', neg_int', lt_int', le_int', gt_int', ge_int', mod_int', fdiv_int, mul_int', mul_str', isN_non, isN_int, notN_non, notN_int, eq_int', ne_int', eq_str', ne_str', eq_bl', ne_bl', len_str', len_lst, len_tup, len_scr, max_int, min_int, sl_str', sl_lst, sl_scr, lsl_lst, lsl_scr, ix_str', ix_lst, ix_tup', ix_scr, range1_ok, range2_ok, range3_ok, mMeth_ev, onStr_str, mComp_ev, mCh_ev, wipeE_nil, wipeE_cons, mYes_ev, int_int, int_bl, asW_lst, asW_tup, asW_scr, asW_str, lt_str', le_str', gt_str', ge_str', mRaise_ev, sum_ints, all_bls, any_bls, list_lst, list_tup, list_scr, sorted_ints', g_find_ev, g_find3_ev, g_find4_ev, g_rfind_ev, g_rfind4_ev, g_count_ev, g_count3_ev, g_count4_ev, g_startswith_ev, g_endswith_ev, Int.reduceToNat, List.getD_cons_zero, List.getD_cons_succ, List.length_map, List.length_reverse, Int.zero_mul, Int.mul_zero, Int.add_zero, Int.mul_one, nc0, nc1, nc2, nc3, nc4, nc5, nc6, nc7, nc8, nc9, nc10, nc11, nc12, nc13, List.cons_append, List.nil_append, decide_true, decide_false, not_false_eq_true, not_true_eq_false, mCallR_ev, retLE_rtL, retDE_rt, flatR_bl, flatR_int, flatR_str, flatR_non, flatR_exc, getOwn_own, mMut0_ev, mSetIx_ev, putIx_ok, rev_lst, lrep_ev, if_small, if_small', rngL_len, endS_nx, endS_rt, in_sign, notIn_sign, isN_str, notN_str, isN_tup, notN_tup, isi_int_int, isi_int_bool, isi_bl_bool, isi_bl_int, isi_str_str, isi_tup_tup, isi_lst_lst, isi_non_int, isi_non_tup, _root_.FL.R.ok_bind, _root_.FL.R.exc_bind, _root_.FL.R.stuck_bind, _root_.FL.R.pure_eq, List.append_nil, List.length_cons, List.length_nil, Nat.zero_add, Nat.reduceAdd, Nat.reduceLeDiff, Nat.reduceLT, decide_eq_true_eq, if_true, if_false, ite_true, ite_false, Bool.true_eq_false, Bool.false_eq_true, Bool.not_true, Bool.not_false, reduceIte, Bool.not_eq_true', decide_eq_false_iff_not, e0, z]
    rfl
  | c :: r, hl =>
    have e0 : cutL (c :: r) none (some 1) = [c] := by rw [none_cut _ _ (by omega)]; rfl
    rw [List.length_cons] at hl
    by_cases q : c = 34
    · subst q
      match r, hl with
      | [], _ => simp -implicitDefEqProofs (disch := first | omega | (simp only [List.length_map, List.length_append, List.length_cons, List.length_nil, List.length_take, List.length_drop, repS_len, rngL_len, List.length_range, List.length_reverse]; done) | (simp only [List.length_map, List.length_append, List.length_cons, List.length_nil, List.length_take, List.length_drop, repS_len, rngL_len, List.length_range, List.length_reverse]; omega)) only [mVar_ev, mVarR_ev, getV_val, getR_val, getR_own, mC_ev, mOp_ev, mOpL_ev, mT_ev, asB_bl, mAnd_ev, mOr_ev, mNot_ev, mAndV_ev, mOrV_ev, mNotV_ev, mIf_ev, mNil_ev, mCons_ev, mTup_ev, mLst_ev, mCall_ev, mPn_ev, mPs_ev, asI_int, mSl_ev, mSlL_ev, asL_lst, asL_scr, asTp_tup, asSt_str, R_ite, mWalk_ev, mLe_ev, mNeg_ev, mSeq_ev, mSkip_ev, bind_nx, bind_rt, bind_rtL, bind_bk, bind_ct, bind_ex, bind_ite, lift_ok, lift_exc, lift_ite, mAsg_ev, mAsgL_ev, mDrop_ev, mRet_ev, mRetL_ev, mRetN_ev, mRetOwn_ev, getO_own, mIfS_ev, mSet1_ev, onO_own, onO_val, mAppend_ev, putO_own, mAsgG_ev, optSO_some, gSet_ev, gsNil_ev, gsCons_ev, obind_some, gTupM_1, gTupM_2, gTupM_3, gTupM_4, gTupM_5, gTupM_6, mFor_ev, retD_nx, retD_rt, retD_rtL, retD_ex, retD_ite, retLs_rtL, retLs_ex, retLs_ite, nth_zero, nth_succ, set_zero, set_succ, add_int, add_str, add_lst, lcat_lst, sub_int', neg_int', lt_int', le_int', gt_int', ge_int', mod_int', fdiv_int, mul_int', mul_str', isN_non, isN_int, notN_non, notN_int, eq_int', ne_int', eq_str', ne_str', eq_bl', ne_bl', len_str', len_lst, len_tup, len_scr, max_int, min_int, sl_str', sl_lst, sl_scr, lsl_lst, lsl_scr, ix_str', ix_lst, ix_tup', ix_scr, range1_ok, range2_ok, range3_ok, mMeth_ev, onStr_str, mComp_ev, mCh_ev, wipeE_nil, wipeE_cons, mYes_ev, int_int, int_bl, asW_lst, asW_tup, asW_scr, asW_str, lt_str', le_str', gt_str', ge_str', mRaise_ev, sum_ints, all_bls, any_bls, list_lst, list_tup, list_scr, sorted_ints', g_find_ev, g_find3_ev, g_find4_ev, g_rfind_ev, g_rfind4_ev, g_count_ev, g_count3_ev, g_count4_ev, g_startswith_ev, g_endswith_ev, Int.reduceToNat, List.getD_cons_zero, List.getD_cons_succ, List.length_map, List.length_reverse, Int.zero_mul, Int.mul_zero, Int.add_zero, Int.mul_one, nc0, nc1, nc2, nc3, nc4, nc5, nc6, nc7, nc8, nc9, nc10, nc11, nc12, nc13, List.cons_append, List.nil_append, decide_true, decide_false, not_false_eq_true, not_true_eq_false, mCallR_ev, retLE_rtL, retDE_rt, flatR_bl, flatR_int, flatR_str, flatR_non, flatR_exc, getOwn_own, mMut0_ev, mSetIx_ev, putIx_ok, rev_lst, lrep_ev, if_small, if_small', rngL_len, endS_nx, endS_rt, in_sign, notIn_sign, isN_str, notN_str, isN_tup, notN_tup, isi_int_int, isi_int_bool, isi_bl_bool, isi_bl_int, isi_str_str, isi_tup_tup, isi_lst_lst, isi_non_int, isi_non_tup, _root_.FL.R.ok_bind, _root_.FL.R.exc_bind, _root_.FL.R.stuck_bind, _root_.FL.R.pure_eq, List.append_nil, List.length_cons, List.length_nil, Nat.zero_add, Nat.reduceAdd, Nat.reduceLeDiff, Nat.reduceLT, decide_eq_true_eq, if_true, if_false, ite_true, ite_false, Bool.true_eq_false, Bool.false_eq_true, Bool.not_true, Bool.not_false, reduceIte, Bool.not_eq_true', decide_eq_false_iff_not, e0]; rfl
      | l :: r, hl =>
        rw [List.length_cons] at hl
        have q1 : ¬ ((r.length + 1 + 1 : Nat) : Int) = 1 := by omega
        have em : shelfM (34 :: l :: r) = if l ∈ letS then .told [l] 2 else .non 2 := by
          show (if 34 = 34 then (if l ∈ letS then TT.told [l] 2 else .non 2) else .told [] 0) = _
          rw [if_pos rfl]
        rw [em]
        by_cases q2 : l ∈ letS
        · have q3 : l ∈ ks_c3fcd3 := q2
          rw [if_pos q2]
          simp -implicitDefEqProofs (disch := first | omega | (simp only [List.length_map, List.length_append, List.length_cons, List.length_nil, List.length_take, List.length_drop, repS_len, rngL_len, List.length_range, List.length_reverse]; done) | (simp only [List.length_map, List.length_append, List.length_cons, List.length_nil, List.length_take, List.length_drop, repS_len, rngL_len, List.length_range, List.length_reverse]; omega)) only [mVar_ev, mVarR_ev, getV_val, getR_val, getR_own, mC_ev, mOp_ev, mOpL_ev, mT_ev, asB_bl, mAnd_ev, mOr_ev, mNot_ev, mAndV_ev, mOrV_ev, mNotV_ev, mIf_ev, mNil_ev, mCons_ev, mTup_ev, mLst_ev, mCall_ev, mPn_ev, mPs_ev, asI_int, mSl_ev, mSlL_ev, asL_lst, asL_scr, asTp_tup, asSt_str, R_ite, mWalk_ev, mLe_ev, mNeg_ev, mSeq_ev, mSkip_ev, bind_nx, bind_rt, bind_rtL, bind_bk, bind_ct, bind_ex, bind_ite, lift_ok, lift_exc, lift_ite, mAsg_ev, mAsgL_ev, mDrop_ev, mRet_ev, mRetL_ev, mRetN_ev, mRetOwn_ev, getO_own, mIfS_ev, mSet1_ev, onO_own, onO_val, mAppend_ev, putO_own, mAsgG_ev, optSO_some, gSet_ev, gsNil_ev, gsCons_ev, obind_some, gTupM_1, gTupM_2, gTupM_3, gTupM_4, gTupM_5, gTupM_6, mFor_ev, retD_nx, retD_rt, retD_rtL, retD_ex, retD_ite, retLs_rtL, retLs_ex, retLs_ite, nth_zero, nth_succ, set_zero, set_succ, add_int, add_str, add_lst, lcat_lst, sub_int', neg_int', lt_int', le_int', gt_int', ge_int', mod_int', fdiv_int, mul_int', mul_str', isN_non, isN_int, notN_non, notN_int, eq_int', ne_int', eq_str', ne_str', eq_bl', ne_bl', len_str', len_lst, len_tup, len_scr, max_int, min_int, sl_str', sl_lst, sl_scr, lsl_lst, lsl_scr, ix_str', ix_lst, ix_tup', ix_scr, range1_ok, range2_ok, range3_ok, mMeth_ev, onStr_str, mComp_ev, mCh_ev, wipeE_nil, wipeE_cons, mYes_ev, int_int, int_bl, asW_lst, asW_tup, asW_scr, asW_str, lt_str', le_str', gt_str', ge_str', mRaise_ev, sum_ints, all_bls, any_bls, list_lst, list_tup, list_scr, sorted_ints', g_find_ev, g_find3_ev, g_find4_ev, g_rfind_ev, g_rfind4_ev, g_count_ev, g_count3_ev, g_count4_ev, g_startswith_ev, g_endswith_ev, Int.reduceToNat, List.getD_cons_zero, List.getD_cons_succ, List.length_map, List.length_reverse, Int.zero_mul, Int.mul_zero, Int.add_zero, Int.mul_one, nc0, nc1, nc2, nc3, nc4, nc5, nc6, nc7, nc8, nc9, nc10, nc11, nc12, nc13, List.cons_append, List.nil_append, decide_true, decide_false, not_false_eq_true, not_true_eq_false, mCallR_ev, retLE_rtL, retDE_rt, flatR_bl, flatR_int, flatR_str, flatR_non, flatR_exc, getOwn_own, mMut0_ev, mSetIx_ev, putIx_ok, rev_lst, lrep_ev, if_small, if_small', rngL_len, endS_nx, endS_rt, in_sign, notIn_sign, isN_str, notN_str, isN_tup, notN_tup, isi_int_int, isi_int_bool, isi_bl_bool, isi_bl_int, isi_str_str, isi_tup_tup, isi_lst_lst, isi_non_int, isi_non_tup, _root_.FL.R.ok_bind, _root_.FL.R.exc_bind, _root_.FL.R.stuck_bind, _root_.FL.R.pure_eq, List.append_nil, List.length_cons, List.length_nil, Nat.zero_add, Nat.reduceAdd, Nat.reduceLeDiff, Nat.reduceLT, decide_eq_true_eq, if_true, if_false, ite_true, ite_false, Bool.true_eq_false, Bool.false_eq_true, Bool.not_true, Bool.not_false, reduceIte, Bool.not_eq_true', decide_eq_false_iff_not, e0, q1, q3]
          rfl
        · have q3 : ¬ l ∈ ks_c3fcd3 := q2
          rw [if_neg q2]
          simp -implicitDefEqProofs (disch := first | omega | (simp only [List.length_map, List.length_append, List.length_cons, List.length_nil, List.length_take, List.length_drop, repS_len, rngL_len, List.length_range, List.length_reverse]; done) | (simp only [List.length_map, List.length_append, List.length_cons, List.length_nil, List.length_take, List.length_drop, repS_len, rngL_len, List.length_range, List.length_reverse]; omega)) only [mVar_ev, mVarR_ev, getV_val, getR_val, getR_own, mC_ev, mOp_ev, mOpL_ev, mT_ev, asB_bl, mAnd_ev, mOr_ev, mNot_ev, mAndV_ev, mOrV_ev, mNotV_ev, mIf_ev, mNil_ev, mCons_ev, mTup_ev, mLst_ev, mCall_ev, mPn_ev, mPs_ev, asI_int, mSl_ev, mSlL_ev, asL_lst, asL_scr, asTp_tup, asSt_str, R_ite, mWalk_ev, mLe_ev, mNeg_ev, mSeq_ev, mSkip_ev, bind_nx, bind_rt, bind_rtL, bind_bk, bind_ct, bind_ex, bind_ite, lift_ok, lift_exc, lift_ite, mAsg_ev, mAsgL_ev, mDrop_ev, mRet_ev, mRetL_ev, mRetN_ev, mRetOwn_ev, getO_own, mIfS_ev, mSet1_ev, onO_own, onO_val, mAppend_ev, putO_own, mAsgG_ev, optSO_some, gSet_ev, gsNil_ev, gsCons_ev, obind_some, gTupM_1, gTupM_2, gTupM_3, gTupM_4, gTupM_5, gTupM_6, mFor_ev, retD_nx, retD_rt, retD_rtL, retD_ex, retD_ite, retLs_rtL, retLs_ex, retLs_ite, nth_zero, nth_succ, set_zero, set_succ, add_int, add_str, add_lst, lcat_lst, sub_int', neg_int', lt_int', le_int', gt_int', ge_int', mod_int', fdiv_int, mul_int', mul_str', isN_non, isN_int, notN_non, notN_int, eq_int', ne_int', eq_str', ne_str', eq_bl', ne_bl', len_str', len_lst, len_tup, len_scr, max_int, min_int, sl_str', sl_lst, sl_scr, lsl_lst, lsl_scr, ix_str', ix_lst, ix_tup', ix_scr, range1_ok, range2_ok, range3_ok, mMeth_ev, onStr_str, mComp_ev, mCh_ev, wipeE_nil, wipeE_cons, mYes_ev, int_int, int_bl, asW_lst, asW_tup, asW_scr, asW_str, lt_str', le_str', gt_str', ge_str', mRaise_ev, sum_ints, all_bls, any_bls, list_lst, list_tup, list_scr, sorted_ints', g_find_ev, g_find3_ev, g_find4_ev, g_rfind_ev, g_rfind4_ev, g_count_ev, g_count3_ev, g_count4_ev, g_startswith_ev, g_endswith_ev, Int.reduceToNat, List.getD_cons_zero, List.getD_cons_succ, List.length_map, List.length_reverse, Int.zero_mul, Int.mul_zero, Int.add_zero, Int.mul_one, nc0, nc1, nc2, nc3, nc4, nc5, nc6, nc7, nc8, nc9, nc10, nc11, nc12, nc13, List.cons_append, List.nil_append, decide_true, decide_false, not_false_eq_true, not_true_eq_false, mCallR_ev, retLE_rtL, retDE_rt, flatR_bl, flatR_int, flatR_str, flatR_non, flatR_exc, getOwn_own, mMut0_ev, mSetIx_ev, putIx_ok, rev_lst, lrep_ev, if_small, if_small', rngL_len, endS_nx, endS_rt, in_sign, notIn_sign, isN_str, notN_str, isN_tup, notN_tup, isi_int_int, isi_int_bool, isi_bl_bool, isi_bl_int, isi_str_str, isi_tup_tup, isi_lst_lst, isi_non_int, isi_non_tup, _root_.FL.R.ok_bind, _root_.FL.R.exc_bind, _root_.FL.R.stuck_bind, _root_.FL.R.pure_eq, List.append_nil, List.length_cons, List.length_nil, Nat.zero_add, Nat.reduceAdd, Nat.reduceLeDiff, Nat.reduceLT, decide_eq_true_eq, if_true, if_false, ite_true, ite_false, Bool.true_eq_false, Bool.false_eq_true, Bool.not_true, Bool.not_false, reduceIte, Bool.not_eq_true', decide_eq_false_iff_not, e0, q1, q3]
          rfl
    · have em : shelfM (c :: r) = .told [] 0 := if_neg q
      have q' := one_ne q
      rw [em]
      simp -implicitDefEqProofs (disch := first | omega | (simp only [List.length_map, List.length_append, List.length_cons, List.length_nil, List.length_take, List.length_drop, repS_len, rngL_len, List.length_range, List.length_reverse]; done) | (simp only [List.length_map, List.length_append, List.length_cons, List.length_nil, List.length_take, List.length_drop, repS_len, rngL_len, List.length_range, List.length_reverse]; omega)) only [mVar_ev, mVarR_ev, getV_val, getR_val, getR_own, mC_ev, mOp_ev, mOpL_ev, mT_ev, asB_bl, mAnd_ev, mOr_ev, mNot_ev, mAndV_ev, mOrV_ev, mNotV_ev, mIf_ev, mNil_ev, mCons_ev, mTup_ev, mLst_ev, mCall_ev, mPn_ev, mPs_ev, asI_int, mSl_ev, mSlL_ev, asL_lst, asL_scr, asTp_tup, asSt_str, R_ite, mWalk_ev, mLe_ev, mNeg_ev, mSeq_ev, mSkip_ev, bind_nx, bind_rt, bind_rtL, bind_bk, bind_ct, bind_ex, bind_ite, lift_ok, lift_exc, lift_ite, mAsg_ev, mAsgL_ev, mDrop_ev, mRet_ev, mRetL_ev, mRetN_ev, mRetOwn_ev, getO_own, mIfS_ev, mSet1_ev, onO_own, onO_val, mAppend_ev, putO_own, mAsgG_ev, optSO_some, gSet_ev, gsNil_ev, gsCons_ev, obind_some, gTupM_1, gTupM_2, gTupM_3, gTupM_4, gTupM_5, gTupM_6, mFor_ev, retD_nx, retD_rt, retD_rtL, retD_ex, retD_ite, retLs_rtL, retLs_ex, retLs_ite, nth_zero, nth_succ, set_zero, set_succ, add_int, add_str, add_lst, lcat_lst, sub_int', neg_int', lt_int', le_int', gt_int', ge_int', mod_int', fdiv_int, mul_int', mul_str', isN_non, isN_int, notN_non, notN_int, eq_int', ne_int', eq_str', ne_str', eq_bl', ne_bl', len_str', len_lst, len_tup, len_scr, max_int, min_int, sl_str', sl_lst, sl_scr, lsl_lst, lsl_scr, ix_str', ix_lst, ix_tup', ix_scr, range1_ok, range2_ok, range3_ok, mMeth_ev, onStr_str, mComp_ev, mCh_ev, wipeE_nil, wipeE_cons, mYes_ev, int_int, int_bl, asW_lst, asW_tup, asW_scr, asW_str, lt_str', le_str', gt_str', ge_str', mRaise_ev, sum_ints, all_bls, any_bls, list_lst, list_tup, list_scr, sorted_ints', g_find_ev, g_find3_ev, g_find4_ev, g_rfind_ev, g_rfind4_ev, g_count_ev, g_count3_ev, g_count4_ev, g_startswith_ev, g_endswith_ev, Int.reduceToNat, List.getD_cons_zero, List.getD_cons_succ, List.length_map, List.length_reverse, Int.zero_mul, Int.mul_zero, Int.add_zero, Int.mul_one, nc0, nc1, nc2, nc3, nc4, nc5, nc6, nc7, nc8, nc9, nc10, nc11, nc12, nc13, List.cons_append, List.nil_append, decide_true, decide_false, not_false_eq_true, not_true_eq_false, mCallR_ev, retLE_rtL, retDE_rt, flatR_bl, flatR_int, flatR_str, flatR_non, flatR_exc, getOwn_own, mMut0_ev, mSetIx_ev, putIx_ok, rev_lst, lrep_ev, if_small, if_small', rngL_len, endS_nx, endS_rt, in_sign, notIn_sign, isN_str, notN_str, isN_tup, notN_tup, isi_int_int, isi_int_bool, isi_bl_bool, isi_bl_int, isi_str_str, isi_tup_tup, isi_lst_lst, isi_non_int, isi_non_tup, _root_.FL.R.ok_bind, _root_.FL.R.exc_bind, _root_.FL.R.stuck_bind, _root_.FL.R.pure_eq, List.append_nil, List.length_cons, List.length_nil, Nat.zero_add, Nat.reduceAdd, Nat.reduceLeDiff, Nat.reduceLT, decide_eq_true_eq, if_true, if_false, ite_true, ite_false, Bool.true_eq_false, Bool.false_eq_true, Bool.not_true, Bool.not_false, reduceIte, Bool.not_eq_true', decide_eq_false_iff_not, e0, q']
      rfl
/-- the keys from a place on -/
theorem dr {ks : List Nat} {at_ : Nat} {k : Nat} {r : List Nat} (h : ks.drop at_ = k :: r) : at_ < ks.length ∧ ks.getD at_ 0 = k ∧ ks.drop (at_ + 1) = r := by
  have hl : at_ < ks.length := by
    by_cases z : at_ < ks.length
    · exact z
    · rw [List.drop_of_length_le (by omega)] at h; cases h
  rw [List.drop_eq_getElem_cons hl] at h
  cases h
  refine ⟨hl, ?_, rfl⟩
  rw [List.getD_eq_getElem?_getD, List.getElem?_eq_getElem hl]; rfl
theorem dr0 {ks : List Nat} {at_ : Nat} (h : ks.drop at_ = []) : ks.length ≤ at_ := List.drop_eq_nil_iff.mp h
theorem dr_get (ks : List Nat) (at_ i : Nat) : (ks.drop at_).getD i 0 = ks.getD (at_ + i) 0 := by
  rw [List.getD_eq_getElem?_getD, List.getElem?_drop, List.getD_eq_getElem?_getD]
theorem dr_len (ks : List Nat) (at_ : Nat) : (ks.drop at_).length = ks.length - at_ := List.length_drop ..
theorem e_target (ks : List Nat) (at_ : Nat) (th : Bool) (hl : ks.length ≤ 100000) (ha : at_ ≤ ks.length) : p_target_of [.str ks, .int at_, .bl th] = .ok (tD .str at_ (targetM th (ks.drop at_))) := by
  rw [u_target_of]; unfold b_target_of
  cases hd : ks.drop at_ with
  | nil =>
    have q : (at_ : Int) = ks.length := by have := dr0 hd; omega
    simp -implicitDefEqProofs (disch := first | omega | (simp only [List.length_map, List.length_append, List.length_cons, List.length_nil, List.length_take, List.length_drop, repS_len, rngL_len, List.length_range, List.length_reverse]; done) | (simp only [List.length_map, List.length_append, List.length_cons, List.length_nil, List.length_take, List.length_drop, repS_len, rngL_len, List.length_range, List.length_reverse]; omega)) only [mVar_ev, mVarR_ev, getV_val, getR_val, getR_own, mC_ev, mOp_ev, mOpL_ev, mT_ev, asB_bl, mAnd_ev, mOr_ev, mNot_ev, mAndV_ev, mOrV_ev, mNotV_ev, mIf_ev, mNil_ev, mCons_ev, mTup_ev, mLst_ev, mCall_ev, mPn_ev, mPs_ev, asI_int, mSl_ev, mSlL_ev, asL_lst, asL_scr, asTp_tup, asSt_str, R_ite, mWalk_ev, mLe_ev, mNeg_ev, mSeq_ev, mSkip_ev, bind_nx, bind_rt, bind_rtL, bind_bk, bind_ct, bind_ex, bind_ite, lift_ok, lift_exc, lift_ite, mAsg_ev, mAsgL_ev, mDrop_ev, mRet_ev, mRetL_ev, mRetN_ev, mRetOwn_ev, getO_own, mIfS_ev, mSet1_ev, onO_own, onO_val, mAppend_ev, putO_own, mAsgG_ev, optSO_some, gSet_ev, gsNil_ev, gsCons_ev, obind_some, gTupM_1, gTupM_2, gTupM_3, gTupM_4, gTupM_5, gTupM_6, mFor_ev, retD_nx, retD_rt, retD_rtL, retD_ex, retD_ite, retLs_rtL, retLs_ex, retLs_ite, nth_zero, nth_succ, set_zero, set_succ, add_int, add_str, add_lst, lcat_lst, sub_int', neg_int', lt_int', le_int', gt_int', ge_int', mod_int', fdiv_int, mul_int', mul_str', isN_non, isN_int, notN_non, notN_int, eq_int', ne_int', eq_str', ne_str', eq_bl', ne_bl', len_str', len_lst, len_tup, len_scr, max_int, min_int, sl_str', sl_lst, sl_scr, lsl_lst, lsl_scr, ix_str', ix_lst, ix_tup', ix_scr, range1_ok, range2_ok, range3_ok, mMeth_ev, onStr_str, mComp_ev, mCh_ev, wipeE_nil, wipeE_cons, mYes_ev, int_int, int_bl, asW_lst, asW_tup, asW_scr, asW_str, lt_str', le_str', gt_str', ge_str', mRaise_ev, sum_ints, all_bls, any_bls, list_lst, list_tup, list_scr, sorted_ints', g_find_ev, g_find3_ev, g_find4_ev, g_rfind_ev, g_rfind4_ev, g_count_ev, g_count3_ev, g_count4_ev, g_startswith_ev, g_endswith_ev, Int.reduceToNat, List.getD_cons_zero, List.getD_cons_succ, List.length_map, List.length_reverse, Int.zero_mul, Int.mul_zero, Int.add_zero, Int.mul_one, nc0, nc1, nc2, nc3, nc4, nc5, nc6, nc7, nc8, nc9, nc10, nc11, nc12, nc13, List.cons_append, List.nil_append, decide_true, decide_false, not_false_eq_true, not_true_eq_false, mCallR_ev, retLE_rtL, retDE_rt, flatR_bl, flatR_int, flatR_str, flatR_non, flatR_exc, getOwn_own, mMut0_ev, mSetIx_ev, putIx_ok, rev_lst, lrep_ev, if_small, if_small', rngL_len, endS_nx, endS_rt, in_sign, notIn_sign, isN_str, notN_str, isN_tup, notN_tup, isi_int_int, isi_int_bool, isi_bl_bool, isi_bl_int, isi_str_str, isi_tup_tup, isi_lst_lst, isi_non_int, isi_non_tup, _root_.FL.R.ok_bind, _root_.FL.R.exc_bind, _root_.FL.R.stuck_bind, _root_.FL.R.pure_eq, List.append_nil, List.length_cons, List.length_nil, Nat.zero_add, Nat.reduceAdd, Nat.reduceLeDiff, Nat.reduceLT, decide_eq_true_eq, if_true, if_false, ite_true, ite_false, Bool.true_eq_false, Bool.false_eq_true, Bool.not_true, Bool.not_false, reduceIte, Bool.not_eq_true', decide_eq_false_iff_not, q]
    rfl
  | cons k r =>
    obtain ⟨h1, h2, h3⟩ := dr hd
    have q : ¬ (at_ : Int) = ks.length := by omega
    simp -implicitDefEqProofs (disch := first | omega | (simp only [List.length_map, List.length_append, List.length_cons, List.length_nil, List.length_take, List.length_drop, repS_len, rngL_len, List.length_range, List.length_reverse]; done) | (simp only [List.length_map, List.length_append, List.length_cons, List.length_nil, List.length_take, List.length_drop, repS_len, rngL_len, List.length_range, List.length_reverse]; omega)) only [mVar_ev, mVarR_ev, getV_val, getR_val, getR_own, mC_ev, mOp_ev, mOpL_ev, mT_ev, asB_bl, mAnd_ev, mOr_ev, mNot_ev, mAndV_ev, mOrV_ev, mNotV_ev, mIf_ev, mNil_ev, mCons_ev, mTup_ev, mLst_ev, mCall_ev, mPn_ev, mPs_ev, asI_int, mSl_ev, mSlL_ev, asL_lst, asL_scr, asTp_tup, asSt_str, R_ite, mWalk_ev, mLe_ev, mNeg_ev, mSeq_ev, mSkip_ev, bind_rt, bind_rtL, bind_bk, bind_ct, bind_ex, bind_ite, lift_ok, lift_exc, lift_ite, mAsg_ev, mAsgL_ev, mDrop_ev, mRet_ev, mRetL_ev, mRetN_ev, mRetOwn_ev, getO_own, mIfS_ev, mSet1_ev, onO_own, onO_val, mAppend_ev, putO_own, mAsgG_ev, optSO_some, gSet_ev, gsNil_ev, gsCons_ev, obind_some, gTupM_1, gTupM_2, gTupM_3, gTupM_4, gTupM_5, gTupM_6, mFor_ev, retD_nx, retD_rt, retD_rtL, retD_ex, retD_ite, retLs_rtL, retLs_ex, retLs_ite, nth_zero, nth_succ, set_zero, set_succ, add_int, add_str, add_lst, lcat_lst, sub_int', neg_int', lt_int', le_int', gt_int', ge_int', mod_int', fdiv_int, mul_int', mul_str', isN_non, isN_int, notN_non, notN_int, eq_int', ne_int', eq_str', ne_str', eq_bl', ne_bl', len_str', len_lst, len_tup, len_scr, max_int, min_int, sl_str', sl_lst, sl_scr, lsl_lst, lsl_scr, ix_str', ix_lst, ix_tup', ix_scr, range1_ok, range2_ok, range3_ok, mMeth_ev, onStr_str, mComp_ev, mCh_ev, wipeE_nil, wipeE_cons, mYes_ev, int_int, int_bl, asW_lst, asW_tup, asW_scr, asW_str, lt_str', le_str', gt_str', ge_str', mRaise_ev, sum_ints, all_bls, any_bls, list_lst, list_tup, list_scr, sorted_ints', g_find_ev, g_find3_ev, g_find4_ev, g_rfind_ev, g_rfind4_ev, g_count_ev, g_count3_ev, g_count4_ev, g_startswith_ev, g_endswith_ev, Int.reduceToNat, List.getD_cons_zero, List.getD_cons_succ, List.length_map, List.length_reverse, Int.zero_mul, Int.mul_zero, Int.add_zero, Int.mul_one, nc0, nc1, nc2, nc3, nc4, nc5, nc6, nc7, nc8, nc9, nc10, nc11, nc12, nc13, List.cons_append, List.nil_append, decide_true, decide_false, not_false_eq_true, not_true_eq_false, mCallR_ev, retLE_rtL, retDE_rt, flatR_bl, flatR_int, flatR_str, flatR_non, flatR_exc, getOwn_own, mMut0_ev, mSetIx_ev, putIx_ok, rev_lst, lrep_ev, if_small, if_small', rngL_len, endS_nx, endS_rt, in_sign, notIn_sign, isN_str, notN_str, isN_tup, notN_tup, isi_int_int, isi_int_bool, isi_bl_bool, isi_bl_int, isi_str_str, isi_tup_tup, isi_lst_lst, isi_non_int, isi_non_tup, _root_.FL.R.ok_bind, _root_.FL.R.exc_bind, _root_.FL.R.stuck_bind, _root_.FL.R.pure_eq, List.append_nil, List.length_cons, List.length_nil, Nat.zero_add, Nat.reduceAdd, Nat.reduceLeDiff, Nat.reduceLT, decide_eq_true_eq, if_true, if_false, ite_true, ite_false, Bool.true_eq_false, Bool.false_eq_true, Bool.not_true, Bool.not_false, reduceIte, Bool.not_eq_true', decide_eq_false_iff_not, q]
    rw [bind_nx]
    simp -implicitDefEqProofs (disch := first | omega | (simp only [List.length_map, List.length_append, List.length_cons, List.length_nil, List.length_take, List.length_drop, repS_len, rngL_len, List.length_range, List.length_reverse]; done) | (simp only [List.length_map, List.length_append, List.length_cons, List.length_nil, List.length_take, List.length_drop, repS_len, rngL_len, List.length_range, List.length_reverse]; omega)) only [mVar_ev, mVarR_ev, getV_val, getR_val, getR_own, mC_ev, mOp_ev, mOpL_ev, mT_ev, asB_bl, mAnd_ev, mOr_ev, mNot_ev, mAndV_ev, mOrV_ev, mNotV_ev, mIf_ev, mNil_ev, mCons_ev, mTup_ev, mLst_ev, mCall_ev, mPn_ev, mPs_ev, asI_int, mSl_ev, mSlL_ev, asL_lst, asL_scr, asTp_tup, asSt_str, R_ite, mWalk_ev, mLe_ev, mNeg_ev, mSeq_ev, mSkip_ev, bind_rt, bind_rtL, bind_bk, bind_ct, bind_ex, bind_ite, lift_ok, lift_exc, lift_ite, mAsg_ev, mAsgL_ev, mDrop_ev, mRet_ev, mRetL_ev, mRetN_ev, mRetOwn_ev, getO_own, mIfS_ev, mSet1_ev, onO_own, onO_val, mAppend_ev, putO_own, mAsgG_ev, optSO_some, gSet_ev, gsNil_ev, gsCons_ev, obind_some, gTupM_1, gTupM_2, gTupM_3, gTupM_4, gTupM_5, gTupM_6, mFor_ev, retD_nx, retD_rt, retD_rtL, retD_ex, retD_ite, retLs_rtL, retLs_ex, retLs_ite, nth_zero, nth_succ, set_zero, set_succ, add_int, add_str, add_lst, lcat_lst, sub_int', neg_int', lt_int', le_int', gt_int', ge_int', mod_int', fdiv_int, mul_int', mul_str', isN_non, isN_int, notN_non, notN_int, eq_int', ne_int', eq_str', ne_str', eq_bl', ne_bl', len_str', len_lst, len_tup, len_scr, max_int, min_int, sl_str', sl_lst, sl_scr, lsl_lst, lsl_scr, ix_str', ix_lst, ix_tup', ix_scr, range1_ok, range2_ok, range3_ok, mMeth_ev, onStr_str, mComp_ev, mCh_ev, wipeE_nil, wipeE_cons, mYes_ev, int_int, int_bl, asW_lst, asW_tup, asW_scr, asW_str, lt_str', le_str', gt_str', ge_str', mRaise_ev, sum_ints, all_bls, any_bls, list_lst, list_tup, list_scr, sorted_ints', g_find_ev, g_find3_ev, g_find4_ev, g_rfind_ev, g_rfind4_ev, g_count_ev, g_count3_ev, g_count4_ev, g_startswith_ev, g_endswith_ev, Int.reduceToNat, List.getD_cons_zero, List.getD_cons_succ, List.length_map, List.length_reverse, Int.zero_mul, Int.mul_zero, Int.add_zero, Int.mul_one, nc0, nc1, nc2, nc3, nc4, nc5, nc6, nc7, nc8, nc9, nc10, nc11, nc12, nc13, List.cons_append, List.nil_append, decide_true, decide_false, not_false_eq_true, not_true_eq_false, mCallR_ev, retLE_rtL, retDE_rt, flatR_bl, flatR_int, flatR_str, flatR_non, flatR_exc, getOwn_own, mMut0_ev, mSetIx_ev, putIx_ok, rev_lst, lrep_ev, if_small, if_small', rngL_len, endS_nx, endS_rt, in_sign, notIn_sign, isN_str, notN_str, isN_tup, notN_tup, isi_int_int, isi_int_bool, isi_bl_bool, isi_bl_int, isi_str_str, isi_tup_tup, isi_lst_lst, isi_non_int, isi_non_tup, _root_.FL.R.ok_bind, _root_.FL.R.exc_bind, _root_.FL.R.stuck_bind, _root_.FL.R.pure_eq, List.append_nil, List.length_cons, List.length_nil, Nat.zero_add, Nat.reduceAdd, Nat.reduceLeDiff, Nat.reduceLT, decide_eq_true_eq, if_true, if_false, ite_true, ite_false, Bool.true_eq_false, Bool.false_eq_true, Bool.not_true, Bool.not_false, reduceIte, Bool.not_eq_true', decide_eq_false_iff_not, Int.toNat_natCast, h2]
    rw [bind_nx]
    rw [targetM_cons]
    by_cases c1 : k ∈ moveS
    · have c1' : k ∈ [104, 108, 106, 107, 98, 101, 119, 118, 111, 103, 122, 112] := c1
      rw [if_pos (.inl c1)]
      simp -implicitDefEqProofs (disch := first | omega | (simp only [List.length_map, List.length_append, List.length_cons, List.length_nil, List.length_take, List.length_drop, repS_len, rngL_len, List.length_range, List.length_reverse]; done) | (simp only [List.length_map, List.length_append, List.length_cons, List.length_nil, List.length_take, List.length_drop, repS_len, rngL_len, List.length_range, List.length_reverse]; omega)) only [mVar_ev, mVarR_ev, getV_val, getR_val, getR_own, mC_ev, mOp_ev, mOpL_ev, mT_ev, asB_bl, mAnd_ev, mOr_ev, mNot_ev, mAndV_ev, mOrV_ev, mNotV_ev, mIf_ev, mNil_ev, mCons_ev, mTup_ev, mLst_ev, mCall_ev, mPn_ev, mPs_ev, asI_int, mSl_ev, mSlL_ev, asL_lst, asL_scr, asTp_tup, asSt_str, R_ite, mWalk_ev, mLe_ev, mNeg_ev, mSeq_ev, mSkip_ev, bind_nx, bind_rt, bind_rtL, bind_bk, bind_ct, bind_ex, bind_ite, lift_ok, lift_exc, lift_ite, mAsg_ev, mAsgL_ev, mDrop_ev, mRet_ev, mRetL_ev, mRetN_ev, mRetOwn_ev, getO_own, mIfS_ev, mSet1_ev, onO_own, onO_val, mAppend_ev, putO_own, mAsgG_ev, optSO_some, gSet_ev, gsNil_ev, gsCons_ev, obind_some, gTupM_1, gTupM_2, gTupM_3, gTupM_4, gTupM_5, gTupM_6, mFor_ev, retD_nx, retD_rt, retD_rtL, retD_ex, retD_ite, retLs_rtL, retLs_ex, retLs_ite, nth_zero, nth_succ, set_zero, set_succ, add_int, add_str, add_lst, lcat_lst, sub_int', neg_int', lt_int', le_int', gt_int', ge_int', mod_int', fdiv_int, mul_int', mul_str', isN_non, isN_int, notN_non, notN_int, eq_int', ne_int', eq_str', ne_str', eq_bl', ne_bl', len_str', len_lst, len_tup, len_scr, max_int, min_int, sl_str', sl_lst, sl_scr, lsl_lst, lsl_scr, ix_str', ix_lst, ix_tup', ix_scr, range1_ok, range2_ok, range3_ok, mMeth_ev, onStr_str, mComp_ev, mCh_ev, wipeE_nil, wipeE_cons, mYes_ev, int_int, int_bl, asW_lst, asW_tup, asW_scr, asW_str, lt_str', le_str', gt_str', ge_str', mRaise_ev, sum_ints, all_bls, any_bls, list_lst, list_tup, list_scr, sorted_ints', g_find_ev, g_find3_ev, g_find4_ev, g_rfind_ev, g_rfind4_ev, g_count_ev, g_count3_ev, g_count4_ev, g_startswith_ev, g_endswith_ev, Int.reduceToNat, List.getD_cons_zero, List.getD_cons_succ, List.length_map, List.length_reverse, Int.zero_mul, Int.mul_zero, Int.add_zero, Int.mul_one, nc0, nc1, nc2, nc3, nc4, nc5, nc6, nc7, nc8, nc9, nc10, nc11, nc12, nc13, List.cons_append, List.nil_append, decide_true, decide_false, not_false_eq_true, not_true_eq_false, mCallR_ev, retLE_rtL, retDE_rt, flatR_bl, flatR_int, flatR_str, flatR_non, flatR_exc, getOwn_own, mMut0_ev, mSetIx_ev, putIx_ok, rev_lst, lrep_ev, if_small, if_small', rngL_len, endS_nx, endS_rt, in_sign, notIn_sign, isN_str, notN_str, isN_tup, notN_tup, isi_int_int, isi_int_bool, isi_bl_bool, isi_bl_int, isi_str_str, isi_tup_tup, isi_lst_lst, isi_non_int, isi_non_tup, _root_.FL.R.ok_bind, _root_.FL.R.exc_bind, _root_.FL.R.stuck_bind, _root_.FL.R.pure_eq, List.append_nil, List.length_cons, List.length_nil, Nat.zero_add, Nat.reduceAdd, Nat.reduceLeDiff, Nat.reduceLT, decide_eq_true_eq, if_true, if_false, ite_true, ite_false, Bool.true_eq_false, Bool.false_eq_true, Bool.not_true, Bool.not_false, reduceIte, Bool.not_eq_true', decide_eq_false_iff_not, c1']
      rfl
    have c1' : ¬ k ∈ [104, 108, 106, 107, 98, 101, 119, 118, 111, 103, 122, 112] := c1
    by_cases c2 : th = true ∧ k ∈ thingS
    · have c2' : k ∈ [99, 97, 105, 114, 40, 91, 123, 41, 93, 125, 39, 34, 115] := c2.2
      rw [if_pos (.inr c2), c2.1]
      simp -implicitDefEqProofs (disch := first | omega | (simp only [List.length_map, List.length_append, List.length_cons, List.length_nil, List.length_take, List.length_drop, repS_len, rngL_len, List.length_range, List.length_reverse]; done) | (simp only [List.length_map, List.length_append, List.length_cons, List.length_nil, List.length_take, List.length_drop, repS_len, rngL_len, List.length_range, List.length_reverse]; omega)) only [mVar_ev, mVarR_ev, getV_val, getR_val, getR_own, mC_ev, mOp_ev, mOpL_ev, mT_ev, asB_bl, mAnd_ev, mOr_ev, mNot_ev, mAndV_ev, mOrV_ev, mNotV_ev, mIf_ev, mNil_ev, mCons_ev, mTup_ev, mLst_ev, mCall_ev, mPn_ev, mPs_ev, asI_int, mSl_ev, mSlL_ev, asL_lst, asL_scr, asTp_tup, asSt_str, R_ite, mWalk_ev, mLe_ev, mNeg_ev, mSeq_ev, mSkip_ev, bind_nx, bind_rt, bind_rtL, bind_bk, bind_ct, bind_ex, bind_ite, lift_ok, lift_exc, lift_ite, mAsg_ev, mAsgL_ev, mDrop_ev, mRet_ev, mRetL_ev, mRetN_ev, mRetOwn_ev, getO_own, mIfS_ev, mSet1_ev, onO_own, onO_val, mAppend_ev, putO_own, mAsgG_ev, optSO_some, gSet_ev, gsNil_ev, gsCons_ev, obind_some, gTupM_1, gTupM_2, gTupM_3, gTupM_4, gTupM_5, gTupM_6, mFor_ev, retD_nx, retD_rt, retD_rtL, retD_ex, retD_ite, retLs_rtL, retLs_ex, retLs_ite, nth_zero, nth_succ, set_zero, set_succ, add_int, add_str, add_lst, lcat_lst, sub_int', neg_int', lt_int', le_int', gt_int', ge_int', mod_int', fdiv_int, mul_int', mul_str', isN_non, isN_int, notN_non, notN_int, eq_int', ne_int', eq_str', ne_str', eq_bl', ne_bl', len_str', len_lst, len_tup, len_scr, max_int, min_int, sl_str', sl_lst, sl_scr, lsl_lst, lsl_scr, ix_str', ix_lst, ix_tup', ix_scr, range1_ok, range2_ok, range3_ok, mMeth_ev, onStr_str, mComp_ev, mCh_ev, wipeE_nil, wipeE_cons, mYes_ev, int_int, int_bl, asW_lst, asW_tup, asW_scr, asW_str, lt_str', le_str', gt_str', ge_str', mRaise_ev, sum_ints, all_bls, any_bls, list_lst, list_tup, list_scr, sorted_ints', g_find_ev, g_find3_ev, g_find4_ev, g_rfind_ev, g_rfind4_ev, g_count_ev, g_count3_ev, g_count4_ev, g_startswith_ev, g_endswith_ev, Int.reduceToNat, List.getD_cons_zero, List.getD_cons_succ, List.length_map, List.length_reverse, Int.zero_mul, Int.mul_zero, Int.add_zero, Int.mul_one, nc0, nc1, nc2, nc3, nc4, nc5, nc6, nc7, nc8, nc9, nc10, nc11, nc12, nc13, List.cons_append, List.nil_append, decide_true, decide_false, not_false_eq_true, not_true_eq_false, mCallR_ev, retLE_rtL, retDE_rt, flatR_bl, flatR_int, flatR_str, flatR_non, flatR_exc, getOwn_own, mMut0_ev, mSetIx_ev, putIx_ok, rev_lst, lrep_ev, if_small, if_small', rngL_len, endS_nx, endS_rt, in_sign, notIn_sign, isN_str, notN_str, isN_tup, notN_tup, isi_int_int, isi_int_bool, isi_bl_bool, isi_bl_int, isi_str_str, isi_tup_tup, isi_lst_lst, isi_non_int, isi_non_tup, _root_.FL.R.ok_bind, _root_.FL.R.exc_bind, _root_.FL.R.stuck_bind, _root_.FL.R.pure_eq, List.append_nil, List.length_cons, List.length_nil, Nat.zero_add, Nat.reduceAdd, Nat.reduceLeDiff, Nat.reduceLT, decide_eq_true_eq, if_true, if_false, ite_true, ite_false, Bool.true_eq_false, Bool.false_eq_true, Bool.not_true, Bool.not_false, reduceIte, Bool.not_eq_true', decide_eq_false_iff_not, c1', c2']
      rfl
    · rw [if_neg (fun z => z.elim c1 c2)]
      have st : ∀ x4, (mOr (mT (mOp D.in_ (mVar 3) (mC (.str [104, 108, 106, 107, 98, 101, 119, 118, 111, 103, 122, 112])))) (mAnd (mT (mVar 2)) (mT (mOp D.in_ (mVar 3) (mC (.str [99, 97, 105, 114, 40, 91, 123, 41, 93, 125, 39, 34, 115])))))) [.val (.str ks), .val (.int at_), .val (.bl th), .val (.str [k]), x4] = .ok false := fun x4 => by
        cases th with
        | true =>
          have c2' : ¬ k ∈ [99, 97, 105, 114, 40, 91, 123, 41, 93, 125, 39, 34, 115] := fun z => c2 ⟨rfl, z⟩
          simp -implicitDefEqProofs (disch := first | omega | (simp only [List.length_map, List.length_append, List.length_cons, List.length_nil, List.length_take, List.length_drop, repS_len, rngL_len, List.length_range, List.length_reverse]; done) | (simp only [List.length_map, List.length_append, List.length_cons, List.length_nil, List.length_take, List.length_drop, repS_len, rngL_len, List.length_range, List.length_reverse]; omega)) only [mVar_ev, mVarR_ev, getV_val, getR_val, getR_own, mC_ev, mOp_ev, mOpL_ev, mT_ev, asB_bl, mAnd_ev, mOr_ev, mNot_ev, mAndV_ev, mOrV_ev, mNotV_ev, mIf_ev, mNil_ev, mCons_ev, mTup_ev, mLst_ev, mCall_ev, mPn_ev, mPs_ev, asI_int, mSl_ev, mSlL_ev, asL_lst, asL_scr, asTp_tup, asSt_str, R_ite, mWalk_ev, mLe_ev, mNeg_ev, mSeq_ev, mSkip_ev, bind_nx, bind_rt, bind_rtL, bind_bk, bind_ct, bind_ex, bind_ite, lift_ok, lift_exc, lift_ite, mAsg_ev, mAsgL_ev, mDrop_ev, mRet_ev, mRetL_ev, mRetN_ev, mRetOwn_ev, getO_own, mIfS_ev, mSet1_ev, onO_own, onO_val, mAppend_ev, putO_own, mAsgG_ev, optSO_some, gSet_ev, gsNil_ev, gsCons_ev, obind_some, gTupM_1, gTupM_2, gTupM_3, gTupM_4, gTupM_5, gTupM_6, mFor_ev, retD_nx, retD_rt, retD_rtL, retD_ex, retD_ite, retLs_rtL, retLs_ex, retLs_ite, nth_zero, nth_succ, set_zero, set_succ, add_int, add_str, add_lst, lcat_lst, sub_int', neg_int', lt_int', le_int', gt_int', ge_int', mod_int', fdiv_int, mul_int', mul_str', isN_non, isN_int, notN_non, notN_int, eq_int', ne_int', eq_str', ne_str', eq_bl', ne_bl', len_str', len_lst, len_tup, len_scr, max_int, min_int, sl_str', sl_lst, sl_scr, lsl_lst, lsl_scr, ix_str', ix_lst, ix_tup', ix_scr, range1_ok, range2_ok, range3_ok, mMeth_ev, onStr_str, mComp_ev, mCh_ev, wipeE_nil, wipeE_cons, mYes_ev, int_int, int_bl, asW_lst, asW_tup, asW_scr, asW_str, lt_str', le_str', gt_str', ge_str', mRaise_ev, sum_ints, all_bls, any_bls, list_lst, list_tup, list_scr, sorted_ints', g_find_ev, g_find3_ev, g_find4_ev, g_rfind_ev, g_rfind4_ev, g_count_ev, g_count3_ev, g_count4_ev, g_startswith_ev, g_endswith_ev, Int.reduceToNat, List.getD_cons_zero, List.getD_cons_succ, List.length_map, List.length_reverse, Int.zero_mul, Int.mul_zero, Int.add_zero, Int.mul_one, nc0, nc1, nc2, nc3, nc4, nc5, nc6, nc7, nc8, nc9, nc10, nc11, nc12, nc13, List.cons_append, List.nil_append, decide_true, decide_false, not_false_eq_true, not_true_eq_false, mCallR_ev, retLE_rtL, retDE_rt, flatR_bl, flatR_int, flatR_str, flatR_non, flatR_exc, getOwn_own, mMut0_ev, mSetIx_ev, putIx_ok, rev_lst, lrep_ev, if_small, if_small', rngL_len, endS_nx, endS_rt, in_sign, notIn_sign, isN_str, notN_str, isN_tup, notN_tup, isi_int_int, isi_int_bool, isi_bl_bool, isi_bl_int, isi_str_str, isi_tup_tup, isi_lst_lst, isi_non_int, isi_non_tup, _root_.FL.R.ok_bind, _root_.FL.R.exc_bind, _root_.FL.R.stuck_bind, _root_.FL.R.pure_eq, List.append_nil, List.length_cons, List.length_nil, Nat.zero_add, Nat.reduceAdd, Nat.reduceLeDiff, Nat.reduceLT, decide_eq_true_eq, if_true, if_false, ite_true, ite_false, Bool.true_eq_false, Bool.false_eq_true, Bool.not_true, Bool.not_false, reduceIte, Bool.not_eq_true', decide_eq_false_iff_not, c1', c2']
        | false => simp -implicitDefEqProofs (disch := first | omega | (simp only [List.length_map, List.length_append, List.length_cons, List.length_nil, List.length_take, List.length_drop, repS_len, rngL_len, List.length_range, List.length_reverse]; done) | (simp only [List.length_map, List.length_append, List.length_cons, List.length_nil, List.length_take, List.length_drop, repS_len, rngL_len, List.length_range, List.length_reverse]; omega)) only [mVar_ev, mVarR_ev, getV_val, getR_val, getR_own, mC_ev, mOp_ev, mOpL_ev, mT_ev, asB_bl, mAnd_ev, mOr_ev, mNot_ev, mAndV_ev, mOrV_ev, mNotV_ev, mIf_ev, mNil_ev, mCons_ev, mTup_ev, mLst_ev, mCall_ev, mPn_ev, mPs_ev, asI_int, mSl_ev, mSlL_ev, asL_lst, asL_scr, asTp_tup, asSt_str, R_ite, mWalk_ev, mLe_ev, mNeg_ev, mSeq_ev, mSkip_ev, bind_nx, bind_rt, bind_rtL, bind_bk, bind_ct, bind_ex, bind_ite, lift_ok, lift_exc, lift_ite, mAsg_ev, mAsgL_ev, mDrop_ev, mRet_ev, mRetL_ev, mRetN_ev, mRetOwn_ev, getO_own, mIfS_ev, mSet1_ev, onO_own, onO_val, mAppend_ev, putO_own, mAsgG_ev, optSO_some, gSet_ev, gsNil_ev, gsCons_ev, obind_some, gTupM_1, gTupM_2, gTupM_3, gTupM_4, gTupM_5, gTupM_6, mFor_ev, retD_nx, retD_rt, retD_rtL, retD_ex, retD_ite, retLs_rtL, retLs_ex, retLs_ite, nth_zero, nth_succ, set_zero, set_succ, add_int, add_str, add_lst, lcat_lst, sub_int', neg_int', lt_int', le_int', gt_int', ge_int', mod_int', fdiv_int, mul_int', mul_str', isN_non, isN_int, notN_non, notN_int, eq_int', ne_int', eq_str', ne_str', eq_bl', ne_bl', len_str', len_lst, len_tup, len_scr, max_int, min_int, sl_str', sl_lst, sl_scr, lsl_lst, lsl_scr, ix_str', ix_lst, ix_tup', ix_scr, range1_ok, range2_ok, range3_ok, mMeth_ev, onStr_str, mComp_ev, mCh_ev, wipeE_nil, wipeE_cons, mYes_ev, int_int, int_bl, asW_lst, asW_tup, asW_scr, asW_str, lt_str', le_str', gt_str', ge_str', mRaise_ev, sum_ints, all_bls, any_bls, list_lst, list_tup, list_scr, sorted_ints', g_find_ev, g_find3_ev, g_find4_ev, g_rfind_ev, g_rfind4_ev, g_count_ev, g_count3_ev, g_count4_ev, g_startswith_ev, g_endswith_ev, Int.reduceToNat, List.getD_cons_zero, List.getD_cons_succ, List.length_map, List.length_reverse, Int.zero_mul, Int.mul_zero, Int.add_zero, Int.mul_one, nc0, nc1, nc2, nc3, nc4, nc5, nc6, nc7, nc8, nc9, nc10, nc11, nc12, nc13, List.cons_append, List.nil_append, decide_true, decide_false, not_false_eq_true, not_true_eq_false, mCallR_ev, retLE_rtL, retDE_rt, flatR_bl, flatR_int, flatR_str, flatR_non, flatR_exc, getOwn_own, mMut0_ev, mSetIx_ev, putIx_ok, rev_lst, lrep_ev, if_small, if_small', rngL_len, endS_nx, endS_rt, in_sign, notIn_sign, isN_str, notN_str, isN_tup, notN_tup, isi_int_int, isi_int_bool, isi_bl_bool, isi_bl_int, isi_str_str, isi_tup_tup, isi_lst_lst, isi_non_int, isi_non_tup, _root_.FL.R.ok_bind, _root_.FL.R.exc_bind, _root_.FL.R.stuck_bind, _root_.FL.R.pure_eq, List.append_nil, List.length_cons, List.length_nil, Nat.zero_add, Nat.reduceAdd, Nat.reduceLeDiff, Nat.reduceLT, decide_eq_true_eq, if_true, if_false, ite_true, ite_false, Bool.true_eq_false, Bool.false_eq_true, Bool.not_true, Bool.not_false, reduceIte, Bool.not_eq_true', decide_eq_false_iff_not, c1']
      rw [mSeq_ev, mIfS_ev, st]
      simp -implicitDefEqProofs (disch := first | omega | (simp only [List.length_map, List.length_append, List.length_cons, List.length_nil, List.length_take, List.length_drop, repS_len, rngL_len, List.length_range, List.length_reverse]; done) | (simp only [List.length_map, List.length_append, List.length_cons, List.length_nil, List.length_take, List.length_drop, repS_len, rngL_len, List.length_range, List.length_reverse]; omega)) only [mVar_ev, mVarR_ev, getV_val, getR_val, getR_own, mC_ev, mOp_ev, mOpL_ev, mT_ev, asB_bl, mAnd_ev, mOr_ev, mNot_ev, mAndV_ev, mOrV_ev, mNotV_ev, mIf_ev, mNil_ev, mCons_ev, mTup_ev, mLst_ev, mCall_ev, mPn_ev, mPs_ev, asI_int, mSl_ev, mSlL_ev, asL_lst, asL_scr, asTp_tup, asSt_str, R_ite, mWalk_ev, mLe_ev, mNeg_ev, mSeq_ev, mSkip_ev, bind_rt, bind_rtL, bind_bk, bind_ct, bind_ex, bind_ite, lift_ok, lift_exc, lift_ite, mAsg_ev, mAsgL_ev, mDrop_ev, mRet_ev, mRetL_ev, mRetN_ev, mRetOwn_ev, getO_own, mIfS_ev, mSet1_ev, onO_own, onO_val, mAppend_ev, putO_own, mAsgG_ev, optSO_some, gSet_ev, gsNil_ev, gsCons_ev, obind_some, gTupM_1, gTupM_2, gTupM_3, gTupM_4, gTupM_5, gTupM_6, mFor_ev, retD_nx, retD_rt, retD_rtL, retD_ex, retD_ite, retLs_rtL, retLs_ex, retLs_ite, nth_zero, nth_succ, set_zero, set_succ, add_int, add_str, add_lst, lcat_lst, sub_int', neg_int', lt_int', le_int', gt_int', ge_int', mod_int', fdiv_int, mul_int', mul_str', isN_non, isN_int, notN_non, notN_int, eq_int', ne_int', eq_str', ne_str', eq_bl', ne_bl', len_str', len_lst, len_tup, len_scr, max_int, min_int, sl_str', sl_lst, sl_scr, lsl_lst, lsl_scr, ix_str', ix_lst, ix_tup', ix_scr, range1_ok, range2_ok, range3_ok, mMeth_ev, onStr_str, mComp_ev, mCh_ev, wipeE_nil, wipeE_cons, mYes_ev, int_int, int_bl, asW_lst, asW_tup, asW_scr, asW_str, lt_str', le_str', gt_str', ge_str', mRaise_ev, sum_ints, all_bls, any_bls, list_lst, list_tup, list_scr, sorted_ints', g_find_ev, g_find3_ev, g_find4_ev, g_rfind_ev, g_rfind4_ev, g_count_ev, g_count3_ev, g_count4_ev, g_startswith_ev, g_endswith_ev, Int.reduceToNat, List.getD_cons_zero, List.getD_cons_succ, List.length_map, List.length_reverse, Int.zero_mul, Int.mul_zero, Int.add_zero, Int.mul_one, nc0, nc1, nc2, nc3, nc4, nc5, nc6, nc7, nc8, nc9, nc10, nc11, nc12, nc13, List.cons_append, List.nil_append, decide_true, decide_false, not_false_eq_true, not_true_eq_false, mCallR_ev, retLE_rtL, retDE_rt, flatR_bl, flatR_int, flatR_str, flatR_non, flatR_exc, getOwn_own, mMut0_ev, mSetIx_ev, putIx_ok, rev_lst, lrep_ev, if_small, if_small', rngL_len, endS_nx, endS_rt, in_sign, notIn_sign, isN_str, notN_str, isN_tup, notN_tup, isi_int_int, isi_int_bool, isi_bl_bool, isi_bl_int, isi_str_str, isi_tup_tup, isi_lst_lst, isi_non_int, isi_non_tup, _root_.FL.R.ok_bind, _root_.FL.R.exc_bind, _root_.FL.R.stuck_bind, _root_.FL.R.pure_eq, List.append_nil, List.length_cons, List.length_nil, Nat.zero_add, Nat.reduceAdd, Nat.reduceLeDiff, Nat.reduceLT, decide_eq_true_eq, if_true, if_false, ite_true, ite_false, Bool.true_eq_false, Bool.false_eq_true, Bool.not_true, Bool.not_false, reduceIte, Bool.not_eq_true', decide_eq_false_iff_not]
      rw [bind_nx]
      by_cases c3 : k ∈ [102, 116, 109]
      · have c3' : ¬ k ∉ [102, 116, 109] := fun z => z c3
        rw [if_neg c3']
        match r, h3 with
        | [], h3 =>
          have q2 : (at_ : Int) + 1 = ks.length := by have := dr0 h3; omega
          simp -implicitDefEqProofs (disch := first | omega | (simp only [List.length_map, List.length_append, List.length_cons, List.length_nil, List.length_take, List.length_drop, repS_len, rngL_len, List.length_range, List.length_reverse]; done) | (simp only [List.length_map, List.length_append, List.length_cons, List.length_nil, List.length_take, List.length_drop, repS_len, rngL_len, List.length_range, List.length_reverse]; omega)) only [mVar_ev, mVarR_ev, getV_val, getR_val, getR_own, mC_ev, mOp_ev, mOpL_ev, mT_ev, asB_bl, mAnd_ev, mOr_ev, mNot_ev, mAndV_ev, mOrV_ev, mNotV_ev, mIf_ev, mNil_ev, mCons_ev, mTup_ev, mLst_ev, mCall_ev, mPn_ev, mPs_ev, asI_int, mSl_ev, mSlL_ev, asL_lst, asL_scr, asTp_tup, asSt_str, R_ite, mWalk_ev, mLe_ev, mNeg_ev, mSeq_ev, mSkip_ev, bind_nx, bind_rt, bind_rtL, bind_bk, bind_ct, bind_ex, bind_ite, lift_ok, lift_exc, lift_ite, mAsg_ev, mAsgL_ev, mDrop_ev, mRet_ev, mRetL_ev, mRetN_ev, mRetOwn_ev, getO_own, mIfS_ev, mSet1_ev, onO_own, onO_val, mAppend_ev, putO_own, mAsgG_ev, optSO_some, gSet_ev, gsNil_ev, gsCons_ev, obind_some, gTupM_1, gTupM_2, gTupM_3, gTupM_4, gTupM_5, gTupM_6, mFor_ev, retD_nx, retD_rt, retD_rtL, retD_ex, retD_ite, retLs_rtL, retLs_ex, retLs_ite, nth_zero, nth_succ, set_zero, set_succ, add_int, add_str, add_lst, lcat_lst, sub_int', neg_int', lt_int', le_int', gt_int', ge_int', mod_int', fdiv_int, mul_int', mul_str', isN_non, isN_int, notN_non, notN_int, eq_int', ne_int', eq_str', ne_str', eq_bl', ne_bl', len_str', len_lst, len_tup, len_scr, max_int, min_int, sl_str', sl_lst, sl_scr, lsl_lst, lsl_scr, ix_str', ix_lst, ix_tup', ix_scr, range1_ok, range2_ok, range3_ok, mMeth_ev, onStr_str, mComp_ev, mCh_ev, wipeE_nil, wipeE_cons, mYes_ev, int_int, int_bl, asW_lst, asW_tup, asW_scr, asW_str, lt_str', le_str', gt_str', ge_str', mRaise_ev, sum_ints, all_bls, any_bls, list_lst, list_tup, list_scr, sorted_ints', g_find_ev, g_find3_ev, g_find4_ev, g_rfind_ev, g_rfind4_ev, g_count_ev, g_count3_ev, g_count4_ev, g_startswith_ev, g_endswith_ev, Int.reduceToNat, List.getD_cons_zero, List.getD_cons_succ, List.length_map, List.length_reverse, Int.zero_mul, Int.mul_zero, Int.add_zero, Int.mul_one, nc0, nc1, nc2, nc3, nc4, nc5, nc6, nc7, nc8, nc9, nc10, nc11, nc12, nc13, List.cons_append, List.nil_append, decide_true, decide_false, not_false_eq_true, not_true_eq_false, mCallR_ev, retLE_rtL, retDE_rt, flatR_bl, flatR_int, flatR_str, flatR_non, flatR_exc, getOwn_own, mMut0_ev, mSetIx_ev, putIx_ok, rev_lst, lrep_ev, if_small, if_small', rngL_len, endS_nx, endS_rt, in_sign, notIn_sign, isN_str, notN_str, isN_tup, notN_tup, isi_int_int, isi_int_bool, isi_bl_bool, isi_bl_int, isi_str_str, isi_tup_tup, isi_lst_lst, isi_non_int, isi_non_tup, _root_.FL.R.ok_bind, _root_.FL.R.exc_bind, _root_.FL.R.stuck_bind, _root_.FL.R.pure_eq, List.append_nil, List.length_cons, List.length_nil, Nat.zero_add, Nat.reduceAdd, Nat.reduceLeDiff, Nat.reduceLT, decide_eq_true_eq, if_true, if_false, ite_true, ite_false, Bool.true_eq_false, Bool.false_eq_true, Bool.not_true, Bool.not_false, reduceIte, Bool.not_eq_true', decide_eq_false_iff_not, c3, q2]
          rfl
        | s :: r', h3 =>
          obtain ⟨g1, g2, g3⟩ := dr h3
          have q2 : ¬ (at_ : Int) + 1 = ks.length := by omega
          have n1 : ((at_ : Int) + 1).toNat = at_ + 1 := by omega
          simp -implicitDefEqProofs (disch := first | omega | (simp only [List.length_map, List.length_append, List.length_cons, List.length_nil, List.length_take, List.length_drop, repS_len, rngL_len, List.length_range, List.length_reverse]; done) | (simp only [List.length_map, List.length_append, List.length_cons, List.length_nil, List.length_take, List.length_drop, repS_len, rngL_len, List.length_range, List.length_reverse]; omega)) only [mVar_ev, mVarR_ev, getV_val, getR_val, getR_own, mC_ev, mOp_ev, mOpL_ev, mT_ev, asB_bl, mAnd_ev, mOr_ev, mNot_ev, mAndV_ev, mOrV_ev, mNotV_ev, mIf_ev, mNil_ev, mCons_ev, mTup_ev, mLst_ev, mCall_ev, mPn_ev, mPs_ev, asI_int, mSl_ev, mSlL_ev, asL_lst, asL_scr, asTp_tup, asSt_str, R_ite, mWalk_ev, mLe_ev, mNeg_ev, mSeq_ev, mSkip_ev, bind_rt, bind_rtL, bind_bk, bind_ct, bind_ex, bind_ite, lift_ok, lift_exc, lift_ite, mAsg_ev, mAsgL_ev, mDrop_ev, mRet_ev, mRetL_ev, mRetN_ev, mRetOwn_ev, getO_own, mIfS_ev, mSet1_ev, onO_own, onO_val, mAppend_ev, putO_own, mAsgG_ev, optSO_some, gSet_ev, gsNil_ev, gsCons_ev, obind_some, gTupM_1, gTupM_2, gTupM_3, gTupM_4, gTupM_5, gTupM_6, mFor_ev, retD_nx, retD_rt, retD_rtL, retD_ex, retD_ite, retLs_rtL, retLs_ex, retLs_ite, nth_zero, nth_succ, set_zero, set_succ, add_int, add_str, add_lst, lcat_lst, sub_int', neg_int', lt_int', le_int', gt_int', ge_int', mod_int', fdiv_int, mul_int', mul_str', isN_non, isN_int, notN_non, notN_int, eq_int', ne_int', eq_str', ne_str', eq_bl', ne_bl', len_str', len_lst, len_tup, len_scr, max_int, min_int, sl_str', sl_lst, sl_scr, lsl_lst, lsl_scr, ix_str', ix_lst, ix_tup', ix_scr, range1_ok, range2_ok, range3_ok, mMeth_ev, onStr_str, mComp_ev, mCh_ev, wipeE_nil, wipeE_cons, mYes_ev, int_int, int_bl, asW_lst, asW_tup, asW_scr, asW_str, lt_str', le_str', gt_str', ge_str', mRaise_ev, sum_ints, all_bls, any_bls, list_lst, list_tup, list_scr, sorted_ints', g_find_ev, g_find3_ev, g_find4_ev, g_rfind_ev, g_rfind4_ev, g_count_ev, g_count3_ev, g_count4_ev, g_startswith_ev, g_endswith_ev, Int.reduceToNat, List.getD_cons_zero, List.getD_cons_succ, List.length_map, List.length_reverse, Int.zero_mul, Int.mul_zero, Int.add_zero, Int.mul_one, nc0, nc1, nc2, nc3, nc4, nc5, nc6, nc7, nc8, nc9, nc10, nc11, nc12, nc13, List.cons_append, List.nil_append, decide_true, decide_false, not_false_eq_true, not_true_eq_false, mCallR_ev, retLE_rtL, retDE_rt, flatR_bl, flatR_int, flatR_str, flatR_non, flatR_exc, getOwn_own, mMut0_ev, mSetIx_ev, putIx_ok, rev_lst, lrep_ev, if_small, if_small', rngL_len, endS_nx, endS_rt, in_sign, notIn_sign, isN_str, notN_str, isN_tup, notN_tup, isi_int_int, isi_int_bool, isi_bl_bool, isi_bl_int, isi_str_str, isi_tup_tup, isi_lst_lst, isi_non_int, isi_non_tup, _root_.FL.R.ok_bind, _root_.FL.R.exc_bind, _root_.FL.R.stuck_bind, _root_.FL.R.pure_eq, List.append_nil, List.length_cons, List.length_nil, Nat.zero_add, Nat.reduceAdd, Nat.reduceLeDiff, Nat.reduceLT, decide_eq_true_eq, if_true, if_false, ite_true, ite_false, Bool.true_eq_false, Bool.false_eq_true, Bool.not_true, Bool.not_false, reduceIte, Bool.not_eq_true', decide_eq_false_iff_not, c3]
          rw [bind_nx]
          simp -implicitDefEqProofs (disch := first | omega | (simp only [List.length_map, List.length_append, List.length_cons, List.length_nil, List.length_take, List.length_drop, repS_len, rngL_len, List.length_range, List.length_reverse]; done) | (simp only [List.length_map, List.length_append, List.length_cons, List.length_nil, List.length_take, List.length_drop, repS_len, rngL_len, List.length_range, List.length_reverse]; omega)) only [mVar_ev, mVarR_ev, getV_val, getR_val, getR_own, mC_ev, mOp_ev, mOpL_ev, mT_ev, asB_bl, mAnd_ev, mOr_ev, mNot_ev, mAndV_ev, mOrV_ev, mNotV_ev, mIf_ev, mNil_ev, mCons_ev, mTup_ev, mLst_ev, mCall_ev, mPn_ev, mPs_ev, asI_int, mSl_ev, mSlL_ev, asL_lst, asL_scr, asTp_tup, asSt_str, R_ite, mWalk_ev, mLe_ev, mNeg_ev, mSeq_ev, mSkip_ev, bind_rt, bind_rtL, bind_bk, bind_ct, bind_ex, bind_ite, lift_ok, lift_exc, lift_ite, mAsg_ev, mAsgL_ev, mDrop_ev, mRet_ev, mRetL_ev, mRetN_ev, mRetOwn_ev, getO_own, mIfS_ev, mSet1_ev, onO_own, onO_val, mAppend_ev, putO_own, mAsgG_ev, optSO_some, gSet_ev, gsNil_ev, gsCons_ev, obind_some, gTupM_1, gTupM_2, gTupM_3, gTupM_4, gTupM_5, gTupM_6, mFor_ev, retD_nx, retD_rt, retD_rtL, retD_ex, retD_ite, retLs_rtL, retLs_ex, retLs_ite, nth_zero, nth_succ, set_zero, set_succ, add_int, add_str, add_lst, lcat_lst, sub_int', neg_int', lt_int', le_int', gt_int', ge_int', mod_int', fdiv_int, mul_int', mul_str', isN_non, isN_int, notN_non, notN_int, eq_int', ne_int', eq_str', ne_str', eq_bl', ne_bl', len_str', len_lst, len_tup, len_scr, max_int, min_int, sl_str', sl_lst, sl_scr, lsl_lst, lsl_scr, ix_str', ix_lst, ix_tup', ix_scr, range1_ok, range2_ok, range3_ok, mMeth_ev, onStr_str, mComp_ev, mCh_ev, wipeE_nil, wipeE_cons, mYes_ev, int_int, int_bl, asW_lst, asW_tup, asW_scr, asW_str, lt_str', le_str', gt_str', ge_str', mRaise_ev, sum_ints, all_bls, any_bls, list_lst, list_tup, list_scr, sorted_ints', g_find_ev, g_find3_ev, g_find4_ev, g_rfind_ev, g_rfind4_ev, g_count_ev, g_count3_ev, g_count4_ev, g_startswith_ev, g_endswith_ev, Int.reduceToNat, List.getD_cons_zero, List.getD_cons_succ, List.length_map, List.length_reverse, Int.zero_mul, Int.mul_zero, Int.add_zero, Int.mul_one, nc0, nc1, nc2, nc3, nc4, nc5, nc6, nc7, nc8, nc9, nc10, nc11, nc12, nc13, List.cons_append, List.nil_append, decide_true, decide_false, not_false_eq_true, not_true_eq_false, mCallR_ev, retLE_rtL, retDE_rt, flatR_bl, flatR_int, flatR_str, flatR_non, flatR_exc, getOwn_own, mMut0_ev, mSetIx_ev, putIx_ok, rev_lst, lrep_ev, if_small, if_small', rngL_len, endS_nx, endS_rt, in_sign, notIn_sign, isN_str, notN_str, isN_tup, notN_tup, isi_int_int, isi_int_bool, isi_bl_bool, isi_bl_int, isi_str_str, isi_tup_tup, isi_lst_lst, isi_non_int, isi_non_tup, _root_.FL.R.ok_bind, _root_.FL.R.exc_bind, _root_.FL.R.stuck_bind, _root_.FL.R.pure_eq, List.append_nil, List.length_cons, List.length_nil, Nat.zero_add, Nat.reduceAdd, Nat.reduceLeDiff, Nat.reduceLT, decide_eq_true_eq, if_true, if_false, ite_true, ite_false, Bool.true_eq_false, Bool.false_eq_true, Bool.not_true, Bool.not_false, reduceIte, Bool.not_eq_true', decide_eq_false_iff_not, q2]
          rw [bind_nx]
          simp -implicitDefEqProofs (disch := first | omega | (simp only [List.length_map, List.length_append, List.length_cons, List.length_nil, List.length_take, List.length_drop, repS_len, rngL_len, List.length_range, List.length_reverse]; done) | (simp only [List.length_map, List.length_append, List.length_cons, List.length_nil, List.length_take, List.length_drop, repS_len, rngL_len, List.length_range, List.length_reverse]; omega)) only [mVar_ev, mVarR_ev, getV_val, getR_val, getR_own, mC_ev, mOp_ev, mOpL_ev, mT_ev, asB_bl, mAnd_ev, mOr_ev, mNot_ev, mAndV_ev, mOrV_ev, mNotV_ev, mIf_ev, mNil_ev, mCons_ev, mTup_ev, mLst_ev, mCall_ev, mPn_ev, mPs_ev, asI_int, mSl_ev, mSlL_ev, asL_lst, asL_scr, asTp_tup, asSt_str, R_ite, mWalk_ev, mLe_ev, mNeg_ev, mSeq_ev, mSkip_ev, bind_rt, bind_rtL, bind_bk, bind_ct, bind_ex, bind_ite, lift_ok, lift_exc, lift_ite, mAsg_ev, mAsgL_ev, mDrop_ev, mRet_ev, mRetL_ev, mRetN_ev, mRetOwn_ev, getO_own, mIfS_ev, mSet1_ev, onO_own, onO_val, mAppend_ev, putO_own, mAsgG_ev, optSO_some, gSet_ev, gsNil_ev, gsCons_ev, obind_some, gTupM_1, gTupM_2, gTupM_3, gTupM_4, gTupM_5, gTupM_6, mFor_ev, retD_nx, retD_rt, retD_rtL, retD_ex, retD_ite, retLs_rtL, retLs_ex, retLs_ite, nth_zero, nth_succ, set_zero, set_succ, add_int, add_str, add_lst, lcat_lst, sub_int', neg_int', lt_int', le_int', gt_int', ge_int', mod_int', fdiv_int, mul_int', mul_str', isN_non, isN_int, notN_non, notN_int, eq_int', ne_int', eq_str', ne_str', eq_bl', ne_bl', len_str', len_lst, len_tup, len_scr, max_int, min_int, sl_str', sl_lst, sl_scr, lsl_lst, lsl_scr, ix_str', ix_lst, ix_tup', ix_scr, range1_ok, range2_ok, range3_ok, mMeth_ev, onStr_str, mComp_ev, mCh_ev, wipeE_nil, wipeE_cons, mYes_ev, int_int, int_bl, asW_lst, asW_tup, asW_scr, asW_str, lt_str', le_str', gt_str', ge_str', mRaise_ev, sum_ints, all_bls, any_bls, list_lst, list_tup, list_scr, sorted_ints', g_find_ev, g_find3_ev, g_find4_ev, g_rfind_ev, g_rfind4_ev, g_count_ev, g_count3_ev, g_count4_ev, g_startswith_ev, g_endswith_ev, Int.reduceToNat, List.getD_cons_zero, List.getD_cons_succ, List.length_map, List.length_reverse, Int.zero_mul, Int.mul_zero, Int.add_zero, Int.mul_one, nc0, nc1, nc2, nc3, nc4, nc5, nc6, nc7, nc8, nc9, nc10, nc11, nc12, nc13, List.cons_append, List.nil_append, decide_true, decide_false, not_false_eq_true, not_true_eq_false, mCallR_ev, retLE_rtL, retDE_rt, flatR_bl, flatR_int, flatR_str, flatR_non, flatR_exc, getOwn_own, mMut0_ev, mSetIx_ev, putIx_ok, rev_lst, lrep_ev, if_small, if_small', rngL_len, endS_nx, endS_rt, in_sign, notIn_sign, isN_str, notN_str, isN_tup, notN_tup, isi_int_int, isi_int_bool, isi_bl_bool, isi_bl_int, isi_str_str, isi_tup_tup, isi_lst_lst, isi_non_int, isi_non_tup, _root_.FL.R.ok_bind, _root_.FL.R.exc_bind, _root_.FL.R.stuck_bind, _root_.FL.R.pure_eq, List.append_nil, List.length_cons, List.length_nil, Nat.zero_add, Nat.reduceAdd, Nat.reduceLeDiff, Nat.reduceLT, decide_eq_true_eq, if_true, if_false, ite_true, ite_false, Bool.true_eq_false, Bool.false_eq_true, Bool.not_true, Bool.not_false, reduceIte, Bool.not_eq_true', decide_eq_false_iff_not, n1, g2]
          rw [bind_nx]
          show _ = R.ok (tD D.str at_ (if (k = 109 ∧ s ∈ letS) ∨ (k ≠ 109 ∧ isSg s = true) then .told [k, s] 2 else .non 2))
          by_cases c4 : k = 109
          · subst c4
            by_cases c5 : s ∈ letS
            · have c5' : s ∈ ks_c3fcd3 := c5
              rw [if_pos (.inl ⟨rfl, c5⟩)]
              simp -implicitDefEqProofs (disch := first | omega | (simp only [List.length_map, List.length_append, List.length_cons, List.length_nil, List.length_take, List.length_drop, repS_len, rngL_len, List.length_range, List.length_reverse]; done) | (simp only [List.length_map, List.length_append, List.length_cons, List.length_nil, List.length_take, List.length_drop, repS_len, rngL_len, List.length_range, List.length_reverse]; omega)) only [mVar_ev, mVarR_ev, getV_val, getR_val, getR_own, mC_ev, mOp_ev, mOpL_ev, mT_ev, asB_bl, mAnd_ev, mOr_ev, mNot_ev, mAndV_ev, mOrV_ev, mNotV_ev, mIf_ev, mNil_ev, mCons_ev, mTup_ev, mLst_ev, mCall_ev, mPn_ev, mPs_ev, asI_int, mSl_ev, mSlL_ev, asL_lst, asL_scr, asTp_tup, asSt_str, R_ite, mWalk_ev, mLe_ev, mNeg_ev, mSeq_ev, mSkip_ev, bind_nx, bind_rt, bind_rtL, bind_bk, bind_ct, bind_ex, bind_ite, lift_ok, lift_exc, lift_ite, mAsg_ev, mAsgL_ev, mDrop_ev, mRet_ev, mRetL_ev, mRetN_ev, mRetOwn_ev, getO_own, mIfS_ev, mSet1_ev, onO_own, onO_val, mAppend_ev, putO_own, mAsgG_ev, optSO_some, gSet_ev, gsNil_ev, gsCons_ev, obind_some, gTupM_1, gTupM_2, gTupM_3, gTupM_4, gTupM_5, gTupM_6, mFor_ev, retD_nx, retD_rt, retD_rtL, retD_ex, retD_ite, retLs_rtL, retLs_ex, retLs_ite, nth_zero, nth_succ, set_zero, set_succ, add_int, add_str, add_lst, lcat_lst, sub_int', neg_int', lt_int', le_int', gt_int', ge_int', mod_int', fdiv_int, mul_int', mul_str', isN_non, isN_int, notN_non, notN_int, eq_int', ne_int', eq_str', ne_str', eq_bl', ne_bl', len_str', len_lst, len_tup, len_scr, max_int, min_int, sl_str', sl_lst, sl_scr, lsl_lst, lsl_scr, ix_str', ix_lst, ix_tup', ix_scr, range1_ok, range2_ok, range3_ok, mMeth_ev, onStr_str, mComp_ev, mCh_ev, wipeE_nil, wipeE_cons, mYes_ev, int_int, int_bl, asW_lst, asW_tup, asW_scr, asW_str, lt_str', le_str', gt_str', ge_str', mRaise_ev, sum_ints, all_bls, any_bls, list_lst, list_tup, list_scr, sorted_ints', g_find_ev, g_find3_ev, g_find4_ev, g_rfind_ev, g_rfind4_ev, g_count_ev, g_count3_ev, g_count4_ev, g_startswith_ev, g_endswith_ev, Int.reduceToNat, List.getD_cons_zero, List.getD_cons_succ, List.length_map, List.length_reverse, Int.zero_mul, Int.mul_zero, Int.add_zero, Int.mul_one, nc0, nc1, nc2, nc3, nc4, nc5, nc6, nc7, nc8, nc9, nc10, nc11, nc12, nc13, List.cons_append, List.nil_append, decide_true, decide_false, not_false_eq_true, not_true_eq_false, mCallR_ev, retLE_rtL, retDE_rt, flatR_bl, flatR_int, flatR_str, flatR_non, flatR_exc, getOwn_own, mMut0_ev, mSetIx_ev, putIx_ok, rev_lst, lrep_ev, if_small, if_small', rngL_len, endS_nx, endS_rt, in_sign, notIn_sign, isN_str, notN_str, isN_tup, notN_tup, isi_int_int, isi_int_bool, isi_bl_bool, isi_bl_int, isi_str_str, isi_tup_tup, isi_lst_lst, isi_non_int, isi_non_tup, _root_.FL.R.ok_bind, _root_.FL.R.exc_bind, _root_.FL.R.stuck_bind, _root_.FL.R.pure_eq, List.append_nil, List.length_cons, List.length_nil, Nat.zero_add, Nat.reduceAdd, Nat.reduceLeDiff, Nat.reduceLT, decide_eq_true_eq, if_true, if_false, ite_true, ite_false, Bool.true_eq_false, Bool.false_eq_true, Bool.not_true, Bool.not_false, reduceIte, Bool.not_eq_true', decide_eq_false_iff_not, c5']
              rfl
            · have c5' : ¬ s ∈ ks_c3fcd3 := c5
              rw [if_neg (fun z => z.elim (fun y => c5 y.2) fun y => y.1 rfl)]
              simp -implicitDefEqProofs (disch := first | omega | (simp only [List.length_map, List.length_append, List.length_cons, List.length_nil, List.length_take, List.length_drop, repS_len, rngL_len, List.length_range, List.length_reverse]; done) | (simp only [List.length_map, List.length_append, List.length_cons, List.length_nil, List.length_take, List.length_drop, repS_len, rngL_len, List.length_range, List.length_reverse]; omega)) only [mVar_ev, mVarR_ev, getV_val, getR_val, getR_own, mC_ev, mOp_ev, mOpL_ev, mT_ev, asB_bl, mAnd_ev, mOr_ev, mNot_ev, mAndV_ev, mOrV_ev, mNotV_ev, mIf_ev, mNil_ev, mCons_ev, mTup_ev, mLst_ev, mCall_ev, mPn_ev, mPs_ev, asI_int, mSl_ev, mSlL_ev, asL_lst, asL_scr, asTp_tup, asSt_str, R_ite, mWalk_ev, mLe_ev, mNeg_ev, mSeq_ev, mSkip_ev, bind_nx, bind_rt, bind_rtL, bind_bk, bind_ct, bind_ex, bind_ite, lift_ok, lift_exc, lift_ite, mAsg_ev, mAsgL_ev, mDrop_ev, mRet_ev, mRetL_ev, mRetN_ev, mRetOwn_ev, getO_own, mIfS_ev, mSet1_ev, onO_own, onO_val, mAppend_ev, putO_own, mAsgG_ev, optSO_some, gSet_ev, gsNil_ev, gsCons_ev, obind_some, gTupM_1, gTupM_2, gTupM_3, gTupM_4, gTupM_5, gTupM_6, mFor_ev, retD_nx, retD_rt, retD_rtL, retD_ex, retD_ite, retLs_rtL, retLs_ex, retLs_ite, nth_zero, nth_succ, set_zero, set_succ, add_int, add_str, add_lst, lcat_lst, sub_int', neg_int', lt_int', le_int', gt_int', ge_int', mod_int', fdiv_int, mul_int', mul_str', isN_non, isN_int, notN_non, notN_int, eq_int', ne_int', eq_str', ne_str', eq_bl', ne_bl', len_str', len_lst, len_tup, len_scr, max_int, min_int, sl_str', sl_lst, sl_scr, lsl_lst, lsl_scr, ix_str', ix_lst, ix_tup', ix_scr, range1_ok, range2_ok, range3_ok, mMeth_ev, onStr_str, mComp_ev, mCh_ev, wipeE_nil, wipeE_cons, mYes_ev, int_int, int_bl, asW_lst, asW_tup, asW_scr, asW_str, lt_str', le_str', gt_str', ge_str', mRaise_ev, sum_ints, all_bls, any_bls, list_lst, list_tup, list_scr, sorted_ints', g_find_ev, g_find3_ev, g_find4_ev, g_rfind_ev, g_rfind4_ev, g_count_ev, g_count3_ev, g_count4_ev, g_startswith_ev, g_endswith_ev, Int.reduceToNat, List.getD_cons_zero, List.getD_cons_succ, List.length_map, List.length_reverse, Int.zero_mul, Int.mul_zero, Int.add_zero, Int.mul_one, nc0, nc1, nc2, nc3, nc4, nc5, nc6, nc7, nc8, nc9, nc10, nc11, nc12, nc13, List.cons_append, List.nil_append, decide_true, decide_false, not_false_eq_true, not_true_eq_false, mCallR_ev, retLE_rtL, retDE_rt, flatR_bl, flatR_int, flatR_str, flatR_non, flatR_exc, getOwn_own, mMut0_ev, mSetIx_ev, putIx_ok, rev_lst, lrep_ev, if_small, if_small', rngL_len, endS_nx, endS_rt, in_sign, notIn_sign, isN_str, notN_str, isN_tup, notN_tup, isi_int_int, isi_int_bool, isi_bl_bool, isi_bl_int, isi_str_str, isi_tup_tup, isi_lst_lst, isi_non_int, isi_non_tup, _root_.FL.R.ok_bind, _root_.FL.R.exc_bind, _root_.FL.R.stuck_bind, _root_.FL.R.pure_eq, List.append_nil, List.length_cons, List.length_nil, Nat.zero_add, Nat.reduceAdd, Nat.reduceLeDiff, Nat.reduceLT, decide_eq_true_eq, if_true, if_false, ite_true, ite_false, Bool.true_eq_false, Bool.false_eq_true, Bool.not_true, Bool.not_false, reduceIte, Bool.not_eq_true', decide_eq_false_iff_not, c5']
              rfl
          · have c4' := one_ne c4
            cases c5 : isSg s with
            | true =>
              rw [if_pos (.inr ⟨c4, rfl⟩)]
              simp -implicitDefEqProofs (disch := first | omega | (simp only [List.length_map, List.length_append, List.length_cons, List.length_nil, List.length_take, List.length_drop, repS_len, rngL_len, List.length_range, List.length_reverse]; done) | (simp only [List.length_map, List.length_append, List.length_cons, List.length_nil, List.length_take, List.length_drop, repS_len, rngL_len, List.length_range, List.length_reverse]; omega)) only [mVar_ev, mVarR_ev, getV_val, getR_val, getR_own, mC_ev, mOp_ev, mOpL_ev, mT_ev, asB_bl, mAnd_ev, mOr_ev, mNot_ev, mAndV_ev, mOrV_ev, mNotV_ev, mIf_ev, mNil_ev, mCons_ev, mTup_ev, mLst_ev, mCall_ev, mPn_ev, mPs_ev, asI_int, mSl_ev, mSlL_ev, asL_lst, asL_scr, asTp_tup, asSt_str, R_ite, mWalk_ev, mLe_ev, mNeg_ev, mSeq_ev, mSkip_ev, bind_nx, bind_rt, bind_rtL, bind_bk, bind_ct, bind_ex, bind_ite, lift_ok, lift_exc, lift_ite, mAsg_ev, mAsgL_ev, mDrop_ev, mRet_ev, mRetL_ev, mRetN_ev, mRetOwn_ev, getO_own, mIfS_ev, mSet1_ev, onO_own, onO_val, mAppend_ev, putO_own, mAsgG_ev, optSO_some, gSet_ev, gsNil_ev, gsCons_ev, obind_some, gTupM_1, gTupM_2, gTupM_3, gTupM_4, gTupM_5, gTupM_6, mFor_ev, retD_nx, retD_rt, retD_rtL, retD_ex, retD_ite, retLs_rtL, retLs_ex, retLs_ite, nth_zero, nth_succ, set_zero, set_succ, add_int, add_str, add_lst, lcat_lst, sub_int', neg_int', lt_int', le_int', gt_int', ge_int', mod_int', fdiv_int, mul_int', mul_str', isN_non, isN_int, notN_non, notN_int, eq_int', ne_int', eq_str', ne_str', eq_bl', ne_bl', len_str', len_lst, len_tup, len_scr, max_int, min_int, sl_str', sl_lst, sl_scr, lsl_lst, lsl_scr, ix_str', ix_lst, ix_tup', ix_scr, range1_ok, range2_ok, range3_ok, mMeth_ev, onStr_str, mComp_ev, mCh_ev, wipeE_nil, wipeE_cons, mYes_ev, int_int, int_bl, asW_lst, asW_tup, asW_scr, asW_str, lt_str', le_str', gt_str', ge_str', mRaise_ev, sum_ints, all_bls, any_bls, list_lst, list_tup, list_scr, sorted_ints', g_find_ev, g_find3_ev, g_find4_ev, g_rfind_ev, g_rfind4_ev, g_count_ev, g_count3_ev, g_count4_ev, g_startswith_ev, g_endswith_ev, Int.reduceToNat, List.getD_cons_zero, List.getD_cons_succ, List.length_map, List.length_reverse, Int.zero_mul, Int.mul_zero, Int.add_zero, Int.mul_one, nc0, nc1, nc2, nc3, nc4, nc5, nc6, nc7, nc8, nc9, nc10, nc11, nc12, nc13, List.cons_append, List.nil_append, decide_true, decide_false, not_false_eq_true, not_true_eq_false, mCallR_ev, retLE_rtL, retDE_rt, flatR_bl, flatR_int, flatR_str, flatR_non, flatR_exc, getOwn_own, mMut0_ev, mSetIx_ev, putIx_ok, rev_lst, lrep_ev, if_small, if_small', rngL_len, endS_nx, endS_rt, in_sign, notIn_sign, isN_str, notN_str, isN_tup, notN_tup, isi_int_int, isi_int_bool, isi_bl_bool, isi_bl_int, isi_str_str, isi_tup_tup, isi_lst_lst, isi_non_int, isi_non_tup, _root_.FL.R.ok_bind, _root_.FL.R.exc_bind, _root_.FL.R.stuck_bind, _root_.FL.R.pure_eq, List.append_nil, List.length_cons, List.length_nil, Nat.zero_add, Nat.reduceAdd, Nat.reduceLeDiff, Nat.reduceLT, decide_eq_true_eq, if_true, if_false, ite_true, ite_false, Bool.true_eq_false, Bool.false_eq_true, Bool.not_true, Bool.not_false, reduceIte, Bool.not_eq_true', decide_eq_false_iff_not, c4', e_sg, c5]
              rfl
            | false =>
              rw [if_neg (fun z => z.elim (fun y => c4 y.1) fun y => Bool.false_ne_true y.2)]
              simp -implicitDefEqProofs (disch := first | omega | (simp only [List.length_map, List.length_append, List.length_cons, List.length_nil, List.length_take, List.length_drop, repS_len, rngL_len, List.length_range, List.length_reverse]; done) | (simp only [List.length_map, List.length_append, List.length_cons, List.length_nil, List.length_take, List.length_drop, repS_len, rngL_len, List.length_range, List.length_reverse]; omega)) only [mVar_ev, mVarR_ev, getV_val, getR_val, getR_own, mC_ev, mOp_ev, mOpL_ev, mT_ev, asB_bl, mAnd_ev, mOr_ev, mNot_ev, mAndV_ev, mOrV_ev, mNotV_ev, mIf_ev, mNil_ev, mCons_ev, mTup_ev, mLst_ev, mCall_ev, mPn_ev, mPs_ev, asI_int, mSl_ev, mSlL_ev, asL_lst, asL_scr, asTp_tup, asSt_str, R_ite, mWalk_ev, mLe_ev, mNeg_ev, mSeq_ev, mSkip_ev, bind_nx, bind_rt, bind_rtL, bind_bk, bind_ct, bind_ex, bind_ite, lift_ok, lift_exc, lift_ite, mAsg_ev, mAsgL_ev, mDrop_ev, mRet_ev, mRetL_ev, mRetN_ev, mRetOwn_ev, getO_own, mIfS_ev, mSet1_ev, onO_own, onO_val, mAppend_ev, putO_own, mAsgG_ev, optSO_some, gSet_ev, gsNil_ev, gsCons_ev, obind_some, gTupM_1, gTupM_2, gTupM_3, gTupM_4, gTupM_5, gTupM_6, mFor_ev, retD_nx, retD_rt, retD_rtL, retD_ex, retD_ite, retLs_rtL, retLs_ex, retLs_ite, nth_zero, nth_succ, set_zero, set_succ, add_int, add_str, add_lst, lcat_lst, sub_int', neg_int', lt_int', le_int', gt_int', ge_int', mod_int', fdiv_int, mul_int', mul_str', isN_non, isN_int, notN_non, notN_int, eq_int', ne_int', eq_str', ne_str', eq_bl', ne_bl', len_str', len_lst, len_tup, len_scr, max_int, min_int, sl_str', sl_lst, sl_scr, lsl_lst, lsl_scr, ix_str', ix_lst, ix_tup', ix_scr, range1_ok, range2_ok, range3_ok, mMeth_ev, onStr_str, mComp_ev, mCh_ev, wipeE_nil, wipeE_cons, mYes_ev, int_int, int_bl, asW_lst, asW_tup, asW_scr, asW_str, lt_str', le_str', gt_str', ge_str', mRaise_ev, sum_ints, all_bls, any_bls, list_lst, list_tup, list_scr, sorted_ints', g_find_ev, g_find3_ev, g_find4_ev, g_rfind_ev, g_rfind4_ev, g_count_ev, g_count3_ev, g_count4_ev, g_startswith_ev, g_endswith_ev, Int.reduceToNat, List.getD_cons_zero, List.getD_cons_succ, List.length_map, List.length_reverse, Int.zero_mul, Int.mul_zero, Int.add_zero, Int.mul_one, nc0, nc1, nc2, nc3, nc4, nc5, nc6, nc7, nc8, nc9, nc10, nc11, nc12, nc13, List.cons_append, List.nil_append, decide_true, decide_false, not_false_eq_true, not_true_eq_false, mCallR_ev, retLE_rtL, retDE_rt, flatR_bl, flatR_int, flatR_str, flatR_non, flatR_exc, getOwn_own, mMut0_ev, mSetIx_ev, putIx_ok, rev_lst, lrep_ev, if_small, if_small', rngL_len, endS_nx, endS_rt, in_sign, notIn_sign, isN_str, notN_str, isN_tup, notN_tup, isi_int_int, isi_int_bool, isi_bl_bool, isi_bl_int, isi_str_str, isi_tup_tup, isi_lst_lst, isi_non_int, isi_non_tup, _root_.FL.R.ok_bind, _root_.FL.R.exc_bind, _root_.FL.R.stuck_bind, _root_.FL.R.pure_eq, List.append_nil, List.length_cons, List.length_nil, Nat.zero_add, Nat.reduceAdd, Nat.reduceLeDiff, Nat.reduceLT, decide_eq_true_eq, if_true, if_false, ite_true, ite_false, Bool.true_eq_false, Bool.false_eq_true, Bool.not_true, Bool.not_false, reduceIte, Bool.not_eq_true', decide_eq_false_iff_not, c4', e_sg, c5]
              rfl
      · rw [if_pos c3]
        simp -implicitDefEqProofs (disch := first | omega | (simp only [List.length_map, List.length_append, List.length_cons, List.length_nil, List.length_take, List.length_drop, repS_len, rngL_len, List.length_range, List.length_reverse]; done) | (simp only [List.length_map, List.length_append, List.length_cons, List.length_nil, List.length_take, List.length_drop, repS_len, rngL_len, List.length_range, List.length_reverse]; omega)) only [mVar_ev, mVarR_ev, getV_val, getR_val, getR_own, mC_ev, mOp_ev, mOpL_ev, mT_ev, asB_bl, mAnd_ev, mOr_ev, mNot_ev, mAndV_ev, mOrV_ev, mNotV_ev, mIf_ev, mNil_ev, mCons_ev, mTup_ev, mLst_ev, mCall_ev, mPn_ev, mPs_ev, asI_int, mSl_ev, mSlL_ev, asL_lst, asL_scr, asTp_tup, asSt_str, R_ite, mWalk_ev, mLe_ev, mNeg_ev, mSeq_ev, mSkip_ev, bind_nx, bind_rt, bind_rtL, bind_bk, bind_ct, bind_ex, bind_ite, lift_ok, lift_exc, lift_ite, mAsg_ev, mAsgL_ev, mDrop_ev, mRet_ev, mRetL_ev, mRetN_ev, mRetOwn_ev, getO_own, mIfS_ev, mSet1_ev, onO_own, onO_val, mAppend_ev, putO_own, mAsgG_ev, optSO_some, gSet_ev, gsNil_ev, gsCons_ev, obind_some, gTupM_1, gTupM_2, gTupM_3, gTupM_4, gTupM_5, gTupM_6, mFor_ev, retD_nx, retD_rt, retD_rtL, retD_ex, retD_ite, retLs_rtL, retLs_ex, retLs_ite, nth_zero, nth_succ, set_zero, set_succ, add_int, add_str, add_lst, lcat_lst, sub_int', neg_int', lt_int', le_int', gt_int', ge_int', mod_int', fdiv_int, mul_int', mul_str', isN_non, isN_int, notN_non, notN_int, eq_int', ne_int', eq_str', ne_str', eq_bl', ne_bl', len_str', len_lst, len_tup, len_scr, max_int, min_int, sl_str', sl_lst, sl_scr, lsl_lst, lsl_scr, ix_str', ix_lst, ix_tup', ix_scr, range1_ok, range2_ok, range3_ok, mMeth_ev, onStr_str, mComp_ev, mCh_ev, wipeE_nil, wipeE_cons, mYes_ev, int_int, int_bl, asW_lst, asW_tup, asW_scr, asW_str, lt_str', le_str', gt_str', ge_str', mRaise_ev, sum_ints, all_bls, any_bls, list_lst, list_tup, list_scr, sorted_ints', g_find_ev, g_find3_ev, g_find4_ev, g_rfind_ev, g_rfind4_ev, g_count_ev, g_count3_ev, g_count4_ev, g_startswith_ev, g_endswith_ev, Int.reduceToNat, List.getD_cons_zero, List.getD_cons_succ, List.length_map, List.length_reverse, Int.zero_mul, Int.mul_zero, Int.add_zero, Int.mul_one, nc0, nc1, nc2, nc3, nc4, nc5, nc6, nc7, nc8, nc9, nc10, nc11, nc12, nc13, List.cons_append, List.nil_append, decide_true, decide_false, not_false_eq_true, not_true_eq_false, mCallR_ev, retLE_rtL, retDE_rt, flatR_bl, flatR_int, flatR_str, flatR_non, flatR_exc, getOwn_own, mMut0_ev, mSetIx_ev, putIx_ok, rev_lst, lrep_ev, if_small, if_small', rngL_len, endS_nx, endS_rt, in_sign, notIn_sign, isN_str, notN_str, isN_tup, notN_tup, isi_int_int, isi_int_bool, isi_bl_bool, isi_bl_int, isi_str_str, isi_tup_tup, isi_lst_lst, isi_non_int, isi_non_tup, _root_.FL.R.ok_bind, _root_.FL.R.exc_bind, _root_.FL.R.stuck_bind, _root_.FL.R.pure_eq, List.append_nil, List.length_cons, List.length_nil, Nat.zero_add, Nat.reduceAdd, Nat.reduceLeDiff, Nat.reduceLT, decide_eq_true_eq, if_true, if_false, ite_true, ite_false, Bool.true_eq_false, Bool.false_eq_true, Bool.not_true, Bool.not_false, reduceIte, Bool.not_eq_true', decide_eq_false_iff_not, c3]
        rfl
theorem e_count (ks : List Nat) (at_ : Nat) (hl : ks.length ≤ 100000) (ha : at_ ≤ ks.length) : p_count_of [.str ks, .int at_] = .ok (tD ctD at_ (countM (ks.drop at_))) := by
  rw [u_count_of]; unfold b_count_of
  generalize hs : ks.drop at_ = s
  have gs : ∀ i, ks.getD (at_ + i) 0 = s.getD i 0 := fun i => by rw [← hs]; exact (dr_get ks at_ i).symm
  have ls : s.length = ks.length - at_ := by rw [← hs]; exact dr_len ks at_
  simp -implicitDefEqProofs (disch := first | omega | (simp only [List.length_map, List.length_append, List.length_cons, List.length_nil, List.length_take, List.length_drop, repS_len, rngL_len, List.length_range, List.length_reverse]; done) | (simp only [List.length_map, List.length_append, List.length_cons, List.length_nil, List.length_take, List.length_drop, repS_len, rngL_len, List.length_range, List.length_reverse]; omega)) only [mVar_ev, mVarR_ev, getV_val, getR_val, getR_own, mC_ev, mOp_ev, mOpL_ev, mT_ev, asB_bl, mAnd_ev, mOr_ev, mNot_ev, mAndV_ev, mOrV_ev, mNotV_ev, mIf_ev, mNil_ev, mCons_ev, mTup_ev, mLst_ev, mCall_ev, mPn_ev, mPs_ev, asI_int, mSl_ev, mSlL_ev, asL_lst, asL_scr, asTp_tup, asSt_str, R_ite, mWalk_ev, mLe_ev, mNeg_ev, mSeq_ev, mSkip_ev, bind_rt, bind_rtL, bind_bk, bind_ct, bind_ex, bind_ite, lift_ok, lift_exc, lift_ite, mAsg_ev, mAsgL_ev, mDrop_ev, mRet_ev, mRetL_ev, mRetN_ev, mRetOwn_ev, getO_own, mIfS_ev, mSet1_ev, onO_own, onO_val, mAppend_ev, putO_own, mAsgG_ev, optSO_some, gSet_ev, gsNil_ev, gsCons_ev, obind_some, gTupM_1, gTupM_2, gTupM_3, gTupM_4, gTupM_5, gTupM_6, mFor_ev, retD_nx, retD_rt, retD_rtL, retD_ex, retD_ite, retLs_rtL, retLs_ex, retLs_ite, nth_zero, nth_succ, set_zero, set_succ, add_int, add_str, add_lst, lcat_lst, sub_int', neg_int', lt_int', le_int', gt_int', ge_int', mod_int', fdiv_int, mul_int', mul_str', isN_non, isN_int, notN_non, notN_int, eq_int', ne_int', eq_str', ne_str', eq_bl', ne_bl', len_str', len_lst, len_tup, len_scr, max_int, min_int, sl_str', sl_lst, sl_scr, lsl_lst, lsl_scr, ix_str', ix_lst, ix_tup', ix_scr, range1_ok, range2_ok, range3_ok, mMeth_ev, onStr_str, mComp_ev, mCh_ev, wipeE_nil, wipeE_cons, mYes_ev, int_int, int_bl, asW_lst, asW_tup, asW_scr, asW_str, lt_str', le_str', gt_str', ge_str', mRaise_ev, sum_ints, all_bls, any_bls, list_lst, list_tup, list_scr, sorted_ints', g_find_ev, g_find3_ev, g_find4_ev, g_rfind_ev, g_rfind4_ev, g_count_ev, g_count3_ev, g_count4_ev, g_startswith_ev, g_endswith_ev, Int.reduceToNat, List.getD_cons_zero, List.getD_cons_succ, List.length_map, List.length_reverse, Int.zero_mul, Int.mul_zero, Int.add_zero, Int.mul_one, nc0, nc1, nc2, nc3, nc4, nc5, nc6, nc7, nc8, nc9, nc10, nc11, nc12, nc13, List.cons_append, List.nil_append, decide_true, decide_false, not_false_eq_true, not_true_eq_false, mCallR_ev, retLE_rtL, retDE_rt, flatR_bl, flatR_int, flatR_str, flatR_non, flatR_exc, getOwn_own, mMut0_ev, mSetIx_ev, putIx_ok, rev_lst, lrep_ev, if_small, if_small', rngL_len, endS_nx, endS_rt, in_sign, notIn_sign, isN_str, notN_str, isN_tup, notN_tup, isi_int_int, isi_int_bool, isi_bl_bool, isi_bl_int, isi_str_str, isi_tup_tup, isi_lst_lst, isi_non_int, isi_non_tup, _root_.FL.R.ok_bind, _root_.FL.R.exc_bind, _root_.FL.R.stuck_bind, _root_.FL.R.pure_eq, List.append_nil, List.length_cons, List.length_nil, Nat.zero_add, Nat.reduceAdd, Nat.reduceLeDiff, Nat.reduceLT, decide_eq_true_eq, if_true, if_false, ite_true, ite_false, Bool.true_eq_false, Bool.false_eq_true, Bool.not_true, Bool.not_false, reduceIte, Bool.not_eq_true', decide_eq_false_iff_not]
  rw [bind_nx]
  have wl : (∃ n, countM s = .non n ∧ mWhile b_count_of_t1 b_count_of_l1 [.val (.str ks), .val (.int at_), .val (.int at_)] = .rt (tD ctD at_ (.non n))) ∨
      (mWhile b_count_of_t1 b_count_of_l1 [.val (.str ks), .val (.int at_), .val (.int at_)] = .nx [.val (.str ks), .val (.int at_), .val (.int ((at_ + (figs s).length : Nat) : Int))] ∧ (figs s = [] ∨ (s.getD 0 0 ≠ 48 ∧ (figs s).length ≤ 3))) := by
    refine mWhile_run (c := b_count_of_t1) (body := b_count_of_l1) (Γ := [.val (.str ks), .val (.int at_), .val (.int at_)])
      (fun Γ => ∃ j : Nat, Γ = [.val (.str ks), .val (.int at_), .val (.int ((at_ + j : Nat) : Int))] ∧ j ≤ (figs s).length ∧ (j = 0 ∨ (s.getD 0 0 ≠ 48 ∧ j ≤ 3)))
      (fun Γ => match Γ with | [_, _, .val (.int e)] => ks.length - e.toNat | _ => 0)
      (fun z => (∃ n, countM s = .non n ∧ z = .rt (tD ctD at_ (.non n))) ∨ (z = .nx [.val (.str ks), .val (.int at_), .val (.int ((at_ + (figs s).length : Nat) : Int))] ∧ (figs s = [] ∨ (s.getD 0 0 ≠ 48 ∧ (figs s).length ≤ 3))))
      ⟨0, rfl, Nat.zero_le _, .inl rfl⟩ (by show ks.length - _ < _; omega) ?_
    rintro Γ ⟨j, rfl, h1, h2⟩
    unfold b_count_of_t1 b_count_of_l1
    have n0 : ((at_ + j : Nat) : Int).toNat = at_ + j := Int.toNat_natCast _
    by_cases q : j < (figs s).length
    · obtain ⟨f1, f2⟩ := fig_lt q
      have q1 : ((at_ + j : Nat) : Int) < ks.length := by omega
      have f2' : s.getD j 0 ∈ [48, 49, 50, 51, 52, 53, 54, 55, 56, 57] := f2
      refine .inr ⟨by simp -implicitDefEqProofs (disch := first | omega | (simp only [List.length_map, List.length_append, List.length_cons, List.length_nil, List.length_take, List.length_drop, repS_len, rngL_len, List.length_range, List.length_reverse]; done) | (simp only [List.length_map, List.length_append, List.length_cons, List.length_nil, List.length_take, List.length_drop, repS_len, rngL_len, List.length_range, List.length_reverse]; omega)) only [mVar_ev, mVarR_ev, getV_val, getR_val, getR_own, mC_ev, mOp_ev, mOpL_ev, mT_ev, asB_bl, mAnd_ev, mOr_ev, mNot_ev, mAndV_ev, mOrV_ev, mNotV_ev, mIf_ev, mNil_ev, mCons_ev, mTup_ev, mLst_ev, mCall_ev, mPn_ev, mPs_ev, asI_int, mSl_ev, mSlL_ev, asL_lst, asL_scr, asTp_tup, asSt_str, R_ite, mWalk_ev, mLe_ev, mNeg_ev, mSeq_ev, mSkip_ev, bind_nx, bind_rt, bind_rtL, bind_bk, bind_ct, bind_ex, bind_ite, lift_ok, lift_exc, lift_ite, mAsg_ev, mAsgL_ev, mDrop_ev, mRet_ev, mRetL_ev, mRetN_ev, mRetOwn_ev, getO_own, mIfS_ev, mSet1_ev, onO_own, onO_val, mAppend_ev, putO_own, mAsgG_ev, optSO_some, gSet_ev, gsNil_ev, gsCons_ev, obind_some, gTupM_1, gTupM_2, gTupM_3, gTupM_4, gTupM_5, gTupM_6, mFor_ev, retD_nx, retD_rt, retD_rtL, retD_ex, retD_ite, retLs_rtL, retLs_ex, retLs_ite, nth_zero, nth_succ, set_zero, set_succ, add_int, add_str, add_lst, lcat_lst, sub_int', neg_int', lt_int', le_int', gt_int', ge_int', mod_int', fdiv_int, mul_int', mul_str', isN_non, isN_int, notN_non, notN_int, eq_int', ne_int', eq_str', ne_str', eq_bl', ne_bl', len_str', len_lst, len_tup, len_scr, max_int, min_int, sl_str', sl_lst, sl_scr, lsl_lst, lsl_scr, ix_str', ix_lst, ix_tup', ix_scr, range1_ok, range2_ok, range3_ok, mMeth_ev, onStr_str, mComp_ev, mCh_ev, wipeE_nil, wipeE_cons, mYes_ev, int_int, int_bl, asW_lst, asW_tup, asW_scr, asW_str, lt_str', le_str', gt_str', ge_str', mRaise_ev, sum_ints, all_bls, any_bls, list_lst, list_tup, list_scr, sorted_ints', g_find_ev, g_find3_ev, g_find4_ev, g_rfind_ev, g_rfind4_ev, g_count_ev, g_count3_ev, g_count4_ev, g_startswith_ev, g_endswith_ev, Int.reduceToNat, List.getD_cons_zero, List.getD_cons_succ, List.length_map, List.length_reverse, Int.zero_mul, Int.mul_zero, Int.add_zero, Int.mul_one, nc0, nc1, nc2, nc3, nc4, nc5, nc6, nc7, nc8, nc9, nc10, nc11, nc12, nc13, List.cons_append, List.nil_append, decide_true, decide_false, not_false_eq_true, not_true_eq_false, mCallR_ev, retLE_rtL, retDE_rt, flatR_bl, flatR_int, flatR_str, flatR_non, flatR_exc, getOwn_own, mMut0_ev, mSetIx_ev, putIx_ok, rev_lst, lrep_ev, if_small, if_small', rngL_len, endS_nx, endS_rt, in_sign, notIn_sign, isN_str, notN_str, isN_tup, notN_tup, isi_int_int, isi_int_bool, isi_bl_bool, isi_bl_int, isi_str_str, isi_tup_tup, isi_lst_lst, isi_non_int, isi_non_tup, _root_.FL.R.ok_bind, _root_.FL.R.exc_bind, _root_.FL.R.stuck_bind, _root_.FL.R.pure_eq, List.append_nil, List.length_cons, List.length_nil, Nat.zero_add, Nat.reduceAdd, Nat.reduceLeDiff, Nat.reduceLT, decide_eq_true_eq, if_true, if_false, ite_true, ite_false, Bool.true_eq_false, Bool.false_eq_true, Bool.not_true, Bool.not_false, reduceIte, Bool.not_eq_true', decide_eq_false_iff_not, q1, n0, gs, f2'], ?_⟩
      have hne : figs s ≠ [] := fun z => by rw [z] at q; simp at q
      have g0 := gs 0
      rw [Nat.add_zero] at g0
      by_cases c1 : s.getD 0 0 = 48
      · refine .inr (.inr ⟨fun Γ' => ?_, .inl ⟨1, by unfold countM; rw [if_neg hne, if_pos c1], ?_⟩⟩)
        · have c1' : [s.getD 0 0] = [48] := by rw [c1]
          simp -implicitDefEqProofs (disch := first | omega | (simp only [List.length_map, List.length_append, List.length_cons, List.length_nil, List.length_take, List.length_drop, repS_len, rngL_len, List.length_range, List.length_reverse]; done) | (simp only [List.length_map, List.length_append, List.length_cons, List.length_nil, List.length_take, List.length_drop, repS_len, rngL_len, List.length_range, List.length_reverse]; omega)) only [mVar_ev, mVarR_ev, getV_val, getR_val, getR_own, mC_ev, mOp_ev, mOpL_ev, mT_ev, asB_bl, mAnd_ev, mOr_ev, mNot_ev, mAndV_ev, mOrV_ev, mNotV_ev, mIf_ev, mNil_ev, mCons_ev, mTup_ev, mLst_ev, mCall_ev, mPn_ev, mPs_ev, asI_int, mSl_ev, mSlL_ev, asL_lst, asL_scr, asTp_tup, asSt_str, R_ite, mWalk_ev, mLe_ev, mNeg_ev, mSeq_ev, mSkip_ev, bind_nx, bind_rt, bind_rtL, bind_bk, bind_ct, bind_ex, bind_ite, lift_ok, lift_exc, lift_ite, mAsg_ev, mAsgL_ev, mDrop_ev, mRet_ev, mRetL_ev, mRetN_ev, mRetOwn_ev, getO_own, mIfS_ev, mSet1_ev, onO_own, onO_val, mAppend_ev, putO_own, mAsgG_ev, optSO_some, gSet_ev, gsNil_ev, gsCons_ev, obind_some, gTupM_1, gTupM_2, gTupM_3, gTupM_4, gTupM_5, gTupM_6, mFor_ev, retD_nx, retD_rt, retD_rtL, retD_ex, retD_ite, retLs_rtL, retLs_ex, retLs_ite, nth_zero, nth_succ, set_zero, set_succ, add_int, add_str, add_lst, lcat_lst, sub_int', neg_int', lt_int', le_int', gt_int', ge_int', mod_int', fdiv_int, mul_int', mul_str', isN_non, isN_int, notN_non, notN_int, eq_int', ne_int', eq_str', ne_str', eq_bl', ne_bl', len_str', len_lst, len_tup, len_scr, max_int, min_int, sl_str', sl_lst, sl_scr, lsl_lst, lsl_scr, ix_str', ix_lst, ix_tup', ix_scr, range1_ok, range2_ok, range3_ok, mMeth_ev, onStr_str, mComp_ev, mCh_ev, wipeE_nil, wipeE_cons, mYes_ev, int_int, int_bl, asW_lst, asW_tup, asW_scr, asW_str, lt_str', le_str', gt_str', ge_str', mRaise_ev, sum_ints, all_bls, any_bls, list_lst, list_tup, list_scr, sorted_ints', g_find_ev, g_find3_ev, g_find4_ev, g_rfind_ev, g_rfind4_ev, g_count_ev, g_count3_ev, g_count4_ev, g_startswith_ev, g_endswith_ev, Int.reduceToNat, List.getD_cons_zero, List.getD_cons_succ, List.length_map, List.length_reverse, Int.zero_mul, Int.mul_zero, Int.add_zero, Int.mul_one, nc0, nc1, nc2, nc3, nc4, nc5, nc6, nc7, nc8, nc9, nc10, nc11, nc12, nc13, List.cons_append, List.nil_append, decide_true, decide_false, not_false_eq_true, not_true_eq_false, mCallR_ev, retLE_rtL, retDE_rt, flatR_bl, flatR_int, flatR_str, flatR_non, flatR_exc, getOwn_own, mMut0_ev, mSetIx_ev, putIx_ok, rev_lst, lrep_ev, if_small, if_small', rngL_len, endS_nx, endS_rt, in_sign, notIn_sign, isN_str, notN_str, isN_tup, notN_tup, isi_int_int, isi_int_bool, isi_bl_bool, isi_bl_int, isi_str_str, isi_tup_tup, isi_lst_lst, isi_non_int, isi_non_tup, _root_.FL.R.ok_bind, _root_.FL.R.exc_bind, _root_.FL.R.stuck_bind, _root_.FL.R.pure_eq, List.append_nil, List.length_cons, List.length_nil, Nat.zero_add, Nat.reduceAdd, Nat.reduceLeDiff, Nat.reduceLT, decide_eq_true_eq, if_true, if_false, ite_true, ite_false, Bool.true_eq_false, Bool.false_eq_true, Bool.not_true, Bool.not_false, reduceIte, Bool.not_eq_true', decide_eq_false_iff_not, Int.toNat_natCast, g0, c1']
          exact ⟨(fun z => by cases z), (fun z => by cases z), (fun z => by cases z)⟩
        · have hj : j = 0 := by
            rcases h2 with z | z
            · exact z
            · exact absurd c1 z.1
          subst hj
          simp -implicitDefEqProofs (disch := first | omega | (simp only [List.length_map, List.length_append, List.length_cons, List.length_nil, List.length_take, List.length_drop, repS_len, rngL_len, List.length_range, List.length_reverse]; done) | (simp only [List.length_map, List.length_append, List.length_cons, List.length_nil, List.length_take, List.length_drop, repS_len, rngL_len, List.length_range, List.length_reverse]; omega)) only [mVar_ev, mVarR_ev, getV_val, getR_val, getR_own, mC_ev, mOp_ev, mOpL_ev, mT_ev, asB_bl, mAnd_ev, mOr_ev, mNot_ev, mAndV_ev, mOrV_ev, mNotV_ev, mIf_ev, mNil_ev, mCons_ev, mTup_ev, mLst_ev, mCall_ev, mPn_ev, mPs_ev, asI_int, mSl_ev, mSlL_ev, asL_lst, asL_scr, asTp_tup, asSt_str, R_ite, mWalk_ev, mLe_ev, mNeg_ev, mSeq_ev, mSkip_ev, bind_nx, bind_rt, bind_rtL, bind_bk, bind_ct, bind_ex, bind_ite, lift_ok, lift_exc, lift_ite, mAsg_ev, mAsgL_ev, mDrop_ev, mRet_ev, mRetL_ev, mRetN_ev, mRetOwn_ev, getO_own, mIfS_ev, mSet1_ev, onO_own, onO_val, mAppend_ev, putO_own, mAsgG_ev, optSO_some, gSet_ev, gsNil_ev, gsCons_ev, obind_some, gTupM_1, gTupM_2, gTupM_3, gTupM_4, gTupM_5, gTupM_6, mFor_ev, retD_nx, retD_rt, retD_rtL, retD_ex, retD_ite, retLs_rtL, retLs_ex, retLs_ite, nth_zero, nth_succ, set_zero, set_succ, add_int, add_str, add_lst, lcat_lst, sub_int', neg_int', lt_int', le_int', gt_int', ge_int', mod_int', fdiv_int, mul_int', mul_str', isN_non, isN_int, notN_non, notN_int, eq_int', ne_int', eq_str', ne_str', eq_bl', ne_bl', len_str', len_lst, len_tup, len_scr, max_int, min_int, sl_str', sl_lst, sl_scr, lsl_lst, lsl_scr, ix_str', ix_lst, ix_tup', ix_scr, range1_ok, range2_ok, range3_ok, mMeth_ev, onStr_str, mComp_ev, mCh_ev, wipeE_nil, wipeE_cons, mYes_ev, int_int, int_bl, asW_lst, asW_tup, asW_scr, asW_str, lt_str', le_str', gt_str', ge_str', mRaise_ev, sum_ints, all_bls, any_bls, list_lst, list_tup, list_scr, sorted_ints', g_find_ev, g_find3_ev, g_find4_ev, g_rfind_ev, g_rfind4_ev, g_count_ev, g_count3_ev, g_count4_ev, g_startswith_ev, g_endswith_ev, Int.reduceToNat, List.getD_cons_zero, List.getD_cons_succ, List.length_map, List.length_reverse, Int.zero_mul, Int.mul_zero, Int.add_zero, Int.mul_one, nc0, nc1, nc2, nc3, nc4, nc5, nc6, nc7, nc8, nc9, nc10, nc11, nc12, nc13, List.cons_append, List.nil_append, decide_true, decide_false, not_false_eq_true, not_true_eq_false, mCallR_ev, retLE_rtL, retDE_rt, flatR_bl, flatR_int, flatR_str, flatR_non, flatR_exc, getOwn_own, mMut0_ev, mSetIx_ev, putIx_ok, rev_lst, lrep_ev, if_small, if_small', rngL_len, endS_nx, endS_rt, in_sign, notIn_sign, isN_str, notN_str, isN_tup, notN_tup, isi_int_int, isi_int_bool, isi_bl_bool, isi_bl_int, isi_str_str, isi_tup_tup, isi_lst_lst, isi_non_int, isi_non_tup, _root_.FL.R.ok_bind, _root_.FL.R.exc_bind, _root_.FL.R.stuck_bind, _root_.FL.R.pure_eq, List.append_nil, List.length_cons, List.length_nil, Nat.zero_add, Nat.reduceAdd, Nat.reduceLeDiff, Nat.reduceLT, decide_eq_true_eq, if_true, if_false, ite_true, ite_false, Bool.true_eq_false, Bool.false_eq_true, Bool.not_true, Bool.not_false, reduceIte, Bool.not_eq_true', decide_eq_false_iff_not, Int.toNat_natCast, g0, c1]
          rfl
      · have c1' := one_ne c1
        by_cases c2 : j = 3
        · have c2' : ((at_ + j : Nat) : Int) = (at_ : Int) + 3 := by omega
          refine .inr (.inr ⟨fun Γ' => ?_, .inl ⟨4, by unfold countM; rw [if_neg hne, if_neg c1, if_pos (by omega)], ?_⟩⟩)
          · simp -implicitDefEqProofs (disch := first | omega | (simp only [List.length_map, List.length_append, List.length_cons, List.length_nil, List.length_take, List.length_drop, repS_len, rngL_len, List.length_range, List.length_reverse]; done) | (simp only [List.length_map, List.length_append, List.length_cons, List.length_nil, List.length_take, List.length_drop, repS_len, rngL_len, List.length_range, List.length_reverse]; omega)) only [mVar_ev, mVarR_ev, getV_val, getR_val, getR_own, mC_ev, mOp_ev, mOpL_ev, mT_ev, asB_bl, mAnd_ev, mOr_ev, mNot_ev, mAndV_ev, mOrV_ev, mNotV_ev, mIf_ev, mNil_ev, mCons_ev, mTup_ev, mLst_ev, mCall_ev, mPn_ev, mPs_ev, asI_int, mSl_ev, mSlL_ev, asL_lst, asL_scr, asTp_tup, asSt_str, R_ite, mWalk_ev, mLe_ev, mNeg_ev, mSeq_ev, mSkip_ev, bind_nx, bind_rt, bind_rtL, bind_bk, bind_ct, bind_ex, bind_ite, lift_ok, lift_exc, lift_ite, mAsg_ev, mAsgL_ev, mDrop_ev, mRet_ev, mRetL_ev, mRetN_ev, mRetOwn_ev, getO_own, mIfS_ev, mSet1_ev, onO_own, onO_val, mAppend_ev, putO_own, mAsgG_ev, optSO_some, gSet_ev, gsNil_ev, gsCons_ev, obind_some, gTupM_1, gTupM_2, gTupM_3, gTupM_4, gTupM_5, gTupM_6, mFor_ev, retD_nx, retD_rt, retD_rtL, retD_ex, retD_ite, retLs_rtL, retLs_ex, retLs_ite, nth_zero, nth_succ, set_zero, set_succ, add_int, add_str, add_lst, lcat_lst, sub_int', neg_int', lt_int', le_int', gt_int', ge_int', mod_int', fdiv_int, mul_int', mul_str', isN_non, isN_int, notN_non, notN_int, eq_int', ne_int', eq_str', ne_str', eq_bl', ne_bl', len_str', len_lst, len_tup, len_scr, max_int, min_int, sl_str', sl_lst, sl_scr, lsl_lst, lsl_scr, ix_str', ix_lst, ix_tup', ix_scr, range1_ok, range2_ok, range3_ok, mMeth_ev, onStr_str, mComp_ev, mCh_ev, wipeE_nil, wipeE_cons, mYes_ev, int_int, int_bl, asW_lst, asW_tup, asW_scr, asW_str, lt_str', le_str', gt_str', ge_str', mRaise_ev, sum_ints, all_bls, any_bls, list_lst, list_tup, list_scr, sorted_ints', g_find_ev, g_find3_ev, g_find4_ev, g_rfind_ev, g_rfind4_ev, g_count_ev, g_count3_ev, g_count4_ev, g_startswith_ev, g_endswith_ev, Int.reduceToNat, List.getD_cons_zero, List.getD_cons_succ, List.length_map, List.length_reverse, Int.zero_mul, Int.mul_zero, Int.add_zero, Int.mul_one, nc0, nc1, nc2, nc3, nc4, nc5, nc6, nc7, nc8, nc9, nc10, nc11, nc12, nc13, List.cons_append, List.nil_append, decide_true, decide_false, not_false_eq_true, not_true_eq_false, mCallR_ev, retLE_rtL, retDE_rt, flatR_bl, flatR_int, flatR_str, flatR_non, flatR_exc, getOwn_own, mMut0_ev, mSetIx_ev, putIx_ok, rev_lst, lrep_ev, if_small, if_small', rngL_len, endS_nx, endS_rt, in_sign, notIn_sign, isN_str, notN_str, isN_tup, notN_tup, isi_int_int, isi_int_bool, isi_bl_bool, isi_bl_int, isi_str_str, isi_tup_tup, isi_lst_lst, isi_non_int, isi_non_tup, _root_.FL.R.ok_bind, _root_.FL.R.exc_bind, _root_.FL.R.stuck_bind, _root_.FL.R.pure_eq, List.append_nil, List.length_cons, List.length_nil, Nat.zero_add, Nat.reduceAdd, Nat.reduceLeDiff, Nat.reduceLT, decide_eq_true_eq, if_true, if_false, ite_true, ite_false, Bool.true_eq_false, Bool.false_eq_true, Bool.not_true, Bool.not_false, reduceIte, Bool.not_eq_true', decide_eq_false_iff_not, Int.toNat_natCast, g0, c1', c2']
            exact ⟨(fun z => by cases z), (fun z => by cases z), (fun z => by cases z)⟩
          · simp -implicitDefEqProofs (disch := first | omega | (simp only [List.length_map, List.length_append, List.length_cons, List.length_nil, List.length_take, List.length_drop, repS_len, rngL_len, List.length_range, List.length_reverse]; done) | (simp only [List.length_map, List.length_append, List.length_cons, List.length_nil, List.length_take, List.length_drop, repS_len, rngL_len, List.length_range, List.length_reverse]; omega)) only [mVar_ev, mVarR_ev, getV_val, getR_val, getR_own, mC_ev, mOp_ev, mOpL_ev, mT_ev, asB_bl, mAnd_ev, mOr_ev, mNot_ev, mAndV_ev, mOrV_ev, mNotV_ev, mIf_ev, mNil_ev, mCons_ev, mTup_ev, mLst_ev, mCall_ev, mPn_ev, mPs_ev, asI_int, mSl_ev, mSlL_ev, asL_lst, asL_scr, asTp_tup, asSt_str, R_ite, mWalk_ev, mLe_ev, mNeg_ev, mSeq_ev, mSkip_ev, bind_nx, bind_rt, bind_rtL, bind_bk, bind_ct, bind_ex, bind_ite, lift_ok, lift_exc, lift_ite, mAsg_ev, mAsgL_ev, mDrop_ev, mRet_ev, mRetL_ev, mRetN_ev, mRetOwn_ev, getO_own, mIfS_ev, mSet1_ev, onO_own, onO_val, mAppend_ev, putO_own, mAsgG_ev, optSO_some, gSet_ev, gsNil_ev, gsCons_ev, obind_some, gTupM_1, gTupM_2, gTupM_3, gTupM_4, gTupM_5, gTupM_6, mFor_ev, retD_nx, retD_rt, retD_rtL, retD_ex, retD_ite, retLs_rtL, retLs_ex, retLs_ite, nth_zero, nth_succ, set_zero, set_succ, add_int, add_str, add_lst, lcat_lst, sub_int', neg_int', lt_int', le_int', gt_int', ge_int', mod_int', fdiv_int, mul_int', mul_str', isN_non, isN_int, notN_non, notN_int, eq_int', ne_int', eq_str', ne_str', eq_bl', ne_bl', len_str', len_lst, len_tup, len_scr, max_int, min_int, sl_str', sl_lst, sl_scr, lsl_lst, lsl_scr, ix_str', ix_lst, ix_tup', ix_scr, range1_ok, range2_ok, range3_ok, mMeth_ev, onStr_str, mComp_ev, mCh_ev, wipeE_nil, wipeE_cons, mYes_ev, int_int, int_bl, asW_lst, asW_tup, asW_scr, asW_str, lt_str', le_str', gt_str', ge_str', mRaise_ev, sum_ints, all_bls, any_bls, list_lst, list_tup, list_scr, sorted_ints', g_find_ev, g_find3_ev, g_find4_ev, g_rfind_ev, g_rfind4_ev, g_count_ev, g_count3_ev, g_count4_ev, g_startswith_ev, g_endswith_ev, Int.reduceToNat, List.getD_cons_zero, List.getD_cons_succ, List.length_map, List.length_reverse, Int.zero_mul, Int.mul_zero, Int.add_zero, Int.mul_one, nc0, nc1, nc2, nc3, nc4, nc5, nc6, nc7, nc8, nc9, nc10, nc11, nc12, nc13, List.cons_append, List.nil_append, decide_true, decide_false, not_false_eq_true, not_true_eq_false, mCallR_ev, retLE_rtL, retDE_rt, flatR_bl, flatR_int, flatR_str, flatR_non, flatR_exc, getOwn_own, mMut0_ev, mSetIx_ev, putIx_ok, rev_lst, lrep_ev, if_small, if_small', rngL_len, endS_nx, endS_rt, in_sign, notIn_sign, isN_str, notN_str, isN_tup, notN_tup, isi_int_int, isi_int_bool, isi_bl_bool, isi_bl_int, isi_str_str, isi_tup_tup, isi_lst_lst, isi_non_int, isi_non_tup, _root_.FL.R.ok_bind, _root_.FL.R.exc_bind, _root_.FL.R.stuck_bind, _root_.FL.R.pure_eq, List.append_nil, List.length_cons, List.length_nil, Nat.zero_add, Nat.reduceAdd, Nat.reduceLeDiff, Nat.reduceLT, decide_eq_true_eq, if_true, if_false, ite_true, ite_false, Bool.true_eq_false, Bool.false_eq_true, Bool.not_true, Bool.not_false, reduceIte, Bool.not_eq_true', decide_eq_false_iff_not, Int.toNat_natCast, g0, c1', c2']
            subst c2
            rfl
        · have c2' : ¬ ((at_ + j : Nat) : Int) = (at_ : Int) + 3 := by omega
          refine .inl ⟨_, .inl (by simp -implicitDefEqProofs (disch := first | omega | (simp only [List.length_map, List.length_append, List.length_cons, List.length_nil, List.length_take, List.length_drop, repS_len, rngL_len, List.length_range, List.length_reverse]; done) | (simp only [List.length_map, List.length_append, List.length_cons, List.length_nil, List.length_take, List.length_drop, repS_len, rngL_len, List.length_range, List.length_reverse]; omega)) only [mVar_ev, mVarR_ev, getV_val, getR_val, getR_own, mC_ev, mOp_ev, mOpL_ev, mT_ev, asB_bl, mAnd_ev, mOr_ev, mNot_ev, mAndV_ev, mOrV_ev, mNotV_ev, mIf_ev, mNil_ev, mCons_ev, mTup_ev, mLst_ev, mCall_ev, mPn_ev, mPs_ev, asI_int, mSl_ev, mSlL_ev, asL_lst, asL_scr, asTp_tup, asSt_str, R_ite, mWalk_ev, mLe_ev, mNeg_ev, mSeq_ev, mSkip_ev, bind_nx, bind_rt, bind_rtL, bind_bk, bind_ct, bind_ex, bind_ite, lift_ok, lift_exc, lift_ite, mAsg_ev, mAsgL_ev, mDrop_ev, mRet_ev, mRetL_ev, mRetN_ev, mRetOwn_ev, getO_own, mIfS_ev, mSet1_ev, onO_own, onO_val, mAppend_ev, putO_own, mAsgG_ev, optSO_some, gSet_ev, gsNil_ev, gsCons_ev, obind_some, gTupM_1, gTupM_2, gTupM_3, gTupM_4, gTupM_5, gTupM_6, mFor_ev, retD_nx, retD_rt, retD_rtL, retD_ex, retD_ite, retLs_rtL, retLs_ex, retLs_ite, nth_zero, nth_succ, set_zero, set_succ, add_int, add_str, add_lst, lcat_lst, sub_int', neg_int', lt_int', le_int', gt_int', ge_int', mod_int', fdiv_int, mul_int', mul_str', isN_non, isN_int, notN_non, notN_int, eq_int', ne_int', eq_str', ne_str', eq_bl', ne_bl', len_str', len_lst, len_tup, len_scr, max_int, min_int, sl_str', sl_lst, sl_scr, lsl_lst, lsl_scr, ix_str', ix_lst, ix_tup', ix_scr, range1_ok, range2_ok, range3_ok, mMeth_ev, onStr_str, mComp_ev, mCh_ev, wipeE_nil, wipeE_cons, mYes_ev, int_int, int_bl, asW_lst, asW_tup, asW_scr, asW_str, lt_str', le_str', gt_str', ge_str', mRaise_ev, sum_ints, all_bls, any_bls, list_lst, list_tup, list_scr, sorted_ints', g_find_ev, g_find3_ev, g_find4_ev, g_rfind_ev, g_rfind4_ev, g_count_ev, g_count3_ev, g_count4_ev, g_startswith_ev, g_endswith_ev, Int.reduceToNat, List.getD_cons_zero, List.getD_cons_succ, List.length_map, List.length_reverse, Int.zero_mul, Int.mul_zero, Int.add_zero, Int.mul_one, nc0, nc1, nc2, nc3, nc4, nc5, nc6, nc7, nc8, nc9, nc10, nc11, nc12, nc13, List.cons_append, List.nil_append, decide_true, decide_false, not_false_eq_true, not_true_eq_false, mCallR_ev, retLE_rtL, retDE_rt, flatR_bl, flatR_int, flatR_str, flatR_non, flatR_exc, getOwn_own, mMut0_ev, mSetIx_ev, putIx_ok, rev_lst, lrep_ev, if_small, if_small', rngL_len, endS_nx, endS_rt, in_sign, notIn_sign, isN_str, notN_str, isN_tup, notN_tup, isi_int_int, isi_int_bool, isi_bl_bool, isi_bl_int, isi_str_str, isi_tup_tup, isi_lst_lst, isi_non_int, isi_non_tup, _root_.FL.R.ok_bind, _root_.FL.R.exc_bind, _root_.FL.R.stuck_bind, _root_.FL.R.pure_eq, List.append_nil, List.length_cons, List.length_nil, Nat.zero_add, Nat.reduceAdd, Nat.reduceLeDiff, Nat.reduceLT, decide_eq_true_eq, if_true, if_false, ite_true, ite_false, Bool.true_eq_false, Bool.false_eq_true, Bool.not_true, Bool.not_false, reduceIte, Bool.not_eq_true', decide_eq_false_iff_not, Int.toNat_natCast, g0, c1', c2']; rfl), ⟨j + 1, rfl, by omega, .inr ⟨c1, by omega⟩⟩, ?_⟩
          show ks.length - (((at_ + j : Nat) : Int) + 1).toNat < ks.length - ((at_ + j : Nat) : Int).toNat
          omega
    · have hj : j = (figs s).length := by omega
      refine .inl ⟨?_, .inr ⟨by rw [hj], ?_⟩⟩
      · by_cases q1 : ((at_ + j : Nat) : Int) < ks.length
        · have f2 : ¬ s.getD j 0 ∈ figS := by rw [hj]; exact fig_end (by omega)
          have f2' : ¬ s.getD j 0 ∈ [48, 49, 50, 51, 52, 53, 54, 55, 56, 57] := f2
          simp -implicitDefEqProofs (disch := first | omega | (simp only [List.length_map, List.length_append, List.length_cons, List.length_nil, List.length_take, List.length_drop, repS_len, rngL_len, List.length_range, List.length_reverse]; done) | (simp only [List.length_map, List.length_append, List.length_cons, List.length_nil, List.length_take, List.length_drop, repS_len, rngL_len, List.length_range, List.length_reverse]; omega)) only [mVar_ev, mVarR_ev, getV_val, getR_val, getR_own, mC_ev, mOp_ev, mOpL_ev, mT_ev, asB_bl, mAnd_ev, mOr_ev, mNot_ev, mAndV_ev, mOrV_ev, mNotV_ev, mIf_ev, mNil_ev, mCons_ev, mTup_ev, mLst_ev, mCall_ev, mPn_ev, mPs_ev, asI_int, mSl_ev, mSlL_ev, asL_lst, asL_scr, asTp_tup, asSt_str, R_ite, mWalk_ev, mLe_ev, mNeg_ev, mSeq_ev, mSkip_ev, bind_nx, bind_rt, bind_rtL, bind_bk, bind_ct, bind_ex, bind_ite, lift_ok, lift_exc, lift_ite, mAsg_ev, mAsgL_ev, mDrop_ev, mRet_ev, mRetL_ev, mRetN_ev, mRetOwn_ev, getO_own, mIfS_ev, mSet1_ev, onO_own, onO_val, mAppend_ev, putO_own, mAsgG_ev, optSO_some, gSet_ev, gsNil_ev, gsCons_ev, obind_some, gTupM_1, gTupM_2, gTupM_3, gTupM_4, gTupM_5, gTupM_6, mFor_ev, retD_nx, retD_rt, retD_rtL, retD_ex, retD_ite, retLs_rtL, retLs_ex, retLs_ite, nth_zero, nth_succ, set_zero, set_succ, add_int, add_str, add_lst, lcat_lst, sub_int', neg_int', lt_int', le_int', gt_int', ge_int', mod_int', fdiv_int, mul_int', mul_str', isN_non, isN_int, notN_non, notN_int, eq_int', ne_int', eq_str', ne_str', eq_bl', ne_bl', len_str', len_lst, len_tup, len_scr, max_int, min_int, sl_str', sl_lst, sl_scr, lsl_lst, lsl_scr, ix_str', ix_lst, ix_tup', ix_scr, range1_ok, range2_ok, range3_ok, mMeth_ev, onStr_str, mComp_ev, mCh_ev, wipeE_nil, wipeE_cons, mYes_ev, int_int, int_bl, asW_lst, asW_tup, asW_scr, asW_str, lt_str', le_str', gt_str', ge_str', mRaise_ev, sum_ints, all_bls, any_bls, list_lst, list_tup, list_scr, sorted_ints', g_find_ev, g_find3_ev, g_find4_ev, g_rfind_ev, g_rfind4_ev, g_count_ev, g_count3_ev, g_count4_ev, g_startswith_ev, g_endswith_ev, Int.reduceToNat, List.getD_cons_zero, List.getD_cons_succ, List.length_map, List.length_reverse, Int.zero_mul, Int.mul_zero, Int.add_zero, Int.mul_one, nc0, nc1, nc2, nc3, nc4, nc5, nc6, nc7, nc8, nc9, nc10, nc11, nc12, nc13, List.cons_append, List.nil_append, decide_true, decide_false, not_false_eq_true, not_true_eq_false, mCallR_ev, retLE_rtL, retDE_rt, flatR_bl, flatR_int, flatR_str, flatR_non, flatR_exc, getOwn_own, mMut0_ev, mSetIx_ev, putIx_ok, rev_lst, lrep_ev, if_small, if_small', rngL_len, endS_nx, endS_rt, in_sign, notIn_sign, isN_str, notN_str, isN_tup, notN_tup, isi_int_int, isi_int_bool, isi_bl_bool, isi_bl_int, isi_str_str, isi_tup_tup, isi_lst_lst, isi_non_int, isi_non_tup, _root_.FL.R.ok_bind, _root_.FL.R.exc_bind, _root_.FL.R.stuck_bind, _root_.FL.R.pure_eq, List.append_nil, List.length_cons, List.length_nil, Nat.zero_add, Nat.reduceAdd, Nat.reduceLeDiff, Nat.reduceLT, decide_eq_true_eq, if_true, if_false, ite_true, ite_false, Bool.true_eq_false, Bool.false_eq_true, Bool.not_true, Bool.not_false, reduceIte, Bool.not_eq_true', decide_eq_false_iff_not, q1, n0, gs, f2']
        · simp -implicitDefEqProofs (disch := first | omega | (simp only [List.length_map, List.length_append, List.length_cons, List.length_nil, List.length_take, List.length_drop, repS_len, rngL_len, List.length_range, List.length_reverse]; done) | (simp only [List.length_map, List.length_append, List.length_cons, List.length_nil, List.length_take, List.length_drop, repS_len, rngL_len, List.length_range, List.length_reverse]; omega)) only [mVar_ev, mVarR_ev, getV_val, getR_val, getR_own, mC_ev, mOp_ev, mOpL_ev, mT_ev, asB_bl, mAnd_ev, mOr_ev, mNot_ev, mAndV_ev, mOrV_ev, mNotV_ev, mIf_ev, mNil_ev, mCons_ev, mTup_ev, mLst_ev, mCall_ev, mPn_ev, mPs_ev, asI_int, mSl_ev, mSlL_ev, asL_lst, asL_scr, asTp_tup, asSt_str, R_ite, mWalk_ev, mLe_ev, mNeg_ev, mSeq_ev, mSkip_ev, bind_nx, bind_rt, bind_rtL, bind_bk, bind_ct, bind_ex, bind_ite, lift_ok, lift_exc, lift_ite, mAsg_ev, mAsgL_ev, mDrop_ev, mRet_ev, mRetL_ev, mRetN_ev, mRetOwn_ev, getO_own, mIfS_ev, mSet1_ev, onO_own, onO_val, mAppend_ev, putO_own, mAsgG_ev, optSO_some, gSet_ev, gsNil_ev, gsCons_ev, obind_some, gTupM_1, gTupM_2, gTupM_3, gTupM_4, gTupM_5, gTupM_6, mFor_ev, retD_nx, retD_rt, retD_rtL, retD_ex, retD_ite, retLs_rtL, retLs_ex, retLs_ite, nth_zero, nth_succ, set_zero, set_succ, add_int, add_str, add_lst, lcat_lst, sub_int', neg_int', lt_int', le_int', gt_int', ge_int', mod_int', fdiv_int, mul_int', mul_str', isN_non, isN_int, notN_non, notN_int, eq_int', ne_int', eq_str', ne_str', eq_bl', ne_bl', len_str', len_lst, len_tup, len_scr, max_int, min_int, sl_str', sl_lst, sl_scr, lsl_lst, lsl_scr, ix_str', ix_lst, ix_tup', ix_scr, range1_ok, range2_ok, range3_ok, mMeth_ev, onStr_str, mComp_ev, mCh_ev, wipeE_nil, wipeE_cons, mYes_ev, int_int, int_bl, asW_lst, asW_tup, asW_scr, asW_str, lt_str', le_str', gt_str', ge_str', mRaise_ev, sum_ints, all_bls, any_bls, list_lst, list_tup, list_scr, sorted_ints', g_find_ev, g_find3_ev, g_find4_ev, g_rfind_ev, g_rfind4_ev, g_count_ev, g_count3_ev, g_count4_ev, g_startswith_ev, g_endswith_ev, Int.reduceToNat, List.getD_cons_zero, List.getD_cons_succ, List.length_map, List.length_reverse, Int.zero_mul, Int.mul_zero, Int.add_zero, Int.mul_one, nc0, nc1, nc2, nc3, nc4, nc5, nc6, nc7, nc8, nc9, nc10, nc11, nc12, nc13, List.cons_append, List.nil_append, decide_true, decide_false, not_false_eq_true, not_true_eq_false, mCallR_ev, retLE_rtL, retDE_rt, flatR_bl, flatR_int, flatR_str, flatR_non, flatR_exc, getOwn_own, mMut0_ev, mSetIx_ev, putIx_ok, rev_lst, lrep_ev, if_small, if_small', rngL_len, endS_nx, endS_rt, in_sign, notIn_sign, isN_str, notN_str, isN_tup, notN_tup, isi_int_int, isi_int_bool, isi_bl_bool, isi_bl_int, isi_str_str, isi_tup_tup, isi_lst_lst, isi_non_int, isi_non_tup, _root_.FL.R.ok_bind, _root_.FL.R.exc_bind, _root_.FL.R.stuck_bind, _root_.FL.R.pure_eq, List.append_nil, List.length_cons, List.length_nil, Nat.zero_add, Nat.reduceAdd, Nat.reduceLeDiff, Nat.reduceLT, decide_eq_true_eq, if_true, if_false, ite_true, ite_false, Bool.true_eq_false, Bool.false_eq_true, Bool.not_true, Bool.not_false, reduceIte, Bool.not_eq_true', decide_eq_false_iff_not, q1]
      · rcases h2 with z | z
        · left
          rw [hj] at z
          exact List.length_eq_zero_iff.mp z
        · right
          rw [← hj]
          exact z
  rcases wl with ⟨n, w1, w2⟩ | ⟨w1, w2⟩
  · rw [mSeq_ev, w2, w1]
    simp -implicitDefEqProofs (disch := first | omega | (simp only [List.length_map, List.length_append, List.length_cons, List.length_nil, List.length_take, List.length_drop, repS_len, rngL_len, List.length_range, List.length_reverse]; done) | (simp only [List.length_map, List.length_append, List.length_cons, List.length_nil, List.length_take, List.length_drop, repS_len, rngL_len, List.length_range, List.length_reverse]; omega)) only [mVar_ev, mVarR_ev, getV_val, getR_val, getR_own, mC_ev, mOp_ev, mOpL_ev, mT_ev, asB_bl, mAnd_ev, mOr_ev, mNot_ev, mAndV_ev, mOrV_ev, mNotV_ev, mIf_ev, mNil_ev, mCons_ev, mTup_ev, mLst_ev, mCall_ev, mPn_ev, mPs_ev, asI_int, mSl_ev, mSlL_ev, asL_lst, asL_scr, asTp_tup, asSt_str, R_ite, mWalk_ev, mLe_ev, mNeg_ev, mSeq_ev, mSkip_ev, bind_nx, bind_rt, bind_rtL, bind_bk, bind_ct, bind_ex, bind_ite, lift_ok, lift_exc, lift_ite, mAsg_ev, mAsgL_ev, mDrop_ev, mRet_ev, mRetL_ev, mRetN_ev, mRetOwn_ev, getO_own, mIfS_ev, mSet1_ev, onO_own, onO_val, mAppend_ev, putO_own, mAsgG_ev, optSO_some, gSet_ev, gsNil_ev, gsCons_ev, obind_some, gTupM_1, gTupM_2, gTupM_3, gTupM_4, gTupM_5, gTupM_6, mFor_ev, retD_nx, retD_rt, retD_rtL, retD_ex, retD_ite, retLs_rtL, retLs_ex, retLs_ite, nth_zero, nth_succ, set_zero, set_succ, add_int, add_str, add_lst, lcat_lst, sub_int', neg_int', lt_int', le_int', gt_int', ge_int', mod_int', fdiv_int, mul_int', mul_str', isN_non, isN_int, notN_non, notN_int, eq_int', ne_int', eq_str', ne_str', eq_bl', ne_bl', len_str', len_lst, len_tup, len_scr, max_int, min_int, sl_str', sl_lst, sl_scr, lsl_lst, lsl_scr, ix_str', ix_lst, ix_tup', ix_scr, range1_ok, range2_ok, range3_ok, mMeth_ev, onStr_str, mComp_ev, mCh_ev, wipeE_nil, wipeE_cons, mYes_ev, int_int, int_bl, asW_lst, asW_tup, asW_scr, asW_str, lt_str', le_str', gt_str', ge_str', mRaise_ev, sum_ints, all_bls, any_bls, list_lst, list_tup, list_scr, sorted_ints', g_find_ev, g_find3_ev, g_find4_ev, g_rfind_ev, g_rfind4_ev, g_count_ev, g_count3_ev, g_count4_ev, g_startswith_ev, g_endswith_ev, Int.reduceToNat, List.getD_cons_zero, List.getD_cons_succ, List.length_map, List.length_reverse, Int.zero_mul, Int.mul_zero, Int.add_zero, Int.mul_one, nc0, nc1, nc2, nc3, nc4, nc5, nc6, nc7, nc8, nc9, nc10, nc11, nc12, nc13, List.cons_append, List.nil_append, decide_true, decide_false, not_false_eq_true, not_true_eq_false, mCallR_ev, retLE_rtL, retDE_rt, flatR_bl, flatR_int, flatR_str, flatR_non, flatR_exc, getOwn_own, mMut0_ev, mSetIx_ev, putIx_ok, rev_lst, lrep_ev, if_small, if_small', rngL_len, endS_nx, endS_rt, in_sign, notIn_sign, isN_str, notN_str, isN_tup, notN_tup, isi_int_int, isi_int_bool, isi_bl_bool, isi_bl_int, isi_str_str, isi_tup_tup, isi_lst_lst, isi_non_int, isi_non_tup, _root_.FL.R.ok_bind, _root_.FL.R.exc_bind, _root_.FL.R.stuck_bind, _root_.FL.R.pure_eq, List.append_nil, List.length_cons, List.length_nil, Nat.zero_add, Nat.reduceAdd, Nat.reduceLeDiff, Nat.reduceLT, decide_eq_true_eq, if_true, if_false, ite_true, ite_false, Bool.true_eq_false, Bool.false_eq_true, Bool.not_true, Bool.not_false, reduceIte, Bool.not_eq_true', decide_eq_false_iff_not]
  · rw [mSeq_ev, w1, bind_nx]
    by_cases q : figs s = []
    · have e : ((at_ + (figs s).length : Nat) : Int) = at_ := by rw [q]; rfl
      have ec : countM s = .told [] 0 := by unfold countM; rw [if_pos q]
      rw [ec]
      simp -implicitDefEqProofs (disch := first | omega | (simp only [List.length_map, List.length_append, List.length_cons, List.length_nil, List.length_take, List.length_drop, repS_len, rngL_len, List.length_range, List.length_reverse]; done) | (simp only [List.length_map, List.length_append, List.length_cons, List.length_nil, List.length_take, List.length_drop, repS_len, rngL_len, List.length_range, List.length_reverse]; omega)) only [mVar_ev, mVarR_ev, getV_val, getR_val, getR_own, mC_ev, mOp_ev, mOpL_ev, mT_ev, asB_bl, mAnd_ev, mOr_ev, mNot_ev, mAndV_ev, mOrV_ev, mNotV_ev, mIf_ev, mNil_ev, mCons_ev, mTup_ev, mLst_ev, mCall_ev, mPn_ev, mPs_ev, asI_int, mSl_ev, mSlL_ev, asL_lst, asL_scr, asTp_tup, asSt_str, R_ite, mWalk_ev, mLe_ev, mNeg_ev, mSeq_ev, mSkip_ev, bind_nx, bind_rt, bind_rtL, bind_bk, bind_ct, bind_ex, bind_ite, lift_ok, lift_exc, lift_ite, mAsg_ev, mAsgL_ev, mDrop_ev, mRet_ev, mRetL_ev, mRetN_ev, mRetOwn_ev, getO_own, mIfS_ev, mSet1_ev, onO_own, onO_val, mAppend_ev, putO_own, mAsgG_ev, optSO_some, gSet_ev, gsNil_ev, gsCons_ev, obind_some, gTupM_1, gTupM_2, gTupM_3, gTupM_4, gTupM_5, gTupM_6, mFor_ev, retD_nx, retD_rt, retD_rtL, retD_ex, retD_ite, retLs_rtL, retLs_ex, retLs_ite, nth_zero, nth_succ, set_zero, set_succ, add_int, add_str, add_lst, lcat_lst, sub_int', neg_int', lt_int', le_int', gt_int', ge_int', mod_int', fdiv_int, mul_int', mul_str', isN_non, isN_int, notN_non, notN_int, eq_int', ne_int', eq_str', ne_str', eq_bl', ne_bl', len_str', len_lst, len_tup, len_scr, max_int, min_int, sl_str', sl_lst, sl_scr, lsl_lst, lsl_scr, ix_str', ix_lst, ix_tup', ix_scr, range1_ok, range2_ok, range3_ok, mMeth_ev, onStr_str, mComp_ev, mCh_ev, wipeE_nil, wipeE_cons, mYes_ev, int_int, int_bl, asW_lst, asW_tup, asW_scr, asW_str, lt_str', le_str', gt_str', ge_str', mRaise_ev, sum_ints, all_bls, any_bls, list_lst, list_tup, list_scr, sorted_ints', g_find_ev, g_find3_ev, g_find4_ev, g_rfind_ev, g_rfind4_ev, g_count_ev, g_count3_ev, g_count4_ev, g_startswith_ev, g_endswith_ev, Int.reduceToNat, List.getD_cons_zero, List.getD_cons_succ, List.length_map, List.length_reverse, Int.zero_mul, Int.mul_zero, Int.add_zero, Int.mul_one, nc0, nc1, nc2, nc3, nc4, nc5, nc6, nc7, nc8, nc9, nc10, nc11, nc12, nc13, List.cons_append, List.nil_append, decide_true, decide_false, not_false_eq_true, not_true_eq_false, mCallR_ev, retLE_rtL, retDE_rt, flatR_bl, flatR_int, flatR_str, flatR_non, flatR_exc, getOwn_own, mMut0_ev, mSetIx_ev, putIx_ok, rev_lst, lrep_ev, if_small, if_small', rngL_len, endS_nx, endS_rt, in_sign, notIn_sign, isN_str, notN_str, isN_tup, notN_tup, isi_int_int, isi_int_bool, isi_bl_bool, isi_bl_int, isi_str_str, isi_tup_tup, isi_lst_lst, isi_non_int, isi_non_tup, _root_.FL.R.ok_bind, _root_.FL.R.exc_bind, _root_.FL.R.stuck_bind, _root_.FL.R.pure_eq, List.append_nil, List.length_cons, List.length_nil, Nat.zero_add, Nat.reduceAdd, Nat.reduceLeDiff, Nat.reduceLT, decide_eq_true_eq, if_true, if_false, ite_true, ite_false, Bool.true_eq_false, Bool.false_eq_true, Bool.not_true, Bool.not_false, reduceIte, Bool.not_eq_true', decide_eq_false_iff_not, e]
      rfl
    · have hlen : 0 < (figs s).length := List.length_pos_iff.mpr q
      have e : ¬ ((at_ + (figs s).length : Nat) : Int) = at_ := by omega
      rcases w2 with w2 | w2
      · exact absurd w2 q
      have ec : countM s = .told (figs s) (figs s).length := by unfold countM; rw [if_neg q, if_neg w2.1, if_neg (by omega)]
      have cut : cutL ks (some (at_ : Int)) (some ((at_ + (figs s).length : Nat) : Int)) = figs s := by
        rw [cut_int _ _ _ (by omega) (by omega), Int.toNat_natCast, Int.toNat_natCast, Nat.add_sub_cancel_left, hs]
        exact (figs_pre s).symm
      rcases count_dg ec with ⟨z, _⟩ | ⟨c, c0, c1, c2, _, _⟩
      · exact absurd z q
      · have hi : gInt [.str (figs s)] = .ok (ctD (figs s)) := by
          rw [c2, ctD_dg c1 c0, int_dg c1]
        rw [ec]
        simp -implicitDefEqProofs (disch := first | omega | (simp only [List.length_map, List.length_append, List.length_cons, List.length_nil, List.length_take, List.length_drop, repS_len, rngL_len, List.length_range, List.length_reverse]; done) | (simp only [List.length_map, List.length_append, List.length_cons, List.length_nil, List.length_take, List.length_drop, repS_len, rngL_len, List.length_range, List.length_reverse]; omega)) only [mVar_ev, mVarR_ev, getV_val, getR_val, getR_own, mC_ev, mOp_ev, mOpL_ev, mT_ev, asB_bl, mAnd_ev, mOr_ev, mNot_ev, mAndV_ev, mOrV_ev, mNotV_ev, mIf_ev, mNil_ev, mCons_ev, mTup_ev, mLst_ev, mCall_ev, mPn_ev, mPs_ev, asI_int, mSl_ev, mSlL_ev, asL_lst, asL_scr, asTp_tup, asSt_str, R_ite, mWalk_ev, mLe_ev, mNeg_ev, mSeq_ev, mSkip_ev, bind_nx, bind_rt, bind_rtL, bind_bk, bind_ct, bind_ex, bind_ite, lift_ok, lift_exc, lift_ite, mAsg_ev, mAsgL_ev, mDrop_ev, mRet_ev, mRetL_ev, mRetN_ev, mRetOwn_ev, getO_own, mIfS_ev, mSet1_ev, onO_own, onO_val, mAppend_ev, putO_own, mAsgG_ev, optSO_some, gSet_ev, gsNil_ev, gsCons_ev, obind_some, gTupM_1, gTupM_2, gTupM_3, gTupM_4, gTupM_5, gTupM_6, mFor_ev, retD_nx, retD_rt, retD_rtL, retD_ex, retD_ite, retLs_rtL, retLs_ex, retLs_ite, nth_zero, nth_succ, set_zero, set_succ, add_int, add_str, add_lst, lcat_lst, sub_int', neg_int', lt_int', le_int', gt_int', ge_int', mod_int', fdiv_int, mul_int', mul_str', isN_non, isN_int, notN_non, notN_int, eq_int', ne_int', eq_str', ne_str', eq_bl', ne_bl', len_str', len_lst, len_tup, len_scr, max_int, min_int, sl_str', sl_lst, sl_scr, lsl_lst, lsl_scr, ix_str', ix_lst, ix_tup', ix_scr, range1_ok, range2_ok, range3_ok, mMeth_ev, onStr_str, mComp_ev, mCh_ev, wipeE_nil, wipeE_cons, mYes_ev, int_int, int_bl, asW_lst, asW_tup, asW_scr, asW_str, lt_str', le_str', gt_str', ge_str', mRaise_ev, sum_ints, all_bls, any_bls, list_lst, list_tup, list_scr, sorted_ints', g_find_ev, g_find3_ev, g_find4_ev, g_rfind_ev, g_rfind4_ev, g_count_ev, g_count3_ev, g_count4_ev, g_startswith_ev, g_endswith_ev, Int.reduceToNat, List.getD_cons_zero, List.getD_cons_succ, List.length_map, List.length_reverse, Int.zero_mul, Int.mul_zero, Int.add_zero, Int.mul_one, nc0, nc1, nc2, nc3, nc4, nc5, nc6, nc7, nc8, nc9, nc10, nc11, nc12, nc13, List.cons_append, List.nil_append, decide_true, decide_false, not_false_eq_true, not_true_eq_false, mCallR_ev, retLE_rtL, retDE_rt, flatR_bl, flatR_int, flatR_str, flatR_non, flatR_exc, getOwn_own, mMut0_ev, mSetIx_ev, putIx_ok, rev_lst, lrep_ev, if_small, if_small', rngL_len, endS_nx, endS_rt, in_sign, notIn_sign, isN_str, notN_str, isN_tup, notN_tup, isi_int_int, isi_int_bool, isi_bl_bool, isi_bl_int, isi_str_str, isi_tup_tup, isi_lst_lst, isi_non_int, isi_non_tup, _root_.FL.R.ok_bind, _root_.FL.R.exc_bind, _root_.FL.R.stuck_bind, _root_.FL.R.pure_eq, List.append_nil, List.length_cons, List.length_nil, Nat.zero_add, Nat.reduceAdd, Nat.reduceLeDiff, Nat.reduceLT, decide_eq_true_eq, if_true, if_false, ite_true, ite_false, Bool.true_eq_false, Bool.false_eq_true, Bool.not_true, Bool.not_false, reduceIte, Bool.not_eq_true', decide_eq_false_iff_not, e, cut, hi]
        rfl
theorem e_ended_loop (ks : List Nat) (at_ m b : Nat) (hl : ks.length ≤ 100000) : ∀ (r : List Nat) (j : Nat) (x : Slot), ks.drop (at_ + j) = r → at_ + j ≤ ks.length →
    (endedM m b r = .half ∧ ∃ x', forL (gSet 4) b_ended_l1 (rngL ((at_ + j : Nat) : Int) 1 r.length) [.val (.str ks), .val (.int at_), .val (.str [m]), .val (.str [b]), x] = .nx [.val (.str ks), .val (.int at_), .val (.str [m]), .val (.str [b]), x']) ∨
    (∃ n, endedM m b r = .non n ∧ forL (gSet 4) b_ended_l1 (rngL ((at_ + j : Nat) : Int) 1 r.length) [.val (.str ks), .val (.int at_), .val (.str [m]), .val (.str [b]), x] = .rt (tD .str at_ (.non (j + n) : TT (List Nat)))) ∨
    (∃ a n, endedM m b r = .told a n ∧ forL (gSet 4) b_ended_l1 (rngL ((at_ + j : Nat) : Int) 1 r.length) [.val (.str ks), .val (.int at_), .val (.str [m]), .val (.str [b]), x] = .rt (tD .str at_ (.told ((ks.drop at_).take j ++ a) (j + n))))
  | [], j, x, _, _ => .inl ⟨rfl, x, rfl⟩
  | c :: r, j, x, hd, hj => by
    obtain ⟨h1, h2, h3⟩ := dr hd
    have er : rngL ((at_ + j : Nat) : Int) 1 (c :: r).length = .int ((at_ + j : Nat) : Int) :: rngL ((at_ + (j + 1) : Nat) : Int) 1 r.length := by
      unfold rngL
      rw [List.length_cons, List.range_succ_eq_map, List.map_cons, List.map_map]
      congr 1
      · refine List.map_congr_left fun i _ => ?_
        show D.int _ = D.int _
        congr 1
        show ((at_ + j : Nat) : Int) + ((i + 1 : Nat) : Int) * 1 = ((at_ + (j + 1) : Nat) : Int) + (i : Int) * 1
        omega
    rw [er]
    have n0 : ((at_ + j : Nat) : Int).toNat = at_ + j := Int.toNat_natCast _
    have q1 : ((at_ + j : Nat) : Int) < ks.length := by omega
    have step : ∀ S : SO, b_ended_l1 [.val (.str ks), .val (.int at_), .val (.str [m]), .val (.str [b]), .val (.int ((at_ + j : Nat) : Int))] = S →
        forL (gSet 4) b_ended_l1 (.int ((at_ + j : Nat) : Int) :: rngL ((at_ + (j + 1) : Nat) : Int) 1 r.length) [.val (.str ks), .val (.int at_), .val (.str [m]), .val (.str [b]), x] = (match S with | .nx Γ' => forL (gSet 4) b_ended_l1 (rngL ((at_ + (j + 1) : Nat) : Int) 1 r.length) Γ' | .ct Γ' => forL (gSet 4) b_ended_l1 (rngL ((at_ + (j + 1) : Nat) : Int) 1 r.length) Γ' | .bk Γ' => .nx Γ' | s => s) := fun S e => by
      rw [← e]; rfl
    by_cases c1 : c = m
    · have em : endedM m b (c :: r) = .told [] 1 := if_pos c1
      refine .inr (.inr ⟨[], 1, em, ?_⟩)
      have cut : cutL ks (some (at_ : Int)) (some ((at_ + j : Nat) : Int)) = (ks.drop at_).take j := by
        rw [cut_int _ _ _ (by omega) (by omega), Int.toNat_natCast, Int.toNat_natCast, Nat.add_sub_cancel_left]
      rw [step (.rt (tD .str at_ (.told ((ks.drop at_).take j ++ []) (j + 1)))) (by
        unfold b_ended_l1
        simp -implicitDefEqProofs (disch := first | omega | (simp only [List.length_map, List.length_append, List.length_cons, List.length_nil, List.length_take, List.length_drop, repS_len, rngL_len, List.length_range, List.length_reverse]; done) | (simp only [List.length_map, List.length_append, List.length_cons, List.length_nil, List.length_take, List.length_drop, repS_len, rngL_len, List.length_range, List.length_reverse]; omega)) only [mVar_ev, mVarR_ev, getV_val, getR_val, getR_own, mC_ev, mOp_ev, mOpL_ev, mT_ev, asB_bl, mAnd_ev, mOr_ev, mNot_ev, mAndV_ev, mOrV_ev, mNotV_ev, mIf_ev, mNil_ev, mCons_ev, mTup_ev, mLst_ev, mCall_ev, mPn_ev, mPs_ev, asI_int, mSl_ev, mSlL_ev, asL_lst, asL_scr, asTp_tup, asSt_str, R_ite, mWalk_ev, mLe_ev, mNeg_ev, mSeq_ev, mSkip_ev, bind_nx, bind_rt, bind_rtL, bind_bk, bind_ct, bind_ex, bind_ite, lift_ok, lift_exc, lift_ite, mAsg_ev, mAsgL_ev, mDrop_ev, mRet_ev, mRetL_ev, mRetN_ev, mRetOwn_ev, getO_own, mIfS_ev, mSet1_ev, onO_own, onO_val, mAppend_ev, putO_own, mAsgG_ev, optSO_some, gSet_ev, gsNil_ev, gsCons_ev, obind_some, gTupM_1, gTupM_2, gTupM_3, gTupM_4, gTupM_5, gTupM_6, mFor_ev, retD_nx, retD_rt, retD_rtL, retD_ex, retD_ite, retLs_rtL, retLs_ex, retLs_ite, nth_zero, nth_succ, set_zero, set_succ, add_int, add_str, add_lst, lcat_lst, sub_int', neg_int', lt_int', le_int', gt_int', ge_int', mod_int', fdiv_int, mul_int', mul_str', isN_non, isN_int, notN_non, notN_int, eq_int', ne_int', eq_str', ne_str', eq_bl', ne_bl', len_str', len_lst, len_tup, len_scr, max_int, min_int, sl_str', sl_lst, sl_scr, lsl_lst, lsl_scr, ix_str', ix_lst, ix_tup', ix_scr, range1_ok, range2_ok, range3_ok, mMeth_ev, onStr_str, mComp_ev, mCh_ev, wipeE_nil, wipeE_cons, mYes_ev, int_int, int_bl, asW_lst, asW_tup, asW_scr, asW_str, lt_str', le_str', gt_str', ge_str', mRaise_ev, sum_ints, all_bls, any_bls, list_lst, list_tup, list_scr, sorted_ints', g_find_ev, g_find3_ev, g_find4_ev, g_rfind_ev, g_rfind4_ev, g_count_ev, g_count3_ev, g_count4_ev, g_startswith_ev, g_endswith_ev, Int.reduceToNat, List.getD_cons_zero, List.getD_cons_succ, List.length_map, List.length_reverse, Int.zero_mul, Int.mul_zero, Int.add_zero, Int.mul_one, nc0, nc1, nc2, nc3, nc4, nc5, nc6, nc7, nc8, nc9, nc10, nc11, nc12, nc13, List.cons_append, List.nil_append, decide_true, decide_false, not_false_eq_true, not_true_eq_false, mCallR_ev, retLE_rtL, retDE_rt, flatR_bl, flatR_int, flatR_str, flatR_non, flatR_exc, getOwn_own, mMut0_ev, mSetIx_ev, putIx_ok, rev_lst, lrep_ev, if_small, if_small', rngL_len, endS_nx, endS_rt, in_sign, notIn_sign, isN_str, notN_str, isN_tup, notN_tup, isi_int_int, isi_int_bool, isi_bl_bool, isi_bl_int, isi_str_str, isi_tup_tup, isi_lst_lst, isi_non_int, isi_non_tup, _root_.FL.R.ok_bind, _root_.FL.R.exc_bind, _root_.FL.R.stuck_bind, _root_.FL.R.pure_eq, List.append_nil, List.length_cons, List.length_nil, Nat.zero_add, Nat.reduceAdd, Nat.reduceLeDiff, Nat.reduceLT, decide_eq_true_eq, if_true, if_false, ite_true, ite_false, Bool.true_eq_false, Bool.false_eq_true, Bool.not_true, Bool.not_false, reduceIte, Bool.not_eq_true', decide_eq_false_iff_not, n0, h2, c1, cut]
        rfl)]
    · have c1' := one_ne c1
      by_cases c2 : c ≠ b ∧ isSg c = false
      · have em : endedM m b (c :: r) = .non 1 := (if_neg c1).trans (if_pos c2)
        refine .inr (.inl ⟨1, em, ?_⟩)
        have c2' := one_ne c2.1
        rw [step (.rt (tD .str at_ (.non (j + 1) : TT (List Nat)))) (by
          unfold b_ended_l1
          simp -implicitDefEqProofs (disch := first | omega | (simp only [List.length_map, List.length_append, List.length_cons, List.length_nil, List.length_take, List.length_drop, repS_len, rngL_len, List.length_range, List.length_reverse]; done) | (simp only [List.length_map, List.length_append, List.length_cons, List.length_nil, List.length_take, List.length_drop, repS_len, rngL_len, List.length_range, List.length_reverse]; omega)) only [mVar_ev, mVarR_ev, getV_val, getR_val, getR_own, mC_ev, mOp_ev, mOpL_ev, mT_ev, asB_bl, mAnd_ev, mOr_ev, mNot_ev, mAndV_ev, mOrV_ev, mNotV_ev, mIf_ev, mNil_ev, mCons_ev, mTup_ev, mLst_ev, mCall_ev, mPn_ev, mPs_ev, asI_int, mSl_ev, mSlL_ev, asL_lst, asL_scr, asTp_tup, asSt_str, R_ite, mWalk_ev, mLe_ev, mNeg_ev, mSeq_ev, mSkip_ev, bind_nx, bind_rt, bind_rtL, bind_bk, bind_ct, bind_ex, bind_ite, lift_ok, lift_exc, lift_ite, mAsg_ev, mAsgL_ev, mDrop_ev, mRet_ev, mRetL_ev, mRetN_ev, mRetOwn_ev, getO_own, mIfS_ev, mSet1_ev, onO_own, onO_val, mAppend_ev, putO_own, mAsgG_ev, optSO_some, gSet_ev, gsNil_ev, gsCons_ev, obind_some, gTupM_1, gTupM_2, gTupM_3, gTupM_4, gTupM_5, gTupM_6, mFor_ev, retD_nx, retD_rt, retD_rtL, retD_ex, retD_ite, retLs_rtL, retLs_ex, retLs_ite, nth_zero, nth_succ, set_zero, set_succ, add_int, add_str, add_lst, lcat_lst, sub_int', neg_int', lt_int', le_int', gt_int', ge_int', mod_int', fdiv_int, mul_int', mul_str', isN_non, isN_int, notN_non, notN_int, eq_int', ne_int', eq_str', ne_str', eq_bl', ne_bl', len_str', len_lst, len_tup, len_scr, max_int, min_int, sl_str', sl_lst, sl_scr, lsl_lst, lsl_scr, ix_str', ix_lst, ix_tup', ix_scr, range1_ok, range2_ok, range3_ok, mMeth_ev, onStr_str, mComp_ev, mCh_ev, wipeE_nil, wipeE_cons, mYes_ev, int_int, int_bl, asW_lst, asW_tup, asW_scr, asW_str, lt_str', le_str', gt_str', ge_str', mRaise_ev, sum_ints, all_bls, any_bls, list_lst, list_tup, list_scr, sorted_ints', g_find_ev, g_find3_ev, g_find4_ev, g_rfind_ev, g_rfind4_ev, g_count_ev, g_count3_ev, g_count4_ev, g_startswith_ev, g_endswith_ev, Int.reduceToNat, List.getD_cons_zero, List.getD_cons_succ, List.length_map, List.length_reverse, Int.zero_mul, Int.mul_zero, Int.add_zero, Int.mul_one, nc0, nc1, nc2, nc3, nc4, nc5, nc6, nc7, nc8, nc9, nc10, nc11, nc12, nc13, List.cons_append, List.nil_append, decide_true, decide_false, not_false_eq_true, not_true_eq_false, mCallR_ev, retLE_rtL, retDE_rt, flatR_bl, flatR_int, flatR_str, flatR_non, flatR_exc, getOwn_own, mMut0_ev, mSetIx_ev, putIx_ok, rev_lst, lrep_ev, if_small, if_small', rngL_len, endS_nx, endS_rt, in_sign, notIn_sign, isN_str, notN_str, isN_tup, notN_tup, isi_int_int, isi_int_bool, isi_bl_bool, isi_bl_int, isi_str_str, isi_tup_tup, isi_lst_lst, isi_non_int, isi_non_tup, _root_.FL.R.ok_bind, _root_.FL.R.exc_bind, _root_.FL.R.stuck_bind, _root_.FL.R.pure_eq, List.append_nil, List.length_cons, List.length_nil, Nat.zero_add, Nat.reduceAdd, Nat.reduceLeDiff, Nat.reduceLT, decide_eq_true_eq, if_true, if_false, ite_true, ite_false, Bool.true_eq_false, Bool.false_eq_true, Bool.not_true, Bool.not_false, reduceIte, Bool.not_eq_true', decide_eq_false_iff_not, n0, h2, c1', c2', e_sg, c2.2]
          rfl)]
      · have em : endedM m b (c :: r) = (match endedM m b r with | .half => .half | .non n => .non (n + 1) | .told a n => .told (c :: a) (n + 1)) := (if_neg c1).trans (if_neg c2)
        have eb : b_ended_l1 [.val (.str ks), .val (.int at_), .val (.str [m]), .val (.str [b]), .val (.int ((at_ + j : Nat) : Int))] = .nx [.val (.str ks), .val (.int at_), .val (.str [m]), .val (.str [b]), .val (.int ((at_ + j : Nat) : Int))] := by
          unfold b_ended_l1
          by_cases c3 : c = b
          · simp -implicitDefEqProofs (disch := first | omega | (simp only [List.length_map, List.length_append, List.length_cons, List.length_nil, List.length_take, List.length_drop, repS_len, rngL_len, List.length_range, List.length_reverse]; done) | (simp only [List.length_map, List.length_append, List.length_cons, List.length_nil, List.length_take, List.length_drop, repS_len, rngL_len, List.length_range, List.length_reverse]; omega)) only [mVar_ev, mVarR_ev, getV_val, getR_val, getR_own, mC_ev, mOp_ev, mOpL_ev, mT_ev, asB_bl, mAnd_ev, mOr_ev, mNot_ev, mAndV_ev, mOrV_ev, mNotV_ev, mIf_ev, mNil_ev, mCons_ev, mTup_ev, mLst_ev, mCall_ev, mPn_ev, mPs_ev, asI_int, mSl_ev, mSlL_ev, asL_lst, asL_scr, asTp_tup, asSt_str, R_ite, mWalk_ev, mLe_ev, mNeg_ev, mSeq_ev, mSkip_ev, bind_nx, bind_rt, bind_rtL, bind_bk, bind_ct, bind_ex, bind_ite, lift_ok, lift_exc, lift_ite, mAsg_ev, mAsgL_ev, mDrop_ev, mRet_ev, mRetL_ev, mRetN_ev, mRetOwn_ev, getO_own, mIfS_ev, mSet1_ev, onO_own, onO_val, mAppend_ev, putO_own, mAsgG_ev, optSO_some, gSet_ev, gsNil_ev, gsCons_ev, obind_some, gTupM_1, gTupM_2, gTupM_3, gTupM_4, gTupM_5, gTupM_6, mFor_ev, retD_nx, retD_rt, retD_rtL, retD_ex, retD_ite, retLs_rtL, retLs_ex, retLs_ite, nth_zero, nth_succ, set_zero, set_succ, add_int, add_str, add_lst, lcat_lst, sub_int', neg_int', lt_int', le_int', gt_int', ge_int', mod_int', fdiv_int, mul_int', mul_str', isN_non, isN_int, notN_non, notN_int, eq_int', ne_int', eq_str', ne_str', eq_bl', ne_bl', len_str', len_lst, len_tup, len_scr, max_int, min_int, sl_str', sl_lst, sl_scr, lsl_lst, lsl_scr, ix_str', ix_lst, ix_tup', ix_scr, range1_ok, range2_ok, range3_ok, mMeth_ev, onStr_str, mComp_ev, mCh_ev, wipeE_nil, wipeE_cons, mYes_ev, int_int, int_bl, asW_lst, asW_tup, asW_scr, asW_str, lt_str', le_str', gt_str', ge_str', mRaise_ev, sum_ints, all_bls, any_bls, list_lst, list_tup, list_scr, sorted_ints', g_find_ev, g_find3_ev, g_find4_ev, g_rfind_ev, g_rfind4_ev, g_count_ev, g_count3_ev, g_count4_ev, g_startswith_ev, g_endswith_ev, Int.reduceToNat, List.getD_cons_zero, List.getD_cons_succ, List.length_map, List.length_reverse, Int.zero_mul, Int.mul_zero, Int.add_zero, Int.mul_one, nc0, nc1, nc2, nc3, nc4, nc5, nc6, nc7, nc8, nc9, nc10, nc11, nc12, nc13, List.cons_append, List.nil_append, decide_true, decide_false, not_false_eq_true, not_true_eq_false, mCallR_ev, retLE_rtL, retDE_rt, flatR_bl, flatR_int, flatR_str, flatR_non, flatR_exc, getOwn_own, mMut0_ev, mSetIx_ev, putIx_ok, rev_lst, lrep_ev, if_small, if_small', rngL_len, endS_nx, endS_rt, in_sign, notIn_sign, isN_str, notN_str, isN_tup, notN_tup, isi_int_int, isi_int_bool, isi_bl_bool, isi_bl_int, isi_str_str, isi_tup_tup, isi_lst_lst, isi_non_int, isi_non_tup, _root_.FL.R.ok_bind, _root_.FL.R.exc_bind, _root_.FL.R.stuck_bind, _root_.FL.R.pure_eq, List.append_nil, List.length_cons, List.length_nil, Nat.zero_add, Nat.reduceAdd, Nat.reduceLeDiff, Nat.reduceLT, decide_eq_true_eq, if_true, if_false, ite_true, ite_false, Bool.true_eq_false, Bool.false_eq_true, Bool.not_true, Bool.not_false, reduceIte, Bool.not_eq_true', decide_eq_false_iff_not, n0, h2, c1', c3]
            have z : ¬ [b] = [m] := by rw [← c3]; exact c1'
            simp -implicitDefEqProofs (disch := first | omega | (simp only [List.length_map, List.length_append, List.length_cons, List.length_nil, List.length_take, List.length_drop, repS_len, rngL_len, List.length_range, List.length_reverse]; done) | (simp only [List.length_map, List.length_append, List.length_cons, List.length_nil, List.length_take, List.length_drop, repS_len, rngL_len, List.length_range, List.length_reverse]; omega)) only [mVar_ev, mVarR_ev, getV_val, getR_val, getR_own, mC_ev, mOp_ev, mOpL_ev, mT_ev, asB_bl, mAnd_ev, mOr_ev, mNot_ev, mAndV_ev, mOrV_ev, mNotV_ev, mIf_ev, mNil_ev, mCons_ev, mTup_ev, mLst_ev, mCall_ev, mPn_ev, mPs_ev, asI_int, mSl_ev, mSlL_ev, asL_lst, asL_scr, asTp_tup, asSt_str, R_ite, mWalk_ev, mLe_ev, mNeg_ev, mSeq_ev, mSkip_ev, bind_nx, bind_rt, bind_rtL, bind_bk, bind_ct, bind_ex, bind_ite, lift_ok, lift_exc, lift_ite, mAsg_ev, mAsgL_ev, mDrop_ev, mRet_ev, mRetL_ev, mRetN_ev, mRetOwn_ev, getO_own, mIfS_ev, mSet1_ev, onO_own, onO_val, mAppend_ev, putO_own, mAsgG_ev, optSO_some, gSet_ev, gsNil_ev, gsCons_ev, obind_some, gTupM_1, gTupM_2, gTupM_3, gTupM_4, gTupM_5, gTupM_6, mFor_ev, retD_nx, retD_rt, retD_rtL, retD_ex, retD_ite, retLs_rtL, retLs_ex, retLs_ite, nth_zero, nth_succ, set_zero, set_succ, add_int, add_str, add_lst, lcat_lst, sub_int', neg_int', lt_int', le_int', gt_int', ge_int', mod_int', fdiv_int, mul_int', mul_str', isN_non, isN_int, notN_non, notN_int, eq_int', ne_int', eq_str', ne_str', eq_bl', ne_bl', len_str', len_lst, len_tup, len_scr, max_int, min_int, sl_str', sl_lst, sl_scr, lsl_lst, lsl_scr, ix_str', ix_lst, ix_tup', ix_scr, range1_ok, range2_ok, range3_ok, mMeth_ev, onStr_str, mComp_ev, mCh_ev, wipeE_nil, wipeE_cons, mYes_ev, int_int, int_bl, asW_lst, asW_tup, asW_scr, asW_str, lt_str', le_str', gt_str', ge_str', mRaise_ev, sum_ints, all_bls, any_bls, list_lst, list_tup, list_scr, sorted_ints', g_find_ev, g_find3_ev, g_find4_ev, g_rfind_ev, g_rfind4_ev, g_count_ev, g_count3_ev, g_count4_ev, g_startswith_ev, g_endswith_ev, Int.reduceToNat, List.getD_cons_zero, List.getD_cons_succ, List.length_map, List.length_reverse, Int.zero_mul, Int.mul_zero, Int.add_zero, Int.mul_one, nc0, nc1, nc2, nc3, nc4, nc5, nc6, nc7, nc8, nc9, nc10, nc11, nc12, nc13, List.cons_append, List.nil_append, decide_true, decide_false, not_false_eq_true, not_true_eq_false, mCallR_ev, retLE_rtL, retDE_rt, flatR_bl, flatR_int, flatR_str, flatR_non, flatR_exc, getOwn_own, mMut0_ev, mSetIx_ev, putIx_ok, rev_lst, lrep_ev, if_small, if_small', rngL_len, endS_nx, endS_rt, in_sign, notIn_sign, isN_str, notN_str, isN_tup, notN_tup, isi_int_int, isi_int_bool, isi_bl_bool, isi_bl_int, isi_str_str, isi_tup_tup, isi_lst_lst, isi_non_int, isi_non_tup, _root_.FL.R.ok_bind, _root_.FL.R.exc_bind, _root_.FL.R.stuck_bind, _root_.FL.R.pure_eq, List.append_nil, List.length_cons, List.length_nil, Nat.zero_add, Nat.reduceAdd, Nat.reduceLeDiff, Nat.reduceLT, decide_eq_true_eq, if_true, if_false, ite_true, ite_false, Bool.true_eq_false, Bool.false_eq_true, Bool.not_true, Bool.not_false, reduceIte, Bool.not_eq_true', decide_eq_false_iff_not, z]
          · have c3' := one_ne c3
            have c4 : isSg c = true := by
              cases hh : isSg c with
              | true => rfl
              | false => exact absurd ⟨c3, hh⟩ c2
            simp -implicitDefEqProofs (disch := first | omega | (simp only [List.length_map, List.length_append, List.length_cons, List.length_nil, List.length_take, List.length_drop, repS_len, rngL_len, List.length_range, List.length_reverse]; done) | (simp only [List.length_map, List.length_append, List.length_cons, List.length_nil, List.length_take, List.length_drop, repS_len, rngL_len, List.length_range, List.length_reverse]; omega)) only [mVar_ev, mVarR_ev, getV_val, getR_val, getR_own, mC_ev, mOp_ev, mOpL_ev, mT_ev, asB_bl, mAnd_ev, mOr_ev, mNot_ev, mAndV_ev, mOrV_ev, mNotV_ev, mIf_ev, mNil_ev, mCons_ev, mTup_ev, mLst_ev, mCall_ev, mPn_ev, mPs_ev, asI_int, mSl_ev, mSlL_ev, asL_lst, asL_scr, asTp_tup, asSt_str, R_ite, mWalk_ev, mLe_ev, mNeg_ev, mSeq_ev, mSkip_ev, bind_nx, bind_rt, bind_rtL, bind_bk, bind_ct, bind_ex, bind_ite, lift_ok, lift_exc, lift_ite, mAsg_ev, mAsgL_ev, mDrop_ev, mRet_ev, mRetL_ev, mRetN_ev, mRetOwn_ev, getO_own, mIfS_ev, mSet1_ev, onO_own, onO_val, mAppend_ev, putO_own, mAsgG_ev, optSO_some, gSet_ev, gsNil_ev, gsCons_ev, obind_some, gTupM_1, gTupM_2, gTupM_3, gTupM_4, gTupM_5, gTupM_6, mFor_ev, retD_nx, retD_rt, retD_rtL, retD_ex, retD_ite, retLs_rtL, retLs_ex, retLs_ite, nth_zero, nth_succ, set_zero, set_succ, add_int, add_str, add_lst, lcat_lst, sub_int', neg_int', lt_int', le_int', gt_int', ge_int', mod_int', fdiv_int, mul_int', mul_str', isN_non, isN_int, notN_non, notN_int, eq_int', ne_int', eq_str', ne_str', eq_bl', ne_bl', len_str', len_lst, len_tup, len_scr, max_int, min_int, sl_str', sl_lst, sl_scr, lsl_lst, lsl_scr, ix_str', ix_lst, ix_tup', ix_scr, range1_ok, range2_ok, range3_ok, mMeth_ev, onStr_str, mComp_ev, mCh_ev, wipeE_nil, wipeE_cons, mYes_ev, int_int, int_bl, asW_lst, asW_tup, asW_scr, asW_str, lt_str', le_str', gt_str', ge_str', mRaise_ev, sum_ints, all_bls, any_bls, list_lst, list_tup, list_scr, sorted_ints', g_find_ev, g_find3_ev, g_find4_ev, g_rfind_ev, g_rfind4_ev, g_count_ev, g_count3_ev, g_count4_ev, g_startswith_ev, g_endswith_ev, Int.reduceToNat, List.getD_cons_zero, List.getD_cons_succ, List.length_map, List.length_reverse, Int.zero_mul, Int.mul_zero, Int.add_zero, Int.mul_one, nc0, nc1, nc2, nc3, nc4, nc5, nc6, nc7, nc8, nc9, nc10, nc11, nc12, nc13, List.cons_append, List.nil_append, decide_true, decide_false, not_false_eq_true, not_true_eq_false, mCallR_ev, retLE_rtL, retDE_rt, flatR_bl, flatR_int, flatR_str, flatR_non, flatR_exc, getOwn_own, mMut0_ev, mSetIx_ev, putIx_ok, rev_lst, lrep_ev, if_small, if_small', rngL_len, endS_nx, endS_rt, in_sign, notIn_sign, isN_str, notN_str, isN_tup, notN_tup, isi_int_int, isi_int_bool, isi_bl_bool, isi_bl_int, isi_str_str, isi_tup_tup, isi_lst_lst, isi_non_int, isi_non_tup, _root_.FL.R.ok_bind, _root_.FL.R.exc_bind, _root_.FL.R.stuck_bind, _root_.FL.R.pure_eq, List.append_nil, List.length_cons, List.length_nil, Nat.zero_add, Nat.reduceAdd, Nat.reduceLeDiff, Nat.reduceLT, decide_eq_true_eq, if_true, if_false, ite_true, ite_false, Bool.true_eq_false, Bool.false_eq_true, Bool.not_true, Bool.not_false, reduceIte, Bool.not_eq_true', decide_eq_false_iff_not, n0, h2, c1', c3', e_sg, c4]
        rw [step _ eb, em]
        have ih := e_ended_loop ks at_ m b hl r (j + 1) (.val (.int ((at_ + j : Nat) : Int))) h3 (by omega)
        have tk : (ks.drop at_).take (j + 1) = (ks.drop at_).take j ++ [c] := by
          rw [List.take_add_one, List.getElem?_drop, List.getElem?_eq_getElem h1]
          rw [List.getD_eq_getElem?_getD, List.getElem?_eq_getElem h1] at h2
          have : ks[at_ + j] = c := h2
          rw [this]; rfl
        rcases ih with ⟨i1, x', i2⟩ | ⟨n, i1, i2⟩ | ⟨a, n, i1, i2⟩
        · exact .inl ⟨by rw [i1], x', i2⟩
        · refine .inr (.inl ⟨n + 1, by rw [i1], ?_⟩)
          rw [show j + (n + 1) = j + 1 + n by omega]
          exact i2
        · refine .inr (.inr ⟨c :: a, n + 1, by rw [i1], ?_⟩)
          rw [show j + (n + 1) = j + 1 + n by omega]
          rw [tk, List.append_assoc] at i2
          exact i2
theorem e_ended (ks : List Nat) (at_ m b : Nat) (hl : ks.length ≤ 100000) (ha : at_ ≤ ks.length) : p_ended [.str ks, .int at_, .str [m], .str [b]] = .ok (tD .str at_ (endedM m b (ks.drop at_))) := by
  rw [u_ended]; unfold b_ended
  have h := e_ended_loop ks at_ m b hl (ks.drop at_) 0 .no rfl ha
  have er : rngL (at_ : Int) 1 ((ks.length : Int) - at_).toNat = rngL ((at_ + 0 : Nat) : Int) 1 (ks.drop at_).length := by
    rw [List.length_drop]
    congr 1
    omega
  simp -implicitDefEqProofs (disch := first | omega | (simp only [List.length_map, List.length_append, List.length_cons, List.length_nil, List.length_take, List.length_drop, repS_len, rngL_len, List.length_range, List.length_reverse]; done) | (simp only [List.length_map, List.length_append, List.length_cons, List.length_nil, List.length_take, List.length_drop, repS_len, rngL_len, List.length_range, List.length_reverse]; omega)) only [mVar_ev, mVarR_ev, getV_val, getR_val, getR_own, mC_ev, mOp_ev, mOpL_ev, mT_ev, asB_bl, mAnd_ev, mOr_ev, mNot_ev, mAndV_ev, mOrV_ev, mNotV_ev, mIf_ev, mNil_ev, mCons_ev, mTup_ev, mLst_ev, mCall_ev, mPn_ev, mPs_ev, asI_int, mSl_ev, mSlL_ev, asL_lst, asL_scr, asTp_tup, asSt_str, R_ite, mWalk_ev, mLe_ev, mNeg_ev, mSeq_ev, mSkip_ev, bind_rt, bind_rtL, bind_bk, bind_ct, bind_ex, bind_ite, lift_ok, lift_exc, lift_ite, mAsg_ev, mAsgL_ev, mDrop_ev, mRet_ev, mRetL_ev, mRetN_ev, mRetOwn_ev, getO_own, mIfS_ev, mSet1_ev, onO_own, onO_val, mAppend_ev, putO_own, mAsgG_ev, optSO_some, gSet_ev, gsNil_ev, gsCons_ev, obind_some, gTupM_1, gTupM_2, gTupM_3, gTupM_4, gTupM_5, gTupM_6, mFor_ev, retD_nx, retD_rt, retD_rtL, retD_ex, retD_ite, retLs_rtL, retLs_ex, retLs_ite, nth_zero, nth_succ, set_zero, set_succ, add_int, add_str, add_lst, lcat_lst, sub_int', neg_int', lt_int', le_int', gt_int', ge_int', mod_int', fdiv_int, mul_int', mul_str', isN_non, isN_int, notN_non, notN_int, eq_int', ne_int', eq_str', ne_str', eq_bl', ne_bl', len_str', len_lst, len_tup, len_scr, max_int, min_int, sl_str', sl_lst, sl_scr, lsl_lst, lsl_scr, ix_str', ix_lst, ix_tup', ix_scr, range1_ok, range2_ok, range3_ok, mMeth_ev, onStr_str, mComp_ev, mCh_ev, wipeE_nil, wipeE_cons, mYes_ev, int_int, int_bl, asW_lst, asW_tup, asW_scr, asW_str, lt_str', le_str', gt_str', ge_str', mRaise_ev, sum_ints, all_bls, any_bls, list_lst, list_tup, list_scr, sorted_ints', g_find_ev, g_find3_ev, g_find4_ev, g_rfind_ev, g_rfind4_ev, g_count_ev, g_count3_ev, g_count4_ev, g_startswith_ev, g_endswith_ev, Int.reduceToNat, List.getD_cons_zero, List.getD_cons_succ, List.length_map, List.length_reverse, Int.zero_mul, Int.mul_zero, Int.add_zero, Int.mul_one, nc0, nc1, nc2, nc3, nc4, nc5, nc6, nc7, nc8, nc9, nc10, nc11, nc12, nc13, List.cons_append, List.nil_append, decide_true, decide_false, not_false_eq_true, not_true_eq_false, mCallR_ev, retLE_rtL, retDE_rt, flatR_bl, flatR_int, flatR_str, flatR_non, flatR_exc, getOwn_own, mMut0_ev, mSetIx_ev, putIx_ok, rev_lst, lrep_ev, if_small, if_small', rngL_len, endS_nx, endS_rt, in_sign, notIn_sign, isN_str, notN_str, isN_tup, notN_tup, isi_int_int, isi_int_bool, isi_bl_bool, isi_bl_int, isi_str_str, isi_tup_tup, isi_lst_lst, isi_non_int, isi_non_tup, _root_.FL.R.ok_bind, _root_.FL.R.exc_bind, _root_.FL.R.stuck_bind, _root_.FL.R.pure_eq, List.append_nil, List.length_cons, List.length_nil, Nat.zero_add, Nat.reduceAdd, Nat.reduceLeDiff, Nat.reduceLT, decide_eq_true_eq, if_true, if_false, ite_true, ite_false, Bool.true_eq_false, Bool.false_eq_true, Bool.not_true, Bool.not_false, reduceIte, Bool.not_eq_true', decide_eq_false_iff_not, er]
  rcases h with ⟨i1, x', i2⟩ | ⟨n, i1, i2⟩ | ⟨a, n, i1, i2⟩
  · rw [i2, i1, bind_nx]
    simp -implicitDefEqProofs (disch := first | omega | (simp only [List.length_map, List.length_append, List.length_cons, List.length_nil, List.length_take, List.length_drop, repS_len, rngL_len, List.length_range, List.length_reverse]; done) | (simp only [List.length_map, List.length_append, List.length_cons, List.length_nil, List.length_take, List.length_drop, repS_len, rngL_len, List.length_range, List.length_reverse]; omega)) only [mVar_ev, mVarR_ev, getV_val, getR_val, getR_own, mC_ev, mOp_ev, mOpL_ev, mT_ev, asB_bl, mAnd_ev, mOr_ev, mNot_ev, mAndV_ev, mOrV_ev, mNotV_ev, mIf_ev, mNil_ev, mCons_ev, mTup_ev, mLst_ev, mCall_ev, mPn_ev, mPs_ev, asI_int, mSl_ev, mSlL_ev, asL_lst, asL_scr, asTp_tup, asSt_str, R_ite, mWalk_ev, mLe_ev, mNeg_ev, mSeq_ev, mSkip_ev, bind_nx, bind_rt, bind_rtL, bind_bk, bind_ct, bind_ex, bind_ite, lift_ok, lift_exc, lift_ite, mAsg_ev, mAsgL_ev, mDrop_ev, mRet_ev, mRetL_ev, mRetN_ev, mRetOwn_ev, getO_own, mIfS_ev, mSet1_ev, onO_own, onO_val, mAppend_ev, putO_own, mAsgG_ev, optSO_some, gSet_ev, gsNil_ev, gsCons_ev, obind_some, gTupM_1, gTupM_2, gTupM_3, gTupM_4, gTupM_5, gTupM_6, mFor_ev, retD_nx, retD_rt, retD_rtL, retD_ex, retD_ite, retLs_rtL, retLs_ex, retLs_ite, nth_zero, nth_succ, set_zero, set_succ, add_int, add_str, add_lst, lcat_lst, sub_int', neg_int', lt_int', le_int', gt_int', ge_int', mod_int', fdiv_int, mul_int', mul_str', isN_non, isN_int, notN_non, notN_int, eq_int', ne_int', eq_str', ne_str', eq_bl', ne_bl', len_str', len_lst, len_tup, len_scr, max_int, min_int, sl_str', sl_lst, sl_scr, lsl_lst, lsl_scr, ix_str', ix_lst, ix_tup', ix_scr, range1_ok, range2_ok, range3_ok, mMeth_ev, onStr_str, mComp_ev, mCh_ev, wipeE_nil, wipeE_cons, mYes_ev, int_int, int_bl, asW_lst, asW_tup, asW_scr, asW_str, lt_str', le_str', gt_str', ge_str', mRaise_ev, sum_ints, all_bls, any_bls, list_lst, list_tup, list_scr, sorted_ints', g_find_ev, g_find3_ev, g_find4_ev, g_rfind_ev, g_rfind4_ev, g_count_ev, g_count3_ev, g_count4_ev, g_startswith_ev, g_endswith_ev, Int.reduceToNat, List.getD_cons_zero, List.getD_cons_succ, List.length_map, List.length_reverse, Int.zero_mul, Int.mul_zero, Int.add_zero, Int.mul_one, nc0, nc1, nc2, nc3, nc4, nc5, nc6, nc7, nc8, nc9, nc10, nc11, nc12, nc13, List.cons_append, List.nil_append, decide_true, decide_false, not_false_eq_true, not_true_eq_false, mCallR_ev, retLE_rtL, retDE_rt, flatR_bl, flatR_int, flatR_str, flatR_non, flatR_exc, getOwn_own, mMut0_ev, mSetIx_ev, putIx_ok, rev_lst, lrep_ev, if_small, if_small', rngL_len, endS_nx, endS_rt, in_sign, notIn_sign, isN_str, notN_str, isN_tup, notN_tup, isi_int_int, isi_int_bool, isi_bl_bool, isi_bl_int, isi_str_str, isi_tup_tup, isi_lst_lst, isi_non_int, isi_non_tup, _root_.FL.R.ok_bind, _root_.FL.R.exc_bind, _root_.FL.R.stuck_bind, _root_.FL.R.pure_eq, List.append_nil, List.length_cons, List.length_nil, Nat.zero_add, Nat.reduceAdd, Nat.reduceLeDiff, Nat.reduceLT, decide_eq_true_eq, if_true, if_false, ite_true, ite_false, Bool.true_eq_false, Bool.false_eq_true, Bool.not_true, Bool.not_false, reduceIte, Bool.not_eq_true', decide_eq_false_iff_not]
    rfl
  · rw [i2, i1, bind_rt]
    simp -implicitDefEqProofs (disch := first | omega | (simp only [List.length_map, List.length_append, List.length_cons, List.length_nil, List.length_take, List.length_drop, repS_len, rngL_len, List.length_range, List.length_reverse]; done) | (simp only [List.length_map, List.length_append, List.length_cons, List.length_nil, List.length_take, List.length_drop, repS_len, rngL_len, List.length_range, List.length_reverse]; omega)) only [mVar_ev, mVarR_ev, getV_val, getR_val, getR_own, mC_ev, mOp_ev, mOpL_ev, mT_ev, asB_bl, mAnd_ev, mOr_ev, mNot_ev, mAndV_ev, mOrV_ev, mNotV_ev, mIf_ev, mNil_ev, mCons_ev, mTup_ev, mLst_ev, mCall_ev, mPn_ev, mPs_ev, asI_int, mSl_ev, mSlL_ev, asL_lst, asL_scr, asTp_tup, asSt_str, R_ite, mWalk_ev, mLe_ev, mNeg_ev, mSeq_ev, mSkip_ev, bind_nx, bind_rt, bind_rtL, bind_bk, bind_ct, bind_ex, bind_ite, lift_ok, lift_exc, lift_ite, mAsg_ev, mAsgL_ev, mDrop_ev, mRet_ev, mRetL_ev, mRetN_ev, mRetOwn_ev, getO_own, mIfS_ev, mSet1_ev, onO_own, onO_val, mAppend_ev, putO_own, mAsgG_ev, optSO_some, gSet_ev, gsNil_ev, gsCons_ev, obind_some, gTupM_1, gTupM_2, gTupM_3, gTupM_4, gTupM_5, gTupM_6, mFor_ev, retD_nx, retD_rt, retD_rtL, retD_ex, retD_ite, retLs_rtL, retLs_ex, retLs_ite, nth_zero, nth_succ, set_zero, set_succ, add_int, add_str, add_lst, lcat_lst, sub_int', neg_int', lt_int', le_int', gt_int', ge_int', mod_int', fdiv_int, mul_int', mul_str', isN_non, isN_int, notN_non, notN_int, eq_int', ne_int', eq_str', ne_str', eq_bl', ne_bl', len_str', len_lst, len_tup, len_scr, max_int, min_int, sl_str', sl_lst, sl_scr, lsl_lst, lsl_scr, ix_str', ix_lst, ix_tup', ix_scr, range1_ok, range2_ok, range3_ok, mMeth_ev, onStr_str, mComp_ev, mCh_ev, wipeE_nil, wipeE_cons, mYes_ev, int_int, int_bl, asW_lst, asW_tup, asW_scr, asW_str, lt_str', le_str', gt_str', ge_str', mRaise_ev, sum_ints, all_bls, any_bls, list_lst, list_tup, list_scr, sorted_ints', g_find_ev, g_find3_ev, g_find4_ev, g_rfind_ev, g_rfind4_ev, g_count_ev, g_count3_ev, g_count4_ev, g_startswith_ev, g_endswith_ev, Int.reduceToNat, List.getD_cons_zero, List.getD_cons_succ, List.length_map, List.length_reverse, Int.zero_mul, Int.mul_zero, Int.add_zero, Int.mul_one, nc0, nc1, nc2, nc3, nc4, nc5, nc6, nc7, nc8, nc9, nc10, nc11, nc12, nc13, List.cons_append, List.nil_append, decide_true, decide_false, not_false_eq_true, not_true_eq_false, mCallR_ev, retLE_rtL, retDE_rt, flatR_bl, flatR_int, flatR_str, flatR_non, flatR_exc, getOwn_own, mMut0_ev, mSetIx_ev, putIx_ok, rev_lst, lrep_ev, if_small, if_small', rngL_len, endS_nx, endS_rt, in_sign, notIn_sign, isN_str, notN_str, isN_tup, notN_tup, isi_int_int, isi_int_bool, isi_bl_bool, isi_bl_int, isi_str_str, isi_tup_tup, isi_lst_lst, isi_non_int, isi_non_tup, _root_.FL.R.ok_bind, _root_.FL.R.exc_bind, _root_.FL.R.stuck_bind, _root_.FL.R.pure_eq, List.append_nil, List.length_cons, List.length_nil, Nat.zero_add, Nat.reduceAdd, Nat.reduceLeDiff, Nat.reduceLT, decide_eq_true_eq, if_true, if_false, ite_true, ite_false, Bool.true_eq_false, Bool.false_eq_true, Bool.not_true, Bool.not_false, reduceIte, Bool.not_eq_true', decide_eq_false_iff_not]
  · rw [i2, i1, bind_rt]
    simp -implicitDefEqProofs (disch := first | omega | (simp only [List.length_map, List.length_append, List.length_cons, List.length_nil, List.length_take, List.length_drop, repS_len, rngL_len, List.length_range, List.length_reverse]; done) | (simp only [List.length_map, List.length_append, List.length_cons, List.length_nil, List.length_take, List.length_drop, repS_len, rngL_len, List.length_range, List.length_reverse]; omega)) only [mVar_ev, mVarR_ev, getV_val, getR_val, getR_own, mC_ev, mOp_ev, mOpL_ev, mT_ev, asB_bl, mAnd_ev, mOr_ev, mNot_ev, mAndV_ev, mOrV_ev, mNotV_ev, mIf_ev, mNil_ev, mCons_ev, mTup_ev, mLst_ev, mCall_ev, mPn_ev, mPs_ev, asI_int, mSl_ev, mSlL_ev, asL_lst, asL_scr, asTp_tup, asSt_str, R_ite, mWalk_ev, mLe_ev, mNeg_ev, mSeq_ev, mSkip_ev, bind_nx, bind_rt, bind_rtL, bind_bk, bind_ct, bind_ex, bind_ite, lift_ok, lift_exc, lift_ite, mAsg_ev, mAsgL_ev, mDrop_ev, mRet_ev, mRetL_ev, mRetN_ev, mRetOwn_ev, getO_own, mIfS_ev, mSet1_ev, onO_own, onO_val, mAppend_ev, putO_own, mAsgG_ev, optSO_some, gSet_ev, gsNil_ev, gsCons_ev, obind_some, gTupM_1, gTupM_2, gTupM_3, gTupM_4, gTupM_5, gTupM_6, mFor_ev, retD_nx, retD_rt, retD_rtL, retD_ex, retD_ite, retLs_rtL, retLs_ex, retLs_ite, nth_zero, nth_succ, set_zero, set_succ, add_int, add_str, add_lst, lcat_lst, sub_int', neg_int', lt_int', le_int', gt_int', ge_int', mod_int', fdiv_int, mul_int', mul_str', isN_non, isN_int, notN_non, notN_int, eq_int', ne_int', eq_str', ne_str', eq_bl', ne_bl', len_str', len_lst, len_tup, len_scr, max_int, min_int, sl_str', sl_lst, sl_scr, lsl_lst, lsl_scr, ix_str', ix_lst, ix_tup', ix_scr, range1_ok, range2_ok, range3_ok, mMeth_ev, onStr_str, mComp_ev, mCh_ev, wipeE_nil, wipeE_cons, mYes_ev, int_int, int_bl, asW_lst, asW_tup, asW_scr, asW_str, lt_str', le_str', gt_str', ge_str', mRaise_ev, sum_ints, all_bls, any_bls, list_lst, list_tup, list_scr, sorted_ints', g_find_ev, g_find3_ev, g_find4_ev, g_rfind_ev, g_rfind4_ev, g_count_ev, g_count3_ev, g_count4_ev, g_startswith_ev, g_endswith_ev, Int.reduceToNat, List.getD_cons_zero, List.getD_cons_succ, List.length_map, List.length_reverse, Int.zero_mul, Int.mul_zero, Int.add_zero, Int.mul_one, nc0, nc1, nc2, nc3, nc4, nc5, nc6, nc7, nc8, nc9, nc10, nc11, nc12, nc13, List.cons_append, List.nil_append, decide_true, decide_false, not_false_eq_true, not_true_eq_false, mCallR_ev, retLE_rtL, retDE_rt, flatR_bl, flatR_int, flatR_str, flatR_non, flatR_exc, getOwn_own, mMut0_ev, mSetIx_ev, putIx_ok, rev_lst, lrep_ev, if_small, if_small', rngL_len, endS_nx, endS_rt, in_sign, notIn_sign, isN_str, notN_str, isN_tup, notN_tup, isi_int_int, isi_int_bool, isi_bl_bool, isi_bl_int, isi_str_str, isi_tup_tup, isi_lst_lst, isi_non_int, isi_non_tup, _root_.FL.R.ok_bind, _root_.FL.R.exc_bind, _root_.FL.R.stuck_bind, _root_.FL.R.pure_eq, List.append_nil, List.length_cons, List.length_nil, Nat.zero_add, Nat.reduceAdd, Nat.reduceLeDiff, Nat.reduceLT, decide_eq_true_eq, if_true, if_false, ite_true, ite_false, Bool.true_eq_false, Bool.false_eq_true, Bool.not_true, Bool.not_false, reduceIte, Bool.not_eq_true', decide_eq_false_iff_not]
    rfl
theorem e_fits (v : List Nat) (k : Nat) : p_fits_verb [.str v, .str [k]] = .ok (.bl (fitsM v k)) := by
  rw [u_fits_verb]; unfold b_fits_verb fitsM
  by_cases q1 : v = [82]
  · rw [if_pos q1]
    simp -implicitDefEqProofs (disch := first | omega | (simp only [List.length_map, List.length_append, List.length_cons, List.length_nil, List.length_take, List.length_drop, repS_len, rngL_len, List.length_range, List.length_reverse]; done) | (simp only [List.length_map, List.length_append, List.length_cons, List.length_nil, List.length_take, List.length_drop, repS_len, rngL_len, List.length_range, List.length_reverse]; omega)) only [mVar_ev, mVarR_ev, getV_val, getR_val, getR_own, mC_ev, mOp_ev, mOpL_ev, mT_ev, asB_bl, mAnd_ev, mOr_ev, mNot_ev, mAndV_ev, mOrV_ev, mNotV_ev, mIf_ev, mNil_ev, mCons_ev, mTup_ev, mLst_ev, mCall_ev, mPn_ev, mPs_ev, asI_int, mSl_ev, mSlL_ev, asL_lst, asL_scr, asTp_tup, asSt_str, R_ite, mWalk_ev, mLe_ev, mNeg_ev, mSeq_ev, mSkip_ev, bind_nx, bind_rt, bind_rtL, bind_bk, bind_ct, bind_ex, bind_ite, lift_ok, lift_exc, lift_ite, mAsg_ev, mAsgL_ev, mDrop_ev, mRet_ev, mRetL_ev, mRetN_ev, mRetOwn_ev, getO_own, mIfS_ev, mSet1_ev, onO_own, onO_val, mAppend_ev, putO_own, mAsgG_ev, optSO_some, gSet_ev, gsNil_ev, gsCons_ev, obind_some, gTupM_1, gTupM_2, gTupM_3, gTupM_4, gTupM_5, gTupM_6, mFor_ev, retD_nx, retD_rt, retD_rtL, retD_ex, retD_ite, retLs_rtL, retLs_ex, retLs_ite, nth_zero, nth_succ, set_zero, set_succ, add_int, add_str, add_lst, lcat_lst, sub_int', neg_int', lt_int', le_int', gt_int', ge_int', mod_int', fdiv_int, mul_int', mul_str', isN_non, isN_int, notN_non, notN_int, eq_int', ne_int', eq_str', ne_str', eq_bl', ne_bl', len_str', len_lst, len_tup, len_scr, max_int, min_int, sl_str', sl_lst, sl_scr, lsl_lst, lsl_scr, ix_str', ix_lst, ix_tup', ix_scr, range1_ok, range2_ok, range3_ok, mMeth_ev, onStr_str, mComp_ev, mCh_ev, wipeE_nil, wipeE_cons, mYes_ev, int_int, int_bl, asW_lst, asW_tup, asW_scr, asW_str, lt_str', le_str', gt_str', ge_str', mRaise_ev, sum_ints, all_bls, any_bls, list_lst, list_tup, list_scr, sorted_ints', g_find_ev, g_find3_ev, g_find4_ev, g_rfind_ev, g_rfind4_ev, g_count_ev, g_count3_ev, g_count4_ev, g_startswith_ev, g_endswith_ev, Int.reduceToNat, List.getD_cons_zero, List.getD_cons_succ, List.length_map, List.length_reverse, Int.zero_mul, Int.mul_zero, Int.add_zero, Int.mul_one, nc0, nc1, nc2, nc3, nc4, nc5, nc6, nc7, nc8, nc9, nc10, nc11, nc12, nc13, List.cons_append, List.nil_append, decide_true, decide_false, not_false_eq_true, not_true_eq_false, mCallR_ev, retLE_rtL, retDE_rt, flatR_bl, flatR_int, flatR_str, flatR_non, flatR_exc, getOwn_own, mMut0_ev, mSetIx_ev, putIx_ok, rev_lst, lrep_ev, if_small, if_small', rngL_len, endS_nx, endS_rt, in_sign, notIn_sign, isN_str, notN_str, isN_tup, notN_tup, isi_int_int, isi_int_bool, isi_bl_bool, isi_bl_int, isi_str_str, isi_tup_tup, isi_lst_lst, isi_non_int, isi_non_tup, _root_.FL.R.ok_bind, _root_.FL.R.exc_bind, _root_.FL.R.stuck_bind, _root_.FL.R.pure_eq, List.append_nil, List.length_cons, List.length_nil, Nat.zero_add, Nat.reduceAdd, Nat.reduceLeDiff, Nat.reduceLT, decide_eq_true_eq, if_true, if_false, ite_true, ite_false, Bool.true_eq_false, Bool.false_eq_true, Bool.not_true, Bool.not_false, reduceIte, Bool.not_eq_true', decide_eq_false_iff_not, q1, e_sg]
  · rw [if_neg q1]
    by_cases q2 : v = [86]
    · have z : ¬ ([86] : List Nat) = [82] := by decide
      rw [if_pos q2]
      simp -implicitDefEqProofs (disch := first | omega | (simp only [List.length_map, List.length_append, List.length_cons, List.length_nil, List.length_take, List.length_drop, repS_len, rngL_len, List.length_range, List.length_reverse]; done) | (simp only [List.length_map, List.length_append, List.length_cons, List.length_nil, List.length_take, List.length_drop, repS_len, rngL_len, List.length_range, List.length_reverse]; omega)) only [mVar_ev, mVarR_ev, getV_val, getR_val, getR_own, mC_ev, mOp_ev, mOpL_ev, mT_ev, asB_bl, mAnd_ev, mOr_ev, mNot_ev, mAndV_ev, mOrV_ev, mNotV_ev, mIf_ev, mNil_ev, mCons_ev, mTup_ev, mLst_ev, mCall_ev, mPn_ev, mPs_ev, asI_int, mSl_ev, mSlL_ev, asL_lst, asL_scr, asTp_tup, asSt_str, R_ite, mWalk_ev, mLe_ev, mNeg_ev, mSeq_ev, mSkip_ev, bind_nx, bind_rt, bind_rtL, bind_bk, bind_ct, bind_ex, bind_ite, lift_ok, lift_exc, lift_ite, mAsg_ev, mAsgL_ev, mDrop_ev, mRet_ev, mRetL_ev, mRetN_ev, mRetOwn_ev, getO_own, mIfS_ev, mSet1_ev, onO_own, onO_val, mAppend_ev, putO_own, mAsgG_ev, optSO_some, gSet_ev, gsNil_ev, gsCons_ev, obind_some, gTupM_1, gTupM_2, gTupM_3, gTupM_4, gTupM_5, gTupM_6, mFor_ev, retD_nx, retD_rt, retD_rtL, retD_ex, retD_ite, retLs_rtL, retLs_ex, retLs_ite, nth_zero, nth_succ, set_zero, set_succ, add_int, add_str, add_lst, lcat_lst, sub_int', neg_int', lt_int', le_int', gt_int', ge_int', mod_int', fdiv_int, mul_int', mul_str', isN_non, isN_int, notN_non, notN_int, eq_int', ne_int', eq_str', ne_str', eq_bl', ne_bl', len_str', len_lst, len_tup, len_scr, max_int, min_int, sl_str', sl_lst, sl_scr, lsl_lst, lsl_scr, ix_str', ix_lst, ix_tup', ix_scr, range1_ok, range2_ok, range3_ok, mMeth_ev, onStr_str, mComp_ev, mCh_ev, wipeE_nil, wipeE_cons, mYes_ev, int_int, int_bl, asW_lst, asW_tup, asW_scr, asW_str, lt_str', le_str', gt_str', ge_str', mRaise_ev, sum_ints, all_bls, any_bls, list_lst, list_tup, list_scr, sorted_ints', g_find_ev, g_find3_ev, g_find4_ev, g_rfind_ev, g_rfind4_ev, g_count_ev, g_count3_ev, g_count4_ev, g_startswith_ev, g_endswith_ev, Int.reduceToNat, List.getD_cons_zero, List.getD_cons_succ, List.length_map, List.length_reverse, Int.zero_mul, Int.mul_zero, Int.add_zero, Int.mul_one, nc0, nc1, nc2, nc3, nc4, nc5, nc6, nc7, nc8, nc9, nc10, nc11, nc12, nc13, List.cons_append, List.nil_append, decide_true, decide_false, not_false_eq_true, not_true_eq_false, mCallR_ev, retLE_rtL, retDE_rt, flatR_bl, flatR_int, flatR_str, flatR_non, flatR_exc, getOwn_own, mMut0_ev, mSetIx_ev, putIx_ok, rev_lst, lrep_ev, if_small, if_small', rngL_len, endS_nx, endS_rt, in_sign, notIn_sign, isN_str, notN_str, isN_tup, notN_tup, isi_int_int, isi_int_bool, isi_bl_bool, isi_bl_int, isi_str_str, isi_tup_tup, isi_lst_lst, isi_non_int, isi_non_tup, _root_.FL.R.ok_bind, _root_.FL.R.exc_bind, _root_.FL.R.stuck_bind, _root_.FL.R.pure_eq, List.append_nil, List.length_cons, List.length_nil, Nat.zero_add, Nat.reduceAdd, Nat.reduceLeDiff, Nat.reduceLT, decide_eq_true_eq, if_true, if_false, ite_true, ite_false, Bool.true_eq_false, Bool.false_eq_true, Bool.not_true, Bool.not_false, reduceIte, Bool.not_eq_true', decide_eq_false_iff_not, q2, z]
    · rw [if_neg q2]
      simp -implicitDefEqProofs (disch := first | omega | (simp only [List.length_map, List.length_append, List.length_cons, List.length_nil, List.length_take, List.length_drop, repS_len, rngL_len, List.length_range, List.length_reverse]; done) | (simp only [List.length_map, List.length_append, List.length_cons, List.length_nil, List.length_take, List.length_drop, repS_len, rngL_len, List.length_range, List.length_reverse]; omega)) only [mVar_ev, mVarR_ev, getV_val, getR_val, getR_own, mC_ev, mOp_ev, mOpL_ev, mT_ev, asB_bl, mAnd_ev, mOr_ev, mNot_ev, mAndV_ev, mOrV_ev, mNotV_ev, mIf_ev, mNil_ev, mCons_ev, mTup_ev, mLst_ev, mCall_ev, mPn_ev, mPs_ev, asI_int, mSl_ev, mSlL_ev, asL_lst, asL_scr, asTp_tup, asSt_str, R_ite, mWalk_ev, mLe_ev, mNeg_ev, mSeq_ev, mSkip_ev, bind_nx, bind_rt, bind_rtL, bind_bk, bind_ct, bind_ex, bind_ite, lift_ok, lift_exc, lift_ite, mAsg_ev, mAsgL_ev, mDrop_ev, mRet_ev, mRetL_ev, mRetN_ev, mRetOwn_ev, getO_own, mIfS_ev, mSet1_ev, onO_own, onO_val, mAppend_ev, putO_own, mAsgG_ev, optSO_some, gSet_ev, gsNil_ev, gsCons_ev, obind_some, gTupM_1, gTupM_2, gTupM_3, gTupM_4, gTupM_5, gTupM_6, mFor_ev, retD_nx, retD_rt, retD_rtL, retD_ex, retD_ite, retLs_rtL, retLs_ex, retLs_ite, nth_zero, nth_succ, set_zero, set_succ, add_int, add_str, add_lst, lcat_lst, sub_int', neg_int', lt_int', le_int', gt_int', ge_int', mod_int', fdiv_int, mul_int', mul_str', isN_non, isN_int, notN_non, notN_int, eq_int', ne_int', eq_str', ne_str', eq_bl', ne_bl', len_str', len_lst, len_tup, len_scr, max_int, min_int, sl_str', sl_lst, sl_scr, lsl_lst, lsl_scr, ix_str', ix_lst, ix_tup', ix_scr, range1_ok, range2_ok, range3_ok, mMeth_ev, onStr_str, mComp_ev, mCh_ev, wipeE_nil, wipeE_cons, mYes_ev, int_int, int_bl, asW_lst, asW_tup, asW_scr, asW_str, lt_str', le_str', gt_str', ge_str', mRaise_ev, sum_ints, all_bls, any_bls, list_lst, list_tup, list_scr, sorted_ints', g_find_ev, g_find3_ev, g_find4_ev, g_rfind_ev, g_rfind4_ev, g_count_ev, g_count3_ev, g_count4_ev, g_startswith_ev, g_endswith_ev, Int.reduceToNat, List.getD_cons_zero, List.getD_cons_succ, List.length_map, List.length_reverse, Int.zero_mul, Int.mul_zero, Int.add_zero, Int.mul_one, nc0, nc1, nc2, nc3, nc4, nc5, nc6, nc7, nc8, nc9, nc10, nc11, nc12, nc13, List.cons_append, List.nil_append, decide_true, decide_false, not_false_eq_true, not_true_eq_false, mCallR_ev, retLE_rtL, retDE_rt, flatR_bl, flatR_int, flatR_str, flatR_non, flatR_exc, getOwn_own, mMut0_ev, mSetIx_ev, putIx_ok, rev_lst, lrep_ev, if_small, if_small', rngL_len, endS_nx, endS_rt, in_sign, notIn_sign, isN_str, notN_str, isN_tup, notN_tup, isi_int_int, isi_int_bool, isi_bl_bool, isi_bl_int, isi_str_str, isi_tup_tup, isi_lst_lst, isi_non_int, isi_non_tup, _root_.FL.R.ok_bind, _root_.FL.R.exc_bind, _root_.FL.R.stuck_bind, _root_.FL.R.pure_eq, List.append_nil, List.length_cons, List.length_nil, Nat.zero_add, Nat.reduceAdd, Nat.reduceLeDiff, Nat.reduceLT, decide_eq_true_eq, if_true, if_false, ite_true, ite_false, Bool.true_eq_false, Bool.false_eq_true, Bool.not_true, Bool.not_false, reduceIte, Bool.not_eq_true', decide_eq_false_iff_not, q1, q2]
      rfl
theorem e_typed (ks : List Nat) (at_ : Nat) (v : List Nat) (hl : ks.length ≤ 100000) (ha : at_ ≤ ks.length) : p_typed_of [.str ks, .int at_, .str v] = .ok (tD .str at_ (typedM v (ks.drop at_))) := by
  rw [u_typed_of]; unfold b_typed_of typedM
  have zi : D.notIn (.str v) (.lst [.str [82], .str [86], .str [77], .str [75], .str [64]]) = .ok (.bl (!decide (v ∈ [[82], [86], [77], [75], [64]]))) := notIn_lstS v [[82], [86], [77], [75], [64]]
  have en1 := e_ended ks at_ 126 10 hl ha
  have en2 := e_ended ks at_ 10 126 hl ha
  by_cases q1 : v = [88]
  · rw [if_pos (.inl q1)]
    simp -implicitDefEqProofs (disch := first | omega | (simp only [List.length_map, List.length_append, List.length_cons, List.length_nil, List.length_take, List.length_drop, repS_len, rngL_len, List.length_range, List.length_reverse]; done) | (simp only [List.length_map, List.length_append, List.length_cons, List.length_nil, List.length_take, List.length_drop, repS_len, rngL_len, List.length_range, List.length_reverse]; omega)) only [mVar_ev, mVarR_ev, getV_val, getR_val, getR_own, mC_ev, mOp_ev, mOpL_ev, mT_ev, asB_bl, mAnd_ev, mOr_ev, mNot_ev, mAndV_ev, mOrV_ev, mNotV_ev, mIf_ev, mNil_ev, mCons_ev, mTup_ev, mLst_ev, mCall_ev, mPn_ev, mPs_ev, asI_int, mSl_ev, mSlL_ev, asL_lst, asL_scr, asTp_tup, asSt_str, R_ite, mWalk_ev, mLe_ev, mNeg_ev, mSeq_ev, mSkip_ev, bind_nx, bind_rt, bind_rtL, bind_bk, bind_ct, bind_ex, bind_ite, lift_ok, lift_exc, lift_ite, mAsg_ev, mAsgL_ev, mDrop_ev, mRet_ev, mRetL_ev, mRetN_ev, mRetOwn_ev, getO_own, mIfS_ev, mSet1_ev, onO_own, onO_val, mAppend_ev, putO_own, mAsgG_ev, optSO_some, gSet_ev, gsNil_ev, gsCons_ev, obind_some, gTupM_1, gTupM_2, gTupM_3, gTupM_4, gTupM_5, gTupM_6, mFor_ev, retD_nx, retD_rt, retD_rtL, retD_ex, retD_ite, retLs_rtL, retLs_ex, retLs_ite, nth_zero, nth_succ, set_zero, set_succ, add_int, add_str, add_lst, lcat_lst, sub_int', neg_int', lt_int', le_int', gt_int', ge_int', mod_int', fdiv_int, mul_int', mul_str', isN_non, isN_int, notN_non, notN_int, eq_int', ne_int', eq_str', ne_str', eq_bl', ne_bl', len_str', len_lst, len_tup, len_scr, max_int, min_int, sl_str', sl_lst, sl_scr, lsl_lst, lsl_scr, ix_str', ix_lst, ix_tup', ix_scr, range1_ok, range2_ok, range3_ok, mMeth_ev, onStr_str, mComp_ev, mCh_ev, wipeE_nil, wipeE_cons, mYes_ev, int_int, int_bl, asW_lst, asW_tup, asW_scr, asW_str, lt_str', le_str', gt_str', ge_str', mRaise_ev, sum_ints, all_bls, any_bls, list_lst, list_tup, list_scr, sorted_ints', g_find_ev, g_find3_ev, g_find4_ev, g_rfind_ev, g_rfind4_ev, g_count_ev, g_count3_ev, g_count4_ev, g_startswith_ev, g_endswith_ev, Int.reduceToNat, List.getD_cons_zero, List.getD_cons_succ, List.length_map, List.length_reverse, Int.zero_mul, Int.mul_zero, Int.add_zero, Int.mul_one, nc0, nc1, nc2, nc3, nc4, nc5, nc6, nc7, nc8, nc9, nc10, nc11, nc12, nc13, List.cons_append, List.nil_append, decide_true, decide_false, not_false_eq_true, not_true_eq_false, mCallR_ev, retLE_rtL, retDE_rt, flatR_bl, flatR_int, flatR_str, flatR_non, flatR_exc, getOwn_own, mMut0_ev, mSetIx_ev, putIx_ok, rev_lst, lrep_ev, if_small, if_small', rngL_len, endS_nx, endS_rt, in_sign, notIn_sign, isN_str, notN_str, isN_tup, notN_tup, isi_int_int, isi_int_bool, isi_bl_bool, isi_bl_int, isi_str_str, isi_tup_tup, isi_lst_lst, isi_non_int, isi_non_tup, _root_.FL.R.ok_bind, _root_.FL.R.exc_bind, _root_.FL.R.stuck_bind, _root_.FL.R.pure_eq, List.append_nil, List.length_cons, List.length_nil, Nat.zero_add, Nat.reduceAdd, Nat.reduceLeDiff, Nat.reduceLT, decide_eq_true_eq, if_true, if_false, ite_true, ite_false, Bool.true_eq_false, Bool.false_eq_true, Bool.not_true, Bool.not_false, reduceIte, Bool.not_eq_true', decide_eq_false_iff_not, q1, en1]
  by_cases q2 : v = [84]
  · have z : ¬ ([84] : List Nat) = [88] := by decide
    rw [if_pos (.inr q2)]
    simp -implicitDefEqProofs (disch := first | omega | (simp only [List.length_map, List.length_append, List.length_cons, List.length_nil, List.length_take, List.length_drop, repS_len, rngL_len, List.length_range, List.length_reverse]; done) | (simp only [List.length_map, List.length_append, List.length_cons, List.length_nil, List.length_take, List.length_drop, repS_len, rngL_len, List.length_range, List.length_reverse]; omega)) only [mVar_ev, mVarR_ev, getV_val, getR_val, getR_own, mC_ev, mOp_ev, mOpL_ev, mT_ev, asB_bl, mAnd_ev, mOr_ev, mNot_ev, mAndV_ev, mOrV_ev, mNotV_ev, mIf_ev, mNil_ev, mCons_ev, mTup_ev, mLst_ev, mCall_ev, mPn_ev, mPs_ev, asI_int, mSl_ev, mSlL_ev, asL_lst, asL_scr, asTp_tup, asSt_str, R_ite, mWalk_ev, mLe_ev, mNeg_ev, mSeq_ev, mSkip_ev, bind_nx, bind_rt, bind_rtL, bind_bk, bind_ct, bind_ex, bind_ite, lift_ok, lift_exc, lift_ite, mAsg_ev, mAsgL_ev, mDrop_ev, mRet_ev, mRetL_ev, mRetN_ev, mRetOwn_ev, getO_own, mIfS_ev, mSet1_ev, onO_own, onO_val, mAppend_ev, putO_own, mAsgG_ev, optSO_some, gSet_ev, gsNil_ev, gsCons_ev, obind_some, gTupM_1, gTupM_2, gTupM_3, gTupM_4, gTupM_5, gTupM_6, mFor_ev, retD_nx, retD_rt, retD_rtL, retD_ex, retD_ite, retLs_rtL, retLs_ex, retLs_ite, nth_zero, nth_succ, set_zero, set_succ, add_int, add_str, add_lst, lcat_lst, sub_int', neg_int', lt_int', le_int', gt_int', ge_int', mod_int', fdiv_int, mul_int', mul_str', isN_non, isN_int, notN_non, notN_int, eq_int', ne_int', eq_str', ne_str', eq_bl', ne_bl', len_str', len_lst, len_tup, len_scr, max_int, min_int, sl_str', sl_lst, sl_scr, lsl_lst, lsl_scr, ix_str', ix_lst, ix_tup', ix_scr, range1_ok, range2_ok, range3_ok, mMeth_ev, onStr_str, mComp_ev, mCh_ev, wipeE_nil, wipeE_cons, mYes_ev, int_int, int_bl, asW_lst, asW_tup, asW_scr, asW_str, lt_str', le_str', gt_str', ge_str', mRaise_ev, sum_ints, all_bls, any_bls, list_lst, list_tup, list_scr, sorted_ints', g_find_ev, g_find3_ev, g_find4_ev, g_rfind_ev, g_rfind4_ev, g_count_ev, g_count3_ev, g_count4_ev, g_startswith_ev, g_endswith_ev, Int.reduceToNat, List.getD_cons_zero, List.getD_cons_succ, List.length_map, List.length_reverse, Int.zero_mul, Int.mul_zero, Int.add_zero, Int.mul_one, nc0, nc1, nc2, nc3, nc4, nc5, nc6, nc7, nc8, nc9, nc10, nc11, nc12, nc13, List.cons_append, List.nil_append, decide_true, decide_false, not_false_eq_true, not_true_eq_false, mCallR_ev, retLE_rtL, retDE_rt, flatR_bl, flatR_int, flatR_str, flatR_non, flatR_exc, getOwn_own, mMut0_ev, mSetIx_ev, putIx_ok, rev_lst, lrep_ev, if_small, if_small', rngL_len, endS_nx, endS_rt, in_sign, notIn_sign, isN_str, notN_str, isN_tup, notN_tup, isi_int_int, isi_int_bool, isi_bl_bool, isi_bl_int, isi_str_str, isi_tup_tup, isi_lst_lst, isi_non_int, isi_non_tup, _root_.FL.R.ok_bind, _root_.FL.R.exc_bind, _root_.FL.R.stuck_bind, _root_.FL.R.pure_eq, List.append_nil, List.length_cons, List.length_nil, Nat.zero_add, Nat.reduceAdd, Nat.reduceLeDiff, Nat.reduceLT, decide_eq_true_eq, if_true, if_false, ite_true, ite_false, Bool.true_eq_false, Bool.false_eq_true, Bool.not_true, Bool.not_false, reduceIte, Bool.not_eq_true', decide_eq_false_iff_not, z, q2, en1]
  rw [if_neg (fun z => z.elim q1 q2)]
  by_cases q3 : v = [58]
  · have z : ¬ ([58] : List Nat) = [88] := by decide
    have z2 : ¬ ([58] : List Nat) = [84] := by decide
    rw [if_pos q3]
    simp -implicitDefEqProofs (disch := first | omega | (simp only [List.length_map, List.length_append, List.length_cons, List.length_nil, List.length_take, List.length_drop, repS_len, rngL_len, List.length_range, List.length_reverse]; done) | (simp only [List.length_map, List.length_append, List.length_cons, List.length_nil, List.length_take, List.length_drop, repS_len, rngL_len, List.length_range, List.length_reverse]; omega)) only [mVar_ev, mVarR_ev, getV_val, getR_val, getR_own, mC_ev, mOp_ev, mOpL_ev, mT_ev, asB_bl, mAnd_ev, mOr_ev, mNot_ev, mAndV_ev, mOrV_ev, mNotV_ev, mIf_ev, mNil_ev, mCons_ev, mTup_ev, mLst_ev, mCall_ev, mPn_ev, mPs_ev, asI_int, mSl_ev, mSlL_ev, asL_lst, asL_scr, asTp_tup, asSt_str, R_ite, mWalk_ev, mLe_ev, mNeg_ev, mSeq_ev, mSkip_ev, bind_nx, bind_rt, bind_rtL, bind_bk, bind_ct, bind_ex, bind_ite, lift_ok, lift_exc, lift_ite, mAsg_ev, mAsgL_ev, mDrop_ev, mRet_ev, mRetL_ev, mRetN_ev, mRetOwn_ev, getO_own, mIfS_ev, mSet1_ev, onO_own, onO_val, mAppend_ev, putO_own, mAsgG_ev, optSO_some, gSet_ev, gsNil_ev, gsCons_ev, obind_some, gTupM_1, gTupM_2, gTupM_3, gTupM_4, gTupM_5, gTupM_6, mFor_ev, retD_nx, retD_rt, retD_rtL, retD_ex, retD_ite, retLs_rtL, retLs_ex, retLs_ite, nth_zero, nth_succ, set_zero, set_succ, add_int, add_str, add_lst, lcat_lst, sub_int', neg_int', lt_int', le_int', gt_int', ge_int', mod_int', fdiv_int, mul_int', mul_str', isN_non, isN_int, notN_non, notN_int, eq_int', ne_int', eq_str', ne_str', eq_bl', ne_bl', len_str', len_lst, len_tup, len_scr, max_int, min_int, sl_str', sl_lst, sl_scr, lsl_lst, lsl_scr, ix_str', ix_lst, ix_tup', ix_scr, range1_ok, range2_ok, range3_ok, mMeth_ev, onStr_str, mComp_ev, mCh_ev, wipeE_nil, wipeE_cons, mYes_ev, int_int, int_bl, asW_lst, asW_tup, asW_scr, asW_str, lt_str', le_str', gt_str', ge_str', mRaise_ev, sum_ints, all_bls, any_bls, list_lst, list_tup, list_scr, sorted_ints', g_find_ev, g_find3_ev, g_find4_ev, g_rfind_ev, g_rfind4_ev, g_count_ev, g_count3_ev, g_count4_ev, g_startswith_ev, g_endswith_ev, Int.reduceToNat, List.getD_cons_zero, List.getD_cons_succ, List.length_map, List.length_reverse, Int.zero_mul, Int.mul_zero, Int.add_zero, Int.mul_one, nc0, nc1, nc2, nc3, nc4, nc5, nc6, nc7, nc8, nc9, nc10, nc11, nc12, nc13, List.cons_append, List.nil_append, decide_true, decide_false, not_false_eq_true, not_true_eq_false, mCallR_ev, retLE_rtL, retDE_rt, flatR_bl, flatR_int, flatR_str, flatR_non, flatR_exc, getOwn_own, mMut0_ev, mSetIx_ev, putIx_ok, rev_lst, lrep_ev, if_small, if_small', rngL_len, endS_nx, endS_rt, in_sign, notIn_sign, isN_str, notN_str, isN_tup, notN_tup, isi_int_int, isi_int_bool, isi_bl_bool, isi_bl_int, isi_str_str, isi_tup_tup, isi_lst_lst, isi_non_int, isi_non_tup, _root_.FL.R.ok_bind, _root_.FL.R.exc_bind, _root_.FL.R.stuck_bind, _root_.FL.R.pure_eq, List.append_nil, List.length_cons, List.length_nil, Nat.zero_add, Nat.reduceAdd, Nat.reduceLeDiff, Nat.reduceLT, decide_eq_true_eq, if_true, if_false, ite_true, ite_false, Bool.true_eq_false, Bool.false_eq_true, Bool.not_true, Bool.not_false, reduceIte, Bool.not_eq_true', decide_eq_false_iff_not, z, z2, q3, en2]
  rw [if_neg q3]
  by_cases q4 : v ∈ [[82], [86], [77], [75], [64]]
  · rw [if_neg (fun z => z q4)]
    cases hd : ks.drop at_ with
    | nil =>
      have q : (at_ : Int) = ks.length := by have := dr0 hd; omega
      simp -implicitDefEqProofs (disch := first | omega | (simp only [List.length_map, List.length_append, List.length_cons, List.length_nil, List.length_take, List.length_drop, repS_len, rngL_len, List.length_range, List.length_reverse]; done) | (simp only [List.length_map, List.length_append, List.length_cons, List.length_nil, List.length_take, List.length_drop, repS_len, rngL_len, List.length_range, List.length_reverse]; omega)) only [mVar_ev, mVarR_ev, getV_val, getR_val, getR_own, mC_ev, mOp_ev, mOpL_ev, mT_ev, asB_bl, mAnd_ev, mOr_ev, mNot_ev, mAndV_ev, mOrV_ev, mNotV_ev, mIf_ev, mNil_ev, mCons_ev, mTup_ev, mLst_ev, mCall_ev, mPn_ev, mPs_ev, asI_int, mSl_ev, mSlL_ev, asL_lst, asL_scr, asTp_tup, asSt_str, R_ite, mWalk_ev, mLe_ev, mNeg_ev, mSeq_ev, mSkip_ev, bind_nx, bind_rt, bind_rtL, bind_bk, bind_ct, bind_ex, bind_ite, lift_ok, lift_exc, lift_ite, mAsg_ev, mAsgL_ev, mDrop_ev, mRet_ev, mRetL_ev, mRetN_ev, mRetOwn_ev, getO_own, mIfS_ev, mSet1_ev, onO_own, onO_val, mAppend_ev, putO_own, mAsgG_ev, optSO_some, gSet_ev, gsNil_ev, gsCons_ev, obind_some, gTupM_1, gTupM_2, gTupM_3, gTupM_4, gTupM_5, gTupM_6, mFor_ev, retD_nx, retD_rt, retD_rtL, retD_ex, retD_ite, retLs_rtL, retLs_ex, retLs_ite, nth_zero, nth_succ, set_zero, set_succ, add_int, add_str, add_lst, lcat_lst, sub_int', neg_int', lt_int', le_int', gt_int', ge_int', mod_int', fdiv_int, mul_int', mul_str', isN_non, isN_int, notN_non, notN_int, eq_int', ne_int', eq_str', ne_str', eq_bl', ne_bl', len_str', len_lst, len_tup, len_scr, max_int, min_int, sl_str', sl_lst, sl_scr, lsl_lst, lsl_scr, ix_str', ix_lst, ix_tup', ix_scr, range1_ok, range2_ok, range3_ok, mMeth_ev, onStr_str, mComp_ev, mCh_ev, wipeE_nil, wipeE_cons, mYes_ev, int_int, int_bl, asW_lst, asW_tup, asW_scr, asW_str, lt_str', le_str', gt_str', ge_str', mRaise_ev, sum_ints, all_bls, any_bls, list_lst, list_tup, list_scr, sorted_ints', g_find_ev, g_find3_ev, g_find4_ev, g_rfind_ev, g_rfind4_ev, g_count_ev, g_count3_ev, g_count4_ev, g_startswith_ev, g_endswith_ev, Int.reduceToNat, List.getD_cons_zero, List.getD_cons_succ, List.length_map, List.length_reverse, Int.zero_mul, Int.mul_zero, Int.add_zero, Int.mul_one, nc0, nc1, nc2, nc3, nc4, nc5, nc6, nc7, nc8, nc9, nc10, nc11, nc12, nc13, List.cons_append, List.nil_append, decide_true, decide_false, not_false_eq_true, not_true_eq_false, mCallR_ev, retLE_rtL, retDE_rt, flatR_bl, flatR_int, flatR_str, flatR_non, flatR_exc, getOwn_own, mMut0_ev, mSetIx_ev, putIx_ok, rev_lst, lrep_ev, if_small, if_small', rngL_len, endS_nx, endS_rt, in_sign, notIn_sign, isN_str, notN_str, isN_tup, notN_tup, isi_int_int, isi_int_bool, isi_bl_bool, isi_bl_int, isi_str_str, isi_tup_tup, isi_lst_lst, isi_non_int, isi_non_tup, _root_.FL.R.ok_bind, _root_.FL.R.exc_bind, _root_.FL.R.stuck_bind, _root_.FL.R.pure_eq, List.append_nil, List.length_cons, List.length_nil, Nat.zero_add, Nat.reduceAdd, Nat.reduceLeDiff, Nat.reduceLT, decide_eq_true_eq, if_true, if_false, ite_true, ite_false, Bool.true_eq_false, Bool.false_eq_true, Bool.not_true, Bool.not_false, reduceIte, Bool.not_eq_true', decide_eq_false_iff_not, q1, q2, q3, zi, q4, q]
      rfl
    | cons k r =>
      obtain ⟨h1, h2, h3⟩ := dr hd
      have q : ¬ (at_ : Int) = ks.length := by omega
      show _ = R.ok (tD D.str at_ (if fitsM v k = true then .told [k] 1 else .non 1))
      cases hf : fitsM v k with
      | true =>
        rw [if_pos rfl]
        simp -implicitDefEqProofs (disch := first | omega | (simp only [List.length_map, List.length_append, List.length_cons, List.length_nil, List.length_take, List.length_drop, repS_len, rngL_len, List.length_range, List.length_reverse]; done) | (simp only [List.length_map, List.length_append, List.length_cons, List.length_nil, List.length_take, List.length_drop, repS_len, rngL_len, List.length_range, List.length_reverse]; omega)) only [mVar_ev, mVarR_ev, getV_val, getR_val, getR_own, mC_ev, mOp_ev, mOpL_ev, mT_ev, asB_bl, mAnd_ev, mOr_ev, mNot_ev, mAndV_ev, mOrV_ev, mNotV_ev, mIf_ev, mNil_ev, mCons_ev, mTup_ev, mLst_ev, mCall_ev, mPn_ev, mPs_ev, asI_int, mSl_ev, mSlL_ev, asL_lst, asL_scr, asTp_tup, asSt_str, R_ite, mWalk_ev, mLe_ev, mNeg_ev, mSeq_ev, mSkip_ev, bind_nx, bind_rt, bind_rtL, bind_bk, bind_ct, bind_ex, bind_ite, lift_ok, lift_exc, lift_ite, mAsg_ev, mAsgL_ev, mDrop_ev, mRet_ev, mRetL_ev, mRetN_ev, mRetOwn_ev, getO_own, mIfS_ev, mSet1_ev, onO_own, onO_val, mAppend_ev, putO_own, mAsgG_ev, optSO_some, gSet_ev, gsNil_ev, gsCons_ev, obind_some, gTupM_1, gTupM_2, gTupM_3, gTupM_4, gTupM_5, gTupM_6, mFor_ev, retD_nx, retD_rt, retD_rtL, retD_ex, retD_ite, retLs_rtL, retLs_ex, retLs_ite, nth_zero, nth_succ, set_zero, set_succ, add_int, add_str, add_lst, lcat_lst, sub_int', neg_int', lt_int', le_int', gt_int', ge_int', mod_int', fdiv_int, mul_int', mul_str', isN_non, isN_int, notN_non, notN_int, eq_int', ne_int', eq_str', ne_str', eq_bl', ne_bl', len_str', len_lst, len_tup, len_scr, max_int, min_int, sl_str', sl_lst, sl_scr, lsl_lst, lsl_scr, ix_str', ix_lst, ix_tup', ix_scr, range1_ok, range2_ok, range3_ok, mMeth_ev, onStr_str, mComp_ev, mCh_ev, wipeE_nil, wipeE_cons, mYes_ev, int_int, int_bl, asW_lst, asW_tup, asW_scr, asW_str, lt_str', le_str', gt_str', ge_str', mRaise_ev, sum_ints, all_bls, any_bls, list_lst, list_tup, list_scr, sorted_ints', g_find_ev, g_find3_ev, g_find4_ev, g_rfind_ev, g_rfind4_ev, g_count_ev, g_count3_ev, g_count4_ev, g_startswith_ev, g_endswith_ev, Int.reduceToNat, List.getD_cons_zero, List.getD_cons_succ, List.length_map, List.length_reverse, Int.zero_mul, Int.mul_zero, Int.add_zero, Int.mul_one, nc0, nc1, nc2, nc3, nc4, nc5, nc6, nc7, nc8, nc9, nc10, nc11, nc12, nc13, List.cons_append, List.nil_append, decide_true, decide_false, not_false_eq_true, not_true_eq_false, mCallR_ev, retLE_rtL, retDE_rt, flatR_bl, flatR_int, flatR_str, flatR_non, flatR_exc, getOwn_own, mMut0_ev, mSetIx_ev, putIx_ok, rev_lst, lrep_ev, if_small, if_small', rngL_len, endS_nx, endS_rt, in_sign, notIn_sign, isN_str, notN_str, isN_tup, notN_tup, isi_int_int, isi_int_bool, isi_bl_bool, isi_bl_int, isi_str_str, isi_tup_tup, isi_lst_lst, isi_non_int, isi_non_tup, _root_.FL.R.ok_bind, _root_.FL.R.exc_bind, _root_.FL.R.stuck_bind, _root_.FL.R.pure_eq, List.append_nil, List.length_cons, List.length_nil, Nat.zero_add, Nat.reduceAdd, Nat.reduceLeDiff, Nat.reduceLT, decide_eq_true_eq, if_true, if_false, ite_true, ite_false, Bool.true_eq_false, Bool.false_eq_true, Bool.not_true, Bool.not_false, reduceIte, Bool.not_eq_true', decide_eq_false_iff_not, q1, q2, q3, zi, q4, q, Int.toNat_natCast, h2, e_fits, hf]
        rfl
      | false =>
        rw [if_neg Bool.false_ne_true]
        simp -implicitDefEqProofs (disch := first | omega | (simp only [List.length_map, List.length_append, List.length_cons, List.length_nil, List.length_take, List.length_drop, repS_len, rngL_len, List.length_range, List.length_reverse]; done) | (simp only [List.length_map, List.length_append, List.length_cons, List.length_nil, List.length_take, List.length_drop, repS_len, rngL_len, List.length_range, List.length_reverse]; omega)) only [mVar_ev, mVarR_ev, getV_val, getR_val, getR_own, mC_ev, mOp_ev, mOpL_ev, mT_ev, asB_bl, mAnd_ev, mOr_ev, mNot_ev, mAndV_ev, mOrV_ev, mNotV_ev, mIf_ev, mNil_ev, mCons_ev, mTup_ev, mLst_ev, mCall_ev, mPn_ev, mPs_ev, asI_int, mSl_ev, mSlL_ev, asL_lst, asL_scr, asTp_tup, asSt_str, R_ite, mWalk_ev, mLe_ev, mNeg_ev, mSeq_ev, mSkip_ev, bind_nx, bind_rt, bind_rtL, bind_bk, bind_ct, bind_ex, bind_ite, lift_ok, lift_exc, lift_ite, mAsg_ev, mAsgL_ev, mDrop_ev, mRet_ev, mRetL_ev, mRetN_ev, mRetOwn_ev, getO_own, mIfS_ev, mSet1_ev, onO_own, onO_val, mAppend_ev, putO_own, mAsgG_ev, optSO_some, gSet_ev, gsNil_ev, gsCons_ev, obind_some, gTupM_1, gTupM_2, gTupM_3, gTupM_4, gTupM_5, gTupM_6, mFor_ev, retD_nx, retD_rt, retD_rtL, retD_ex, retD_ite, retLs_rtL, retLs_ex, retLs_ite, nth_zero, nth_succ, set_zero, set_succ, add_int, add_str, add_lst, lcat_lst, sub_int', neg_int', lt_int', le_int', gt_int', ge_int', mod_int', fdiv_int, mul_int', mul_str', isN_non, isN_int, notN_non, notN_int, eq_int', ne_int', eq_str', ne_str', eq_bl', ne_bl', len_str', len_lst, len_tup, len_scr, max_int, min_int, sl_str', sl_lst, sl_scr, lsl_lst, lsl_scr, ix_str', ix_lst, ix_tup', ix_scr, range1_ok, range2_ok, range3_ok, mMeth_ev, onStr_str, mComp_ev, mCh_ev, wipeE_nil, wipeE_cons, mYes_ev, int_int, int_bl, asW_lst, asW_tup, asW_scr, asW_str, lt_str', le_str', gt_str', ge_str', mRaise_ev, sum_ints, all_bls, any_bls, list_lst, list_tup, list_scr, sorted_ints', g_find_ev, g_find3_ev, g_find4_ev, g_rfind_ev, g_rfind4_ev, g_count_ev, g_count3_ev, g_count4_ev, g_startswith_ev, g_endswith_ev, Int.reduceToNat, List.getD_cons_zero, List.getD_cons_succ, List.length_map, List.length_reverse, Int.zero_mul, Int.mul_zero, Int.add_zero, Int.mul_one, nc0, nc1, nc2, nc3, nc4, nc5, nc6, nc7, nc8, nc9, nc10, nc11, nc12, nc13, List.cons_append, List.nil_append, decide_true, decide_false, not_false_eq_true, not_true_eq_false, mCallR_ev, retLE_rtL, retDE_rt, flatR_bl, flatR_int, flatR_str, flatR_non, flatR_exc, getOwn_own, mMut0_ev, mSetIx_ev, putIx_ok, rev_lst, lrep_ev, if_small, if_small', rngL_len, endS_nx, endS_rt, in_sign, notIn_sign, isN_str, notN_str, isN_tup, notN_tup, isi_int_int, isi_int_bool, isi_bl_bool, isi_bl_int, isi_str_str, isi_tup_tup, isi_lst_lst, isi_non_int, isi_non_tup, _root_.FL.R.ok_bind, _root_.FL.R.exc_bind, _root_.FL.R.stuck_bind, _root_.FL.R.pure_eq, List.append_nil, List.length_cons, List.length_nil, Nat.zero_add, Nat.reduceAdd, Nat.reduceLeDiff, Nat.reduceLT, decide_eq_true_eq, if_true, if_false, ite_true, ite_false, Bool.true_eq_false, Bool.false_eq_true, Bool.not_true, Bool.not_false, reduceIte, Bool.not_eq_true', decide_eq_false_iff_not, q1, q2, q3, zi, q4, q, Int.toNat_natCast, h2, e_fits, hf]
        rfl
  · rw [if_pos q4]
    simp -implicitDefEqProofs (disch := first | omega | (simp only [List.length_map, List.length_append, List.length_cons, List.length_nil, List.length_take, List.length_drop, repS_len, rngL_len, List.length_range, List.length_reverse]; done) | (simp only [List.length_map, List.length_append, List.length_cons, List.length_nil, List.length_take, List.length_drop, repS_len, rngL_len, List.length_range, List.length_reverse]; omega)) only [mVar_ev, mVarR_ev, getV_val, getR_val, getR_own, mC_ev, mOp_ev, mOpL_ev, mT_ev, asB_bl, mAnd_ev, mOr_ev, mNot_ev, mAndV_ev, mOrV_ev, mNotV_ev, mIf_ev, mNil_ev, mCons_ev, mTup_ev, mLst_ev, mCall_ev, mPn_ev, mPs_ev, asI_int, mSl_ev, mSlL_ev, asL_lst, asL_scr, asTp_tup, asSt_str, R_ite, mWalk_ev, mLe_ev, mNeg_ev, mSeq_ev, mSkip_ev, bind_nx, bind_rt, bind_rtL, bind_bk, bind_ct, bind_ex, bind_ite, lift_ok, lift_exc, lift_ite, mAsg_ev, mAsgL_ev, mDrop_ev, mRet_ev, mRetL_ev, mRetN_ev, mRetOwn_ev, getO_own, mIfS_ev, mSet1_ev, onO_own, onO_val, mAppend_ev, putO_own, mAsgG_ev, optSO_some, gSet_ev, gsNil_ev, gsCons_ev, obind_some, gTupM_1, gTupM_2, gTupM_3, gTupM_4, gTupM_5, gTupM_6, mFor_ev, retD_nx, retD_rt, retD_rtL, retD_ex, retD_ite, retLs_rtL, retLs_ex, retLs_ite, nth_zero, nth_succ, set_zero, set_succ, add_int, add_str, add_lst, lcat_lst, sub_int', neg_int', lt_int', le_int', gt_int', ge_int', mod_int', fdiv_int, mul_int', mul_str', isN_non, isN_int, notN_non, notN_int, eq_int', ne_int', eq_str', ne_str', eq_bl', ne_bl', len_str', len_lst, len_tup, len_scr, max_int, min_int, sl_str', sl_lst, sl_scr, lsl_lst, lsl_scr, ix_str', ix_lst, ix_tup', ix_scr, range1_ok, range2_ok, range3_ok, mMeth_ev, onStr_str, mComp_ev, mCh_ev, wipeE_nil, wipeE_cons, mYes_ev, int_int, int_bl, asW_lst, asW_tup, asW_scr, asW_str, lt_str', le_str', gt_str', ge_str', mRaise_ev, sum_ints, all_bls, any_bls, list_lst, list_tup, list_scr, sorted_ints', g_find_ev, g_find3_ev, g_find4_ev, g_rfind_ev, g_rfind4_ev, g_count_ev, g_count3_ev, g_count4_ev, g_startswith_ev, g_endswith_ev, Int.reduceToNat, List.getD_cons_zero, List.getD_cons_succ, List.length_map, List.length_reverse, Int.zero_mul, Int.mul_zero, Int.add_zero, Int.mul_one, nc0, nc1, nc2, nc3, nc4, nc5, nc6, nc7, nc8, nc9, nc10, nc11, nc12, nc13, List.cons_append, List.nil_append, decide_true, decide_false, not_false_eq_true, not_true_eq_false, mCallR_ev, retLE_rtL, retDE_rt, flatR_bl, flatR_int, flatR_str, flatR_non, flatR_exc, getOwn_own, mMut0_ev, mSetIx_ev, putIx_ok, rev_lst, lrep_ev, if_small, if_small', rngL_len, endS_nx, endS_rt, in_sign, notIn_sign, isN_str, notN_str, isN_tup, notN_tup, isi_int_int, isi_int_bool, isi_bl_bool, isi_bl_int, isi_str_str, isi_tup_tup, isi_lst_lst, isi_non_int, isi_non_tup, _root_.FL.R.ok_bind, _root_.FL.R.exc_bind, _root_.FL.R.stuck_bind, _root_.FL.R.pure_eq, List.append_nil, List.length_cons, List.length_nil, Nat.zero_add, Nat.reduceAdd, Nat.reduceLeDiff, Nat.reduceLT, decide_eq_true_eq, if_true, if_false, ite_true, ite_false, Bool.true_eq_false, Bool.false_eq_true, Bool.not_true, Bool.not_false, reduceIte, Bool.not_eq_true', decide_eq_false_iff_not, q1, q2, q3, zi, q4]
    rfl
theorem e_tail (ks sh v : List Nat) (c : D) (at_ : Nat) (T : TT (List Nat)) (hl : ks.length ≤ 100000) (hT : ∀ a n, T = .told a n → at_ + n ≤ ks.length) :
    retD ((mSeq (mIfS (mT (mOp D.ne (mOp D.ix (mVar 5) (mC (.int 0))) (mC (.str [116, 111, 108, 100])))) (mRet (mVar 5)) mSkip) (mSeq (mAsg 6 (mCall (fun ds => p_typed_of ds) (mCons (mVar 0) (mCons (mOp D.ix (mVar 5) (mC (.int 2))) (mCons (mVar 4) mNil))))) (mSeq (mIfS (mT (mOp D.ne (mOp D.ix (mVar 6) (mC (.int 0))) (mC (.str [116, 111, 108, 100])))) (mRet (mVar 6)) mSkip) (mRet (mTup (mCons (mC (.str [112, 104, 114, 97, 115, 101])) (mCons (mTup (mCons (mVar 1) (mCons (mVar 2) (mCons (mVar 4) (mCons (mOp D.ix (mVar 5) (mC (.int 1))) (mCons (mOp D.ix (mVar 6) (mC (.int 1))) mNil)))))) (mCons (mOp D.ix (mVar 6) (mC (.int 2))) mNil)))))))) [.val (.str ks), .val (.str sh), .val c, .val (.int at_), .val (.str v), .val (tD .str at_ T), .no]) = .ok (match T with
      | .half => D.tup [.str [104, 97, 108, 102]]
      | .non n => D.tup [.str [110, 111, 110, 101], .int ((at_ + n : Nat) : Int)]
      | .told tg n => match typedM v (ks.drop (at_ + n)) with
        | .half => D.tup [.str [104, 97, 108, 102]]
        | .non m => D.tup [.str [110, 111, 110, 101], .int ((at_ + n + m : Nat) : Int)]
        | .told ty m => D.tup [.str [112, 104, 114, 97, 115, 101], .tup [.str sh, c, .str v, .str tg, .str ty], .int ((at_ + n + m : Nat) : Int)]) := by
  have w1 : ¬ ([104, 97, 108, 102] : List Nat) = [116, 111, 108, 100] := by decide
  have w2 : ¬ ([110, 111, 110, 101] : List Nat) = [116, 111, 108, 100] := by decide
  cases T with
  | half =>
    have e : tD D.str at_ (.half : TT (List Nat)) = .tup [.str [104, 97, 108, 102]] := rfl
    rw [e]
    simp -implicitDefEqProofs (disch := first | omega | (simp only [List.length_map, List.length_append, List.length_cons, List.length_nil, List.length_take, List.length_drop, repS_len, rngL_len, List.length_range, List.length_reverse]; done) | (simp only [List.length_map, List.length_append, List.length_cons, List.length_nil, List.length_take, List.length_drop, repS_len, rngL_len, List.length_range, List.length_reverse]; omega)) only [mVar_ev, mVarR_ev, getV_val, getR_val, getR_own, mC_ev, mOp_ev, mOpL_ev, mT_ev, asB_bl, mAnd_ev, mOr_ev, mNot_ev, mAndV_ev, mOrV_ev, mNotV_ev, mIf_ev, mNil_ev, mCons_ev, mTup_ev, mLst_ev, mCall_ev, mPn_ev, mPs_ev, asI_int, mSl_ev, mSlL_ev, asL_lst, asL_scr, asTp_tup, asSt_str, R_ite, mWalk_ev, mLe_ev, mNeg_ev, mSeq_ev, mSkip_ev, bind_nx, bind_rt, bind_rtL, bind_bk, bind_ct, bind_ex, bind_ite, lift_ok, lift_exc, lift_ite, mAsg_ev, mAsgL_ev, mDrop_ev, mRet_ev, mRetL_ev, mRetN_ev, mRetOwn_ev, getO_own, mIfS_ev, mSet1_ev, onO_own, onO_val, mAppend_ev, putO_own, mAsgG_ev, optSO_some, gSet_ev, gsNil_ev, gsCons_ev, obind_some, gTupM_1, gTupM_2, gTupM_3, gTupM_4, gTupM_5, gTupM_6, mFor_ev, retD_nx, retD_rt, retD_rtL, retD_ex, retD_ite, retLs_rtL, retLs_ex, retLs_ite, nth_zero, nth_succ, set_zero, set_succ, add_int, add_str, add_lst, lcat_lst, sub_int', neg_int', lt_int', le_int', gt_int', ge_int', mod_int', fdiv_int, mul_int', mul_str', isN_non, isN_int, notN_non, notN_int, eq_int', ne_int', eq_str', ne_str', eq_bl', ne_bl', len_str', len_lst, len_tup, len_scr, max_int, min_int, sl_str', sl_lst, sl_scr, lsl_lst, lsl_scr, ix_str', ix_lst, ix_tup', ix_scr, range1_ok, range2_ok, range3_ok, mMeth_ev, onStr_str, mComp_ev, mCh_ev, wipeE_nil, wipeE_cons, mYes_ev, int_int, int_bl, asW_lst, asW_tup, asW_scr, asW_str, lt_str', le_str', gt_str', ge_str', mRaise_ev, sum_ints, all_bls, any_bls, list_lst, list_tup, list_scr, sorted_ints', g_find_ev, g_find3_ev, g_find4_ev, g_rfind_ev, g_rfind4_ev, g_count_ev, g_count3_ev, g_count4_ev, g_startswith_ev, g_endswith_ev, Int.reduceToNat, List.getD_cons_zero, List.getD_cons_succ, List.length_map, List.length_reverse, Int.zero_mul, Int.mul_zero, Int.add_zero, Int.mul_one, nc0, nc1, nc2, nc3, nc4, nc5, nc6, nc7, nc8, nc9, nc10, nc11, nc12, nc13, List.cons_append, List.nil_append, decide_true, decide_false, not_false_eq_true, not_true_eq_false, mCallR_ev, retLE_rtL, retDE_rt, flatR_bl, flatR_int, flatR_str, flatR_non, flatR_exc, getOwn_own, mMut0_ev, mSetIx_ev, putIx_ok, rev_lst, lrep_ev, if_small, if_small', rngL_len, endS_nx, endS_rt, in_sign, notIn_sign, isN_str, notN_str, isN_tup, notN_tup, isi_int_int, isi_int_bool, isi_bl_bool, isi_bl_int, isi_str_str, isi_tup_tup, isi_lst_lst, isi_non_int, isi_non_tup, _root_.FL.R.ok_bind, _root_.FL.R.exc_bind, _root_.FL.R.stuck_bind, _root_.FL.R.pure_eq, List.append_nil, List.length_cons, List.length_nil, Nat.zero_add, Nat.reduceAdd, Nat.reduceLeDiff, Nat.reduceLT, decide_eq_true_eq, if_true, if_false, ite_true, ite_false, Bool.true_eq_false, Bool.false_eq_true, Bool.not_true, Bool.not_false, reduceIte, Bool.not_eq_true', decide_eq_false_iff_not, w1]
  | non n =>
    have e : tD D.str at_ (.non n : TT (List Nat)) = .tup [.str [110, 111, 110, 101], .int ((at_ + n : Nat) : Int)] := rfl
    rw [e]
    simp -implicitDefEqProofs (disch := first | omega | (simp only [List.length_map, List.length_append, List.length_cons, List.length_nil, List.length_take, List.length_drop, repS_len, rngL_len, List.length_range, List.length_reverse]; done) | (simp only [List.length_map, List.length_append, List.length_cons, List.length_nil, List.length_take, List.length_drop, repS_len, rngL_len, List.length_range, List.length_reverse]; omega)) only [mVar_ev, mVarR_ev, getV_val, getR_val, getR_own, mC_ev, mOp_ev, mOpL_ev, mT_ev, asB_bl, mAnd_ev, mOr_ev, mNot_ev, mAndV_ev, mOrV_ev, mNotV_ev, mIf_ev, mNil_ev, mCons_ev, mTup_ev, mLst_ev, mCall_ev, mPn_ev, mPs_ev, asI_int, mSl_ev, mSlL_ev, asL_lst, asL_scr, asTp_tup, asSt_str, R_ite, mWalk_ev, mLe_ev, mNeg_ev, mSeq_ev, mSkip_ev, bind_nx, bind_rt, bind_rtL, bind_bk, bind_ct, bind_ex, bind_ite, lift_ok, lift_exc, lift_ite, mAsg_ev, mAsgL_ev, mDrop_ev, mRet_ev, mRetL_ev, mRetN_ev, mRetOwn_ev, getO_own, mIfS_ev, mSet1_ev, onO_own, onO_val, mAppend_ev, putO_own, mAsgG_ev, optSO_some, gSet_ev, gsNil_ev, gsCons_ev, obind_some, gTupM_1, gTupM_2, gTupM_3, gTupM_4, gTupM_5, gTupM_6, mFor_ev, retD_nx, retD_rt, retD_rtL, retD_ex, retD_ite, retLs_rtL, retLs_ex, retLs_ite, nth_zero, nth_succ, set_zero, set_succ, add_int, add_str, add_lst, lcat_lst, sub_int', neg_int', lt_int', le_int', gt_int', ge_int', mod_int', fdiv_int, mul_int', mul_str', isN_non, isN_int, notN_non, notN_int, eq_int', ne_int', eq_str', ne_str', eq_bl', ne_bl', len_str', len_lst, len_tup, len_scr, max_int, min_int, sl_str', sl_lst, sl_scr, lsl_lst, lsl_scr, ix_str', ix_lst, ix_tup', ix_scr, range1_ok, range2_ok, range3_ok, mMeth_ev, onStr_str, mComp_ev, mCh_ev, wipeE_nil, wipeE_cons, mYes_ev, int_int, int_bl, asW_lst, asW_tup, asW_scr, asW_str, lt_str', le_str', gt_str', ge_str', mRaise_ev, sum_ints, all_bls, any_bls, list_lst, list_tup, list_scr, sorted_ints', g_find_ev, g_find3_ev, g_find4_ev, g_rfind_ev, g_rfind4_ev, g_count_ev, g_count3_ev, g_count4_ev, g_startswith_ev, g_endswith_ev, Int.reduceToNat, List.getD_cons_zero, List.getD_cons_succ, List.length_map, List.length_reverse, Int.zero_mul, Int.mul_zero, Int.add_zero, Int.mul_one, nc0, nc1, nc2, nc3, nc4, nc5, nc6, nc7, nc8, nc9, nc10, nc11, nc12, nc13, List.cons_append, List.nil_append, decide_true, decide_false, not_false_eq_true, not_true_eq_false, mCallR_ev, retLE_rtL, retDE_rt, flatR_bl, flatR_int, flatR_str, flatR_non, flatR_exc, getOwn_own, mMut0_ev, mSetIx_ev, putIx_ok, rev_lst, lrep_ev, if_small, if_small', rngL_len, endS_nx, endS_rt, in_sign, notIn_sign, isN_str, notN_str, isN_tup, notN_tup, isi_int_int, isi_int_bool, isi_bl_bool, isi_bl_int, isi_str_str, isi_tup_tup, isi_lst_lst, isi_non_int, isi_non_tup, _root_.FL.R.ok_bind, _root_.FL.R.exc_bind, _root_.FL.R.stuck_bind, _root_.FL.R.pure_eq, List.append_nil, List.length_cons, List.length_nil, Nat.zero_add, Nat.reduceAdd, Nat.reduceLeDiff, Nat.reduceLT, decide_eq_true_eq, if_true, if_false, ite_true, ite_false, Bool.true_eq_false, Bool.false_eq_true, Bool.not_true, Bool.not_false, reduceIte, Bool.not_eq_true', decide_eq_false_iff_not, w2]
  | told tg n =>
    have e : tD D.str at_ (.told tg n) = .tup [.str [116, 111, 108, 100], .str tg, .int ((at_ + n : Nat) : Int)] := rfl
    have et := e_typed ks (at_ + n) v hl (hT tg n rfl)
    rw [e]
    show _ = R.ok (match typedM v (ks.drop (at_ + n)) with
        | .half => D.tup [.str [104, 97, 108, 102]]
        | .non m => D.tup [.str [110, 111, 110, 101], .int ((at_ + n + m : Nat) : Int)]
        | .told ty m => D.tup [.str [112, 104, 114, 97, 115, 101], .tup [.str sh, c, .str v, .str tg, .str ty], .int ((at_ + n + m : Nat) : Int)])
    cases ht : typedM v (ks.drop (at_ + n)) with
    | half =>
      have e2 : tD D.str (at_ + n) (.half : TT (List Nat)) = .tup [.str [104, 97, 108, 102]] := rfl
      rw [ht, e2] at et
      simp -implicitDefEqProofs (disch := first | omega | (simp only [List.length_map, List.length_append, List.length_cons, List.length_nil, List.length_take, List.length_drop, repS_len, rngL_len, List.length_range, List.length_reverse]; done) | (simp only [List.length_map, List.length_append, List.length_cons, List.length_nil, List.length_take, List.length_drop, repS_len, rngL_len, List.length_range, List.length_reverse]; omega)) only [mVar_ev, mVarR_ev, getV_val, getR_val, getR_own, mC_ev, mOp_ev, mOpL_ev, mT_ev, asB_bl, mAnd_ev, mOr_ev, mNot_ev, mAndV_ev, mOrV_ev, mNotV_ev, mIf_ev, mNil_ev, mCons_ev, mTup_ev, mLst_ev, mCall_ev, mPn_ev, mPs_ev, asI_int, mSl_ev, mSlL_ev, asL_lst, asL_scr, asTp_tup, asSt_str, R_ite, mWalk_ev, mLe_ev, mNeg_ev, mSeq_ev, mSkip_ev, bind_nx, bind_rt, bind_rtL, bind_bk, bind_ct, bind_ex, bind_ite, lift_ok, lift_exc, lift_ite, mAsg_ev, mAsgL_ev, mDrop_ev, mRet_ev, mRetL_ev, mRetN_ev, mRetOwn_ev, getO_own, mIfS_ev, mSet1_ev, onO_own, onO_val, mAppend_ev, putO_own, mAsgG_ev, optSO_some, gSet_ev, gsNil_ev, gsCons_ev, obind_some, gTupM_1, gTupM_2, gTupM_3, gTupM_4, gTupM_5, gTupM_6, mFor_ev, retD_nx, retD_rt, retD_rtL, retD_ex, retD_ite, retLs_rtL, retLs_ex, retLs_ite, nth_zero, nth_succ, set_zero, set_succ, add_int, add_str, add_lst, lcat_lst, sub_int', neg_int', lt_int', le_int', gt_int', ge_int', mod_int', fdiv_int, mul_int', mul_str', isN_non, isN_int, notN_non, notN_int, eq_int', ne_int', eq_str', ne_str', eq_bl', ne_bl', len_str', len_lst, len_tup, len_scr, max_int, min_int, sl_str', sl_lst, sl_scr, lsl_lst, lsl_scr, ix_str', ix_lst, ix_tup', ix_scr, range1_ok, range2_ok, range3_ok, mMeth_ev, onStr_str, mComp_ev, mCh_ev, wipeE_nil, wipeE_cons, mYes_ev, int_int, int_bl, asW_lst, asW_tup, asW_scr, asW_str, lt_str', le_str', gt_str', ge_str', mRaise_ev, sum_ints, all_bls, any_bls, list_lst, list_tup, list_scr, sorted_ints', g_find_ev, g_find3_ev, g_find4_ev, g_rfind_ev, g_rfind4_ev, g_count_ev, g_count3_ev, g_count4_ev, g_startswith_ev, g_endswith_ev, Int.reduceToNat, List.getD_cons_zero, List.getD_cons_succ, List.length_map, List.length_reverse, Int.zero_mul, Int.mul_zero, Int.add_zero, Int.mul_one, nc0, nc1, nc2, nc3, nc4, nc5, nc6, nc7, nc8, nc9, nc10, nc11, nc12, nc13, List.cons_append, List.nil_append, decide_true, decide_false, not_false_eq_true, not_true_eq_false, mCallR_ev, retLE_rtL, retDE_rt, flatR_bl, flatR_int, flatR_str, flatR_non, flatR_exc, getOwn_own, mMut0_ev, mSetIx_ev, putIx_ok, rev_lst, lrep_ev, if_small, if_small', rngL_len, endS_nx, endS_rt, in_sign, notIn_sign, isN_str, notN_str, isN_tup, notN_tup, isi_int_int, isi_int_bool, isi_bl_bool, isi_bl_int, isi_str_str, isi_tup_tup, isi_lst_lst, isi_non_int, isi_non_tup, _root_.FL.R.ok_bind, _root_.FL.R.exc_bind, _root_.FL.R.stuck_bind, _root_.FL.R.pure_eq, List.append_nil, List.length_cons, List.length_nil, Nat.zero_add, Nat.reduceAdd, Nat.reduceLeDiff, Nat.reduceLT, decide_eq_true_eq, if_true, if_false, ite_true, ite_false, Bool.true_eq_false, Bool.false_eq_true, Bool.not_true, Bool.not_false, reduceIte, Bool.not_eq_true', decide_eq_false_iff_not, et, w1]
    | non m =>
      have e2 : tD D.str (at_ + n) (.non m : TT (List Nat)) = .tup [.str [110, 111, 110, 101], .int ((at_ + n + m : Nat) : Int)] := rfl
      rw [ht, e2] at et
      simp -implicitDefEqProofs (disch := first | omega | (simp only [List.length_map, List.length_append, List.length_cons, List.length_nil, List.length_take, List.length_drop, repS_len, rngL_len, List.length_range, List.length_reverse]; done) | (simp only [List.length_map, List.length_append, List.length_cons, List.length_nil, List.length_take, List.length_drop, repS_len, rngL_len, List.length_range, List.length_reverse]; omega)) only [mVar_ev, mVarR_ev, getV_val, getR_val, getR_own, mC_ev, mOp_ev, mOpL_ev, mT_ev, asB_bl, mAnd_ev, mOr_ev, mNot_ev, mAndV_ev, mOrV_ev, mNotV_ev, mIf_ev, mNil_ev, mCons_ev, mTup_ev, mLst_ev, mCall_ev, mPn_ev, mPs_ev, asI_int, mSl_ev, mSlL_ev, asL_lst, asL_scr, asTp_tup, asSt_str, R_ite, mWalk_ev, mLe_ev, mNeg_ev, mSeq_ev, mSkip_ev, bind_nx, bind_rt, bind_rtL, bind_bk, bind_ct, bind_ex, bind_ite, lift_ok, lift_exc, lift_ite, mAsg_ev, mAsgL_ev, mDrop_ev, mRet_ev, mRetL_ev, mRetN_ev, mRetOwn_ev, getO_own, mIfS_ev, mSet1_ev, onO_own, onO_val, mAppend_ev, putO_own, mAsgG_ev, optSO_some, gSet_ev, gsNil_ev, gsCons_ev, obind_some, gTupM_1, gTupM_2, gTupM_3, gTupM_4, gTupM_5, gTupM_6, mFor_ev, retD_nx, retD_rt, retD_rtL, retD_ex, retD_ite, retLs_rtL, retLs_ex, retLs_ite, nth_zero, nth_succ, set_zero, set_succ, add_int, add_str, add_lst, lcat_lst, sub_int', neg_int', lt_int', le_int', gt_int', ge_int', mod_int', fdiv_int, mul_int', mul_str', isN_non, isN_int, notN_non, notN_int, eq_int', ne_int', eq_str', ne_str', eq_bl', ne_bl', len_str', len_lst, len_tup, len_scr, max_int, min_int, sl_str', sl_lst, sl_scr, lsl_lst, lsl_scr, ix_str', ix_lst, ix_tup', ix_scr, range1_ok, range2_ok, range3_ok, mMeth_ev, onStr_str, mComp_ev, mCh_ev, wipeE_nil, wipeE_cons, mYes_ev, int_int, int_bl, asW_lst, asW_tup, asW_scr, asW_str, lt_str', le_str', gt_str', ge_str', mRaise_ev, sum_ints, all_bls, any_bls, list_lst, list_tup, list_scr, sorted_ints', g_find_ev, g_find3_ev, g_find4_ev, g_rfind_ev, g_rfind4_ev, g_count_ev, g_count3_ev, g_count4_ev, g_startswith_ev, g_endswith_ev, Int.reduceToNat, List.getD_cons_zero, List.getD_cons_succ, List.length_map, List.length_reverse, Int.zero_mul, Int.mul_zero, Int.add_zero, Int.mul_one, nc0, nc1, nc2, nc3, nc4, nc5, nc6, nc7, nc8, nc9, nc10, nc11, nc12, nc13, List.cons_append, List.nil_append, decide_true, decide_false, not_false_eq_true, not_true_eq_false, mCallR_ev, retLE_rtL, retDE_rt, flatR_bl, flatR_int, flatR_str, flatR_non, flatR_exc, getOwn_own, mMut0_ev, mSetIx_ev, putIx_ok, rev_lst, lrep_ev, if_small, if_small', rngL_len, endS_nx, endS_rt, in_sign, notIn_sign, isN_str, notN_str, isN_tup, notN_tup, isi_int_int, isi_int_bool, isi_bl_bool, isi_bl_int, isi_str_str, isi_tup_tup, isi_lst_lst, isi_non_int, isi_non_tup, _root_.FL.R.ok_bind, _root_.FL.R.exc_bind, _root_.FL.R.stuck_bind, _root_.FL.R.pure_eq, List.append_nil, List.length_cons, List.length_nil, Nat.zero_add, Nat.reduceAdd, Nat.reduceLeDiff, Nat.reduceLT, decide_eq_true_eq, if_true, if_false, ite_true, ite_false, Bool.true_eq_false, Bool.false_eq_true, Bool.not_true, Bool.not_false, reduceIte, Bool.not_eq_true', decide_eq_false_iff_not, et, w2]
    | told ty m =>
      have e2 : tD D.str (at_ + n) (.told ty m) = .tup [.str [116, 111, 108, 100], .str ty, .int ((at_ + n + m : Nat) : Int)] := rfl
      rw [ht, e2] at et
      simp -implicitDefEqProofs (disch := first | omega | (simp only [List.length_map, List.length_append, List.length_cons, List.length_nil, List.length_take, List.length_drop, repS_len, rngL_len, List.length_range, List.length_reverse]; done) | (simp only [List.length_map, List.length_append, List.length_cons, List.length_nil, List.length_take, List.length_drop, repS_len, rngL_len, List.length_range, List.length_reverse]; omega)) only [mVar_ev, mVarR_ev, getV_val, getR_val, getR_own, mC_ev, mOp_ev, mOpL_ev, mT_ev, asB_bl, mAnd_ev, mOr_ev, mNot_ev, mAndV_ev, mOrV_ev, mNotV_ev, mIf_ev, mNil_ev, mCons_ev, mTup_ev, mLst_ev, mCall_ev, mPn_ev, mPs_ev, asI_int, mSl_ev, mSlL_ev, asL_lst, asL_scr, asTp_tup, asSt_str, R_ite, mWalk_ev, mLe_ev, mNeg_ev, mSeq_ev, mSkip_ev, bind_nx, bind_rt, bind_rtL, bind_bk, bind_ct, bind_ex, bind_ite, lift_ok, lift_exc, lift_ite, mAsg_ev, mAsgL_ev, mDrop_ev, mRet_ev, mRetL_ev, mRetN_ev, mRetOwn_ev, getO_own, mIfS_ev, mSet1_ev, onO_own, onO_val, mAppend_ev, putO_own, mAsgG_ev, optSO_some, gSet_ev, gsNil_ev, gsCons_ev, obind_some, gTupM_1, gTupM_2, gTupM_3, gTupM_4, gTupM_5, gTupM_6, mFor_ev, retD_nx, retD_rt, retD_rtL, retD_ex, retD_ite, retLs_rtL, retLs_ex, retLs_ite, nth_zero, nth_succ, set_zero, set_succ, add_int, add_str, add_lst, lcat_lst, sub_int', neg_int', lt_int', le_int', gt_int', ge_int', mod_int', fdiv_int, mul_int', mul_str', isN_non, isN_int, notN_non, notN_int, eq_int', ne_int', eq_str', ne_str', eq_bl', ne_bl', len_str', len_lst, len_tup, len_scr, max_int, min_int, sl_str', sl_lst, sl_scr, lsl_lst, lsl_scr, ix_str', ix_lst, ix_tup', ix_scr, range1_ok, range2_ok, range3_ok, mMeth_ev, onStr_str, mComp_ev, mCh_ev, wipeE_nil, wipeE_cons, mYes_ev, int_int, int_bl, asW_lst, asW_tup, asW_scr, asW_str, lt_str', le_str', gt_str', ge_str', mRaise_ev, sum_ints, all_bls, any_bls, list_lst, list_tup, list_scr, sorted_ints', g_find_ev, g_find3_ev, g_find4_ev, g_rfind_ev, g_rfind4_ev, g_count_ev, g_count3_ev, g_count4_ev, g_startswith_ev, g_endswith_ev, Int.reduceToNat, List.getD_cons_zero, List.getD_cons_succ, List.length_map, List.length_reverse, Int.zero_mul, Int.mul_zero, Int.add_zero, Int.mul_one, nc0, nc1, nc2, nc3, nc4, nc5, nc6, nc7, nc8, nc9, nc10, nc11, nc12, nc13, List.cons_append, List.nil_append, decide_true, decide_false, not_false_eq_true, not_true_eq_false, mCallR_ev, retLE_rtL, retDE_rt, flatR_bl, flatR_int, flatR_str, flatR_non, flatR_exc, getOwn_own, mMut0_ev, mSetIx_ev, putIx_ok, rev_lst, lrep_ev, if_small, if_small', rngL_len, endS_nx, endS_rt, in_sign, notIn_sign, isN_str, notN_str, isN_tup, notN_tup, isi_int_int, isi_int_bool, isi_bl_bool, isi_bl_int, isi_str_str, isi_tup_tup, isi_lst_lst, isi_non_int, isi_non_tup, _root_.FL.R.ok_bind, _root_.FL.R.exc_bind, _root_.FL.R.stuck_bind, _root_.FL.R.pure_eq, List.append_nil, List.length_cons, List.length_nil, Nat.zero_add, Nat.reduceAdd, Nat.reduceLeDiff, Nat.reduceLT, decide_eq_true_eq, if_true, if_false, ite_true, ite_false, Bool.true_eq_false, Bool.false_eq_true, Bool.not_true, Bool.not_false, reduceIte, Bool.not_eq_true', decide_eq_false_iff_not, et]
theorem e_tail' (ks sh ct v : List Nat) (at_ : Nat) (T : TT (List Nat)) (hl : ks.length ≤ 100000) (hT : ∀ a n, T = .told a n → at_ + n ≤ ks.length) :
    retD ((mSeq (mIfS (mT (mOp D.ne (mOp D.ix (mVar 5) (mC (.int 0))) (mC (.str [116, 111, 108, 100])))) (mRet (mVar 5)) mSkip) (mSeq (mAsg 6 (mCall (fun ds => p_typed_of ds) (mCons (mVar 0) (mCons (mOp D.ix (mVar 5) (mC (.int 2))) (mCons (mVar 4) mNil))))) (mSeq (mIfS (mT (mOp D.ne (mOp D.ix (mVar 6) (mC (.int 0))) (mC (.str [116, 111, 108, 100])))) (mRet (mVar 6)) mSkip) (mRet (mTup (mCons (mC (.str [112, 104, 114, 97, 115, 101])) (mCons (mTup (mCons (mVar 1) (mCons (mVar 2) (mCons (mVar 4) (mCons (mOp D.ix (mVar 5) (mC (.int 1))) (mCons (mOp D.ix (mVar 6) (mC (.int 1))) mNil)))))) (mCons (mOp D.ix (mVar 6) (mC (.int 2))) mNil)))))))) [.val (.str ks), .val (.str sh), .val (ctD ct), .val (.int at_), .val (.str v), .val (tD .str at_ T), .no]) = .ok (fDs at_ (restM sh ct v (ks.drop at_) T)) := by
  rw [e_tail ks sh v (ctD ct) at_ T hl hT]
  cases T with
  | half => rfl
  | non n => rfl
  | told tg n =>
    show R.ok (match typedM v (ks.drop (at_ + n)) with
        | .half => D.tup [.str [104, 97, 108, 102]]
        | .non m => D.tup [.str [110, 111, 110, 101], .int ((at_ + n + m : Nat) : Int)]
        | .told ty m => D.tup [.str [112, 104, 114, 97, 115, 101], .tup [.str sh, ctD ct, .str v, .str tg, .str ty], .int ((at_ + n + m : Nat) : Int)]) = R.ok (fDs at_ (match typedM v ((ks.drop at_).drop n) with
    | .half => .half
    | .non m => .non (n + m)
    | .told ty m => .told ⟨sh, ct, v, tg, ty⟩ (n + m)))
    rw [List.drop_drop]
    cases typedM v (ks.drop (at_ + n)) with
    | half => rfl
    | non m => show R.ok (D.tup [_, .int ((at_ + n + m : Nat) : Int)]) = R.ok (D.tup [_, .int ((at_ + (n + m) : Nat) : Int)]); rw [Nat.add_assoc]
    | told ty m => show R.ok (D.tup [_, _, .int ((at_ + n + m : Nat) : Int)]) = R.ok (D.tup [_, _, .int ((at_ + (n + m) : Nat) : Int)]); rw [Nat.add_assoc]; rfl
theorem e_behind (ks sh ct : List Nat) (at_ : Nat) (hl : ks.length ≤ 100000) (ha : at_ < ks.length) (hct : ct = [] ∨ (ct ≠ [] ∧ ∃ c, ctD ct = .int c)) : p_behind_count [.str ks, .str sh, ctD ct, .int at_] = .ok (fDs at_ (behindM sh ct (ks.drop at_))) := by
  rw [u_behind_count]; unfold b_behind_count
  rw [behindM_eq]
  generalize hk : (ks.drop at_).getD 0 0 = k
  have h2 : ks.getD at_ 0 = k := by rw [← hk, dr_get]; rfl
  have q0 : (at_ : Int) < ks.length := by omega
  have tl1 : (ks.drop at_).tail = ks.drop (at_ + 1) := by rw [List.tail_drop]
  have cN : ct ≠ [] → D.notN (ctD ct) .non = .ok (.bl true) := fun h => by
    rcases hct with z | ⟨_, c, z⟩
    · exact absurd z h
    · rw [z]; exact notN_int _
  have cN0 : ct = [] → D.notN (ctD ct) .non = .ok (.bl false) := fun h => by
    have : ctD ct = .non := by rw [h]; rfl
    rw [this]; exact notN_non
  simp -implicitDefEqProofs (disch := first | omega | (simp only [List.length_map, List.length_append, List.length_cons, List.length_nil, List.length_take, List.length_drop, repS_len, rngL_len, List.length_range, List.length_reverse]; done) | (simp only [List.length_map, List.length_append, List.length_cons, List.length_nil, List.length_take, List.length_drop, repS_len, rngL_len, List.length_range, List.length_reverse]; omega)) only [mVar_ev, mVarR_ev, getV_val, getR_val, getR_own, mC_ev, mOp_ev, mOpL_ev, mT_ev, asB_bl, mAnd_ev, mOr_ev, mNot_ev, mAndV_ev, mOrV_ev, mNotV_ev, mIf_ev, mNil_ev, mCons_ev, mTup_ev, mLst_ev, mCall_ev, mPn_ev, mPs_ev, asI_int, mSl_ev, mSlL_ev, asL_lst, asL_scr, asTp_tup, asSt_str, R_ite, mWalk_ev, mLe_ev, mNeg_ev, mSeq_ev, mSkip_ev, bind_rt, bind_rtL, bind_bk, bind_ct, bind_ex, bind_ite, lift_ok, lift_exc, lift_ite, mAsg_ev, mAsgL_ev, mDrop_ev, mRet_ev, mRetL_ev, mRetN_ev, mRetOwn_ev, getO_own, mIfS_ev, mSet1_ev, onO_own, onO_val, mAppend_ev, putO_own, mAsgG_ev, optSO_some, gSet_ev, gsNil_ev, gsCons_ev, obind_some, gTupM_1, gTupM_2, gTupM_3, gTupM_4, gTupM_5, gTupM_6, mFor_ev, retD_nx, retD_rt, retD_rtL, retD_ex, retD_ite, retLs_rtL, retLs_ex, retLs_ite, nth_zero, nth_succ, set_zero, set_succ, add_int, add_str, add_lst, lcat_lst, sub_int', neg_int', lt_int', le_int', gt_int', ge_int', mod_int', fdiv_int, mul_int', mul_str', isN_non, isN_int, notN_non, notN_int, eq_int', ne_int', eq_str', ne_str', eq_bl', ne_bl', len_str', len_lst, len_tup, len_scr, max_int, min_int, sl_str', sl_lst, sl_scr, lsl_lst, lsl_scr, ix_str', ix_lst, ix_tup', ix_scr, range1_ok, range2_ok, range3_ok, mMeth_ev, onStr_str, mComp_ev, mCh_ev, wipeE_nil, wipeE_cons, mYes_ev, int_int, int_bl, asW_lst, asW_tup, asW_scr, asW_str, lt_str', le_str', gt_str', ge_str', mRaise_ev, sum_ints, all_bls, any_bls, list_lst, list_tup, list_scr, sorted_ints', g_find_ev, g_find3_ev, g_find4_ev, g_rfind_ev, g_rfind4_ev, g_count_ev, g_count3_ev, g_count4_ev, g_startswith_ev, g_endswith_ev, Int.reduceToNat, List.getD_cons_zero, List.getD_cons_succ, List.length_map, List.length_reverse, Int.zero_mul, Int.mul_zero, Int.add_zero, Int.mul_one, nc0, nc1, nc2, nc3, nc4, nc5, nc6, nc7, nc8, nc9, nc10, nc11, nc12, nc13, List.cons_append, List.nil_append, decide_true, decide_false, not_false_eq_true, not_true_eq_false, mCallR_ev, retLE_rtL, retDE_rt, flatR_bl, flatR_int, flatR_str, flatR_non, flatR_exc, getOwn_own, mMut0_ev, mSetIx_ev, putIx_ok, rev_lst, lrep_ev, if_small, if_small', rngL_len, endS_nx, endS_rt, in_sign, notIn_sign, isN_str, notN_str, isN_tup, notN_tup, isi_int_int, isi_int_bool, isi_bl_bool, isi_bl_int, isi_str_str, isi_tup_tup, isi_lst_lst, isi_non_int, isi_non_tup, _root_.FL.R.ok_bind, _root_.FL.R.exc_bind, _root_.FL.R.stuck_bind, _root_.FL.R.pure_eq, List.append_nil, List.length_cons, List.length_nil, Nat.zero_add, Nat.reduceAdd, Nat.reduceLeDiff, Nat.reduceLT, decide_eq_true_eq, if_true, if_false, ite_true, ite_false, Bool.true_eq_false, Bool.false_eq_true, Bool.not_true, Bool.not_false, reduceIte, Bool.not_eq_true', decide_eq_false_iff_not]
  rw [bind_nx]
  simp -implicitDefEqProofs (disch := first | omega | (simp only [List.length_map, List.length_append, List.length_cons, List.length_nil, List.length_take, List.length_drop, repS_len, rngL_len, List.length_range, List.length_reverse]; done) | (simp only [List.length_map, List.length_append, List.length_cons, List.length_nil, List.length_take, List.length_drop, repS_len, rngL_len, List.length_range, List.length_reverse]; omega)) only [mVar_ev, mVarR_ev, getV_val, getR_val, getR_own, mC_ev, mOp_ev, mOpL_ev, mT_ev, asB_bl, mAnd_ev, mOr_ev, mNot_ev, mAndV_ev, mOrV_ev, mNotV_ev, mIf_ev, mNil_ev, mCons_ev, mTup_ev, mLst_ev, mCall_ev, mPn_ev, mPs_ev, asI_int, mSl_ev, mSlL_ev, asL_lst, asL_scr, asTp_tup, asSt_str, R_ite, mWalk_ev, mLe_ev, mNeg_ev, mSeq_ev, mSkip_ev, bind_rt, bind_rtL, bind_bk, bind_ct, bind_ex, bind_ite, lift_ok, lift_exc, lift_ite, mAsg_ev, mAsgL_ev, mDrop_ev, mRet_ev, mRetL_ev, mRetN_ev, mRetOwn_ev, getO_own, mIfS_ev, mSet1_ev, onO_own, onO_val, mAppend_ev, putO_own, mAsgG_ev, optSO_some, gSet_ev, gsNil_ev, gsCons_ev, obind_some, gTupM_1, gTupM_2, gTupM_3, gTupM_4, gTupM_5, gTupM_6, mFor_ev, retD_nx, retD_rt, retD_rtL, retD_ex, retD_ite, retLs_rtL, retLs_ex, retLs_ite, nth_zero, nth_succ, set_zero, set_succ, add_int, add_str, add_lst, lcat_lst, sub_int', neg_int', lt_int', le_int', gt_int', ge_int', mod_int', fdiv_int, mul_int', mul_str', isN_non, isN_int, notN_non, notN_int, eq_int', ne_int', eq_str', ne_str', eq_bl', ne_bl', len_str', len_lst, len_tup, len_scr, max_int, min_int, sl_str', sl_lst, sl_scr, lsl_lst, lsl_scr, ix_str', ix_lst, ix_tup', ix_scr, range1_ok, range2_ok, range3_ok, mMeth_ev, onStr_str, mComp_ev, mCh_ev, wipeE_nil, wipeE_cons, mYes_ev, int_int, int_bl, asW_lst, asW_tup, asW_scr, asW_str, lt_str', le_str', gt_str', ge_str', mRaise_ev, sum_ints, all_bls, any_bls, list_lst, list_tup, list_scr, sorted_ints', g_find_ev, g_find3_ev, g_find4_ev, g_rfind_ev, g_rfind4_ev, g_count_ev, g_count3_ev, g_count4_ev, g_startswith_ev, g_endswith_ev, Int.reduceToNat, List.getD_cons_zero, List.getD_cons_succ, List.length_map, List.length_reverse, Int.zero_mul, Int.mul_zero, Int.add_zero, Int.mul_one, nc0, nc1, nc2, nc3, nc4, nc5, nc6, nc7, nc8, nc9, nc10, nc11, nc12, nc13, List.cons_append, List.nil_append, decide_true, decide_false, not_false_eq_true, not_true_eq_false, mCallR_ev, retLE_rtL, retDE_rt, flatR_bl, flatR_int, flatR_str, flatR_non, flatR_exc, getOwn_own, mMut0_ev, mSetIx_ev, putIx_ok, rev_lst, lrep_ev, if_small, if_small', rngL_len, endS_nx, endS_rt, in_sign, notIn_sign, isN_str, notN_str, isN_tup, notN_tup, isi_int_int, isi_int_bool, isi_bl_bool, isi_bl_int, isi_str_str, isi_tup_tup, isi_lst_lst, isi_non_int, isi_non_tup, _root_.FL.R.ok_bind, _root_.FL.R.exc_bind, _root_.FL.R.stuck_bind, _root_.FL.R.pure_eq, List.append_nil, List.length_cons, List.length_nil, Nat.zero_add, Nat.reduceAdd, Nat.reduceLeDiff, Nat.reduceLT, decide_eq_true_eq, if_true, if_false, ite_true, ite_false, Bool.true_eq_false, Bool.false_eq_true, Bool.not_true, Bool.not_false, reduceIte, Bool.not_eq_true', decide_eq_false_iff_not]
  rw [bind_nx]
  by_cases hv : k ∈ verbS
  · have hv' : k ∈ ks_7958c9 := hv
    have ev : verbM k = [k] := if_pos hv
    have z1 : ¬ [k] = [] := List.cons_ne_nil _ _
    rw [ev]
    simp -implicitDefEqProofs (disch := first | omega | (simp only [List.length_map, List.length_append, List.length_cons, List.length_nil, List.length_take, List.length_drop, repS_len, rngL_len, List.length_range, List.length_reverse]; done) | (simp only [List.length_map, List.length_append, List.length_cons, List.length_nil, List.length_take, List.length_drop, repS_len, rngL_len, List.length_range, List.length_reverse]; omega)) only [mVar_ev, mVarR_ev, getV_val, getR_val, getR_own, mC_ev, mOp_ev, mOpL_ev, mT_ev, asB_bl, mAnd_ev, mOr_ev, mNot_ev, mAndV_ev, mOrV_ev, mNotV_ev, mIf_ev, mNil_ev, mCons_ev, mTup_ev, mLst_ev, mCall_ev, mPn_ev, mPs_ev, asI_int, mSl_ev, mSlL_ev, asL_lst, asL_scr, asTp_tup, asSt_str, R_ite, mWalk_ev, mLe_ev, mNeg_ev, mSeq_ev, mSkip_ev, bind_rt, bind_rtL, bind_bk, bind_ct, bind_ex, bind_ite, lift_ok, lift_exc, lift_ite, mAsg_ev, mAsgL_ev, mDrop_ev, mRet_ev, mRetL_ev, mRetN_ev, mRetOwn_ev, getO_own, mIfS_ev, mSet1_ev, onO_own, onO_val, mAppend_ev, putO_own, mAsgG_ev, optSO_some, gSet_ev, gsNil_ev, gsCons_ev, obind_some, gTupM_1, gTupM_2, gTupM_3, gTupM_4, gTupM_5, gTupM_6, mFor_ev, retD_nx, retD_rt, retD_rtL, retD_ex, retD_ite, retLs_rtL, retLs_ex, retLs_ite, nth_zero, nth_succ, set_zero, set_succ, add_int, add_str, add_lst, lcat_lst, sub_int', neg_int', lt_int', le_int', gt_int', ge_int', mod_int', fdiv_int, mul_int', mul_str', isN_non, isN_int, notN_non, notN_int, eq_int', ne_int', eq_str', ne_str', eq_bl', ne_bl', len_str', len_lst, len_tup, len_scr, max_int, min_int, sl_str', sl_lst, sl_scr, lsl_lst, lsl_scr, ix_str', ix_lst, ix_tup', ix_scr, range1_ok, range2_ok, range3_ok, mMeth_ev, onStr_str, mComp_ev, mCh_ev, wipeE_nil, wipeE_cons, mYes_ev, int_int, int_bl, asW_lst, asW_tup, asW_scr, asW_str, lt_str', le_str', gt_str', ge_str', mRaise_ev, sum_ints, all_bls, any_bls, list_lst, list_tup, list_scr, sorted_ints', g_find_ev, g_find3_ev, g_find4_ev, g_rfind_ev, g_rfind4_ev, g_count_ev, g_count3_ev, g_count4_ev, g_startswith_ev, g_endswith_ev, Int.reduceToNat, List.getD_cons_zero, List.getD_cons_succ, List.length_map, List.length_reverse, Int.zero_mul, Int.mul_zero, Int.add_zero, Int.mul_one, nc0, nc1, nc2, nc3, nc4, nc5, nc6, nc7, nc8, nc9, nc10, nc11, nc12, nc13, List.cons_append, List.nil_append, decide_true, decide_false, not_false_eq_true, not_true_eq_false, mCallR_ev, retLE_rtL, retDE_rt, flatR_bl, flatR_int, flatR_str, flatR_non, flatR_exc, getOwn_own, mMut0_ev, mSetIx_ev, putIx_ok, rev_lst, lrep_ev, if_small, if_small', rngL_len, endS_nx, endS_rt, in_sign, notIn_sign, isN_str, notN_str, isN_tup, notN_tup, isi_int_int, isi_int_bool, isi_bl_bool, isi_bl_int, isi_str_str, isi_tup_tup, isi_lst_lst, isi_non_int, isi_non_tup, _root_.FL.R.ok_bind, _root_.FL.R.exc_bind, _root_.FL.R.stuck_bind, _root_.FL.R.pure_eq, List.append_nil, List.length_cons, List.length_nil, Nat.zero_add, Nat.reduceAdd, Nat.reduceLeDiff, Nat.reduceLT, decide_eq_true_eq, if_true, if_false, ite_true, ite_false, Bool.true_eq_false, Bool.false_eq_true, Bool.not_true, Bool.not_false, reduceIte, Bool.not_eq_true', decide_eq_false_iff_not, Int.toNat_natCast, h2, hv']
    rw [bind_nx]
    by_cases hA : sh ≠ [] ∧ k ∉ [67, 89, 88, 80]
    · rw [if_pos ⟨hA.1, .inr hA.2⟩]
      simp -implicitDefEqProofs (disch := first | omega | (simp only [List.length_map, List.length_append, List.length_cons, List.length_nil, List.length_take, List.length_drop, repS_len, rngL_len, List.length_range, List.length_reverse]; done) | (simp only [List.length_map, List.length_append, List.length_cons, List.length_nil, List.length_take, List.length_drop, repS_len, rngL_len, List.length_range, List.length_reverse]; omega)) only [mVar_ev, mVarR_ev, getV_val, getR_val, getR_own, mC_ev, mOp_ev, mOpL_ev, mT_ev, asB_bl, mAnd_ev, mOr_ev, mNot_ev, mAndV_ev, mOrV_ev, mNotV_ev, mIf_ev, mNil_ev, mCons_ev, mTup_ev, mLst_ev, mCall_ev, mPn_ev, mPs_ev, asI_int, mSl_ev, mSlL_ev, asL_lst, asL_scr, asTp_tup, asSt_str, R_ite, mWalk_ev, mLe_ev, mNeg_ev, mSeq_ev, mSkip_ev, bind_nx, bind_rt, bind_rtL, bind_bk, bind_ct, bind_ex, bind_ite, lift_ok, lift_exc, lift_ite, mAsg_ev, mAsgL_ev, mDrop_ev, mRet_ev, mRetL_ev, mRetN_ev, mRetOwn_ev, getO_own, mIfS_ev, mSet1_ev, onO_own, onO_val, mAppend_ev, putO_own, mAsgG_ev, optSO_some, gSet_ev, gsNil_ev, gsCons_ev, obind_some, gTupM_1, gTupM_2, gTupM_3, gTupM_4, gTupM_5, gTupM_6, mFor_ev, retD_nx, retD_rt, retD_rtL, retD_ex, retD_ite, retLs_rtL, retLs_ex, retLs_ite, nth_zero, nth_succ, set_zero, set_succ, add_int, add_str, add_lst, lcat_lst, sub_int', neg_int', lt_int', le_int', gt_int', ge_int', mod_int', fdiv_int, mul_int', mul_str', isN_non, isN_int, notN_non, notN_int, eq_int', ne_int', eq_str', ne_str', eq_bl', ne_bl', len_str', len_lst, len_tup, len_scr, max_int, min_int, sl_str', sl_lst, sl_scr, lsl_lst, lsl_scr, ix_str', ix_lst, ix_tup', ix_scr, range1_ok, range2_ok, range3_ok, mMeth_ev, onStr_str, mComp_ev, mCh_ev, wipeE_nil, wipeE_cons, mYes_ev, int_int, int_bl, asW_lst, asW_tup, asW_scr, asW_str, lt_str', le_str', gt_str', ge_str', mRaise_ev, sum_ints, all_bls, any_bls, list_lst, list_tup, list_scr, sorted_ints', g_find_ev, g_find3_ev, g_find4_ev, g_rfind_ev, g_rfind4_ev, g_count_ev, g_count3_ev, g_count4_ev, g_startswith_ev, g_endswith_ev, Int.reduceToNat, List.getD_cons_zero, List.getD_cons_succ, List.length_map, List.length_reverse, Int.zero_mul, Int.mul_zero, Int.add_zero, Int.mul_one, nc0, nc1, nc2, nc3, nc4, nc5, nc6, nc7, nc8, nc9, nc10, nc11, nc12, nc13, List.cons_append, List.nil_append, decide_true, decide_false, not_false_eq_true, not_true_eq_false, mCallR_ev, retLE_rtL, retDE_rt, flatR_bl, flatR_int, flatR_str, flatR_non, flatR_exc, getOwn_own, mMut0_ev, mSetIx_ev, putIx_ok, rev_lst, lrep_ev, if_small, if_small', rngL_len, endS_nx, endS_rt, in_sign, notIn_sign, isN_str, notN_str, isN_tup, notN_tup, isi_int_int, isi_int_bool, isi_bl_bool, isi_bl_int, isi_str_str, isi_tup_tup, isi_lst_lst, isi_non_int, isi_non_tup, _root_.FL.R.ok_bind, _root_.FL.R.exc_bind, _root_.FL.R.stuck_bind, _root_.FL.R.pure_eq, List.append_nil, List.length_cons, List.length_nil, Nat.zero_add, Nat.reduceAdd, Nat.reduceLeDiff, Nat.reduceLT, decide_eq_true_eq, if_true, if_false, ite_true, ite_false, Bool.true_eq_false, Bool.false_eq_true, Bool.not_true, Bool.not_false, reduceIte, Bool.not_eq_true', decide_eq_false_iff_not, hA.1, hA.2, z1]
      rfl
    rw [if_neg (fun z => hA ⟨z.1, z.2.resolve_left z1⟩)]
    have st : (mAnd (mT (mOp D.ne (mVar 1) (mC (.str [])))) (mOr (mT (mOp D.eq (mVar 4) (mC (.str [])))) (mT (mOp D.notIn (mVar 4) (mC (.str [67, 89, 88, 80])))))) [.val (.str ks), .val (.str sh), .val (ctD ct), .val (.int at_), .val (.str [k]), .val (.tup [.str [116, 111, 108, 100], .str [], .int ((at_ : Int) + 1)]), .no] = .ok false := by
      by_cases y : sh = []
      · simp -implicitDefEqProofs (disch := first | omega | (simp only [List.length_map, List.length_append, List.length_cons, List.length_nil, List.length_take, List.length_drop, repS_len, rngL_len, List.length_range, List.length_reverse]; done) | (simp only [List.length_map, List.length_append, List.length_cons, List.length_nil, List.length_take, List.length_drop, repS_len, rngL_len, List.length_range, List.length_reverse]; omega)) only [mVar_ev, mVarR_ev, getV_val, getR_val, getR_own, mC_ev, mOp_ev, mOpL_ev, mT_ev, asB_bl, mAnd_ev, mOr_ev, mNot_ev, mAndV_ev, mOrV_ev, mNotV_ev, mIf_ev, mNil_ev, mCons_ev, mTup_ev, mLst_ev, mCall_ev, mPn_ev, mPs_ev, asI_int, mSl_ev, mSlL_ev, asL_lst, asL_scr, asTp_tup, asSt_str, R_ite, mWalk_ev, mLe_ev, mNeg_ev, mSeq_ev, mSkip_ev, bind_nx, bind_rt, bind_rtL, bind_bk, bind_ct, bind_ex, bind_ite, lift_ok, lift_exc, lift_ite, mAsg_ev, mAsgL_ev, mDrop_ev, mRet_ev, mRetL_ev, mRetN_ev, mRetOwn_ev, getO_own, mIfS_ev, mSet1_ev, onO_own, onO_val, mAppend_ev, putO_own, mAsgG_ev, optSO_some, gSet_ev, gsNil_ev, gsCons_ev, obind_some, gTupM_1, gTupM_2, gTupM_3, gTupM_4, gTupM_5, gTupM_6, mFor_ev, retD_nx, retD_rt, retD_rtL, retD_ex, retD_ite, retLs_rtL, retLs_ex, retLs_ite, nth_zero, nth_succ, set_zero, set_succ, add_int, add_str, add_lst, lcat_lst, sub_int', neg_int', lt_int', le_int', gt_int', ge_int', mod_int', fdiv_int, mul_int', mul_str', isN_non, isN_int, notN_non, notN_int, eq_int', ne_int', eq_str', ne_str', eq_bl', ne_bl', len_str', len_lst, len_tup, len_scr, max_int, min_int, sl_str', sl_lst, sl_scr, lsl_lst, lsl_scr, ix_str', ix_lst, ix_tup', ix_scr, range1_ok, range2_ok, range3_ok, mMeth_ev, onStr_str, mComp_ev, mCh_ev, wipeE_nil, wipeE_cons, mYes_ev, int_int, int_bl, asW_lst, asW_tup, asW_scr, asW_str, lt_str', le_str', gt_str', ge_str', mRaise_ev, sum_ints, all_bls, any_bls, list_lst, list_tup, list_scr, sorted_ints', g_find_ev, g_find3_ev, g_find4_ev, g_rfind_ev, g_rfind4_ev, g_count_ev, g_count3_ev, g_count4_ev, g_startswith_ev, g_endswith_ev, Int.reduceToNat, List.getD_cons_zero, List.getD_cons_succ, List.length_map, List.length_reverse, Int.zero_mul, Int.mul_zero, Int.add_zero, Int.mul_one, nc0, nc1, nc2, nc3, nc4, nc5, nc6, nc7, nc8, nc9, nc10, nc11, nc12, nc13, List.cons_append, List.nil_append, decide_true, decide_false, not_false_eq_true, not_true_eq_false, mCallR_ev, retLE_rtL, retDE_rt, flatR_bl, flatR_int, flatR_str, flatR_non, flatR_exc, getOwn_own, mMut0_ev, mSetIx_ev, putIx_ok, rev_lst, lrep_ev, if_small, if_small', rngL_len, endS_nx, endS_rt, in_sign, notIn_sign, isN_str, notN_str, isN_tup, notN_tup, isi_int_int, isi_int_bool, isi_bl_bool, isi_bl_int, isi_str_str, isi_tup_tup, isi_lst_lst, isi_non_int, isi_non_tup, _root_.FL.R.ok_bind, _root_.FL.R.exc_bind, _root_.FL.R.stuck_bind, _root_.FL.R.pure_eq, List.append_nil, List.length_cons, List.length_nil, Nat.zero_add, Nat.reduceAdd, Nat.reduceLeDiff, Nat.reduceLT, decide_eq_true_eq, if_true, if_false, ite_true, ite_false, Bool.true_eq_false, Bool.false_eq_true, Bool.not_true, Bool.not_false, reduceIte, Bool.not_eq_true', decide_eq_false_iff_not, y]
      · have y2 : k ∈ [67, 89, 88, 80] := Classical.not_not.mp fun z => hA ⟨y, z⟩
        simp -implicitDefEqProofs (disch := first | omega | (simp only [List.length_map, List.length_append, List.length_cons, List.length_nil, List.length_take, List.length_drop, repS_len, rngL_len, List.length_range, List.length_reverse]; done) | (simp only [List.length_map, List.length_append, List.length_cons, List.length_nil, List.length_take, List.length_drop, repS_len, rngL_len, List.length_range, List.length_reverse]; omega)) only [mVar_ev, mVarR_ev, getV_val, getR_val, getR_own, mC_ev, mOp_ev, mOpL_ev, mT_ev, asB_bl, mAnd_ev, mOr_ev, mNot_ev, mAndV_ev, mOrV_ev, mNotV_ev, mIf_ev, mNil_ev, mCons_ev, mTup_ev, mLst_ev, mCall_ev, mPn_ev, mPs_ev, asI_int, mSl_ev, mSlL_ev, asL_lst, asL_scr, asTp_tup, asSt_str, R_ite, mWalk_ev, mLe_ev, mNeg_ev, mSeq_ev, mSkip_ev, bind_nx, bind_rt, bind_rtL, bind_bk, bind_ct, bind_ex, bind_ite, lift_ok, lift_exc, lift_ite, mAsg_ev, mAsgL_ev, mDrop_ev, mRet_ev, mRetL_ev, mRetN_ev, mRetOwn_ev, getO_own, mIfS_ev, mSet1_ev, onO_own, onO_val, mAppend_ev, putO_own, mAsgG_ev, optSO_some, gSet_ev, gsNil_ev, gsCons_ev, obind_some, gTupM_1, gTupM_2, gTupM_3, gTupM_4, gTupM_5, gTupM_6, mFor_ev, retD_nx, retD_rt, retD_rtL, retD_ex, retD_ite, retLs_rtL, retLs_ex, retLs_ite, nth_zero, nth_succ, set_zero, set_succ, add_int, add_str, add_lst, lcat_lst, sub_int', neg_int', lt_int', le_int', gt_int', ge_int', mod_int', fdiv_int, mul_int', mul_str', isN_non, isN_int, notN_non, notN_int, eq_int', ne_int', eq_str', ne_str', eq_bl', ne_bl', len_str', len_lst, len_tup, len_scr, max_int, min_int, sl_str', sl_lst, sl_scr, lsl_lst, lsl_scr, ix_str', ix_lst, ix_tup', ix_scr, range1_ok, range2_ok, range3_ok, mMeth_ev, onStr_str, mComp_ev, mCh_ev, wipeE_nil, wipeE_cons, mYes_ev, int_int, int_bl, asW_lst, asW_tup, asW_scr, asW_str, lt_str', le_str', gt_str', ge_str', mRaise_ev, sum_ints, all_bls, any_bls, list_lst, list_tup, list_scr, sorted_ints', g_find_ev, g_find3_ev, g_find4_ev, g_rfind_ev, g_rfind4_ev, g_count_ev, g_count3_ev, g_count4_ev, g_startswith_ev, g_endswith_ev, Int.reduceToNat, List.getD_cons_zero, List.getD_cons_succ, List.length_map, List.length_reverse, Int.zero_mul, Int.mul_zero, Int.add_zero, Int.mul_one, nc0, nc1, nc2, nc3, nc4, nc5, nc6, nc7, nc8, nc9, nc10, nc11, nc12, nc13, List.cons_append, List.nil_append, decide_true, decide_false, not_false_eq_true, not_true_eq_false, mCallR_ev, retLE_rtL, retDE_rt, flatR_bl, flatR_int, flatR_str, flatR_non, flatR_exc, getOwn_own, mMut0_ev, mSetIx_ev, putIx_ok, rev_lst, lrep_ev, if_small, if_small', rngL_len, endS_nx, endS_rt, in_sign, notIn_sign, isN_str, notN_str, isN_tup, notN_tup, isi_int_int, isi_int_bool, isi_bl_bool, isi_bl_int, isi_str_str, isi_tup_tup, isi_lst_lst, isi_non_int, isi_non_tup, _root_.FL.R.ok_bind, _root_.FL.R.exc_bind, _root_.FL.R.stuck_bind, _root_.FL.R.pure_eq, List.append_nil, List.length_cons, List.length_nil, Nat.zero_add, Nat.reduceAdd, Nat.reduceLeDiff, Nat.reduceLT, decide_eq_true_eq, if_true, if_false, ite_true, ite_false, Bool.true_eq_false, Bool.false_eq_true, Bool.not_true, Bool.not_false, reduceIte, Bool.not_eq_true', decide_eq_false_iff_not, y, y2, z1]
    rw [mSeq_ev, mIfS_ev, st]
    simp -implicitDefEqProofs (disch := first | omega | (simp only [List.length_map, List.length_append, List.length_cons, List.length_nil, List.length_take, List.length_drop, repS_len, rngL_len, List.length_range, List.length_reverse]; done) | (simp only [List.length_map, List.length_append, List.length_cons, List.length_nil, List.length_take, List.length_drop, repS_len, rngL_len, List.length_range, List.length_reverse]; omega)) only [mVar_ev, mVarR_ev, getV_val, getR_val, getR_own, mC_ev, mOp_ev, mOpL_ev, mT_ev, asB_bl, mAnd_ev, mOr_ev, mNot_ev, mAndV_ev, mOrV_ev, mNotV_ev, mIf_ev, mNil_ev, mCons_ev, mTup_ev, mLst_ev, mCall_ev, mPn_ev, mPs_ev, asI_int, mSl_ev, mSlL_ev, asL_lst, asL_scr, asTp_tup, asSt_str, R_ite, mWalk_ev, mLe_ev, mNeg_ev, mSeq_ev, mSkip_ev, bind_rt, bind_rtL, bind_bk, bind_ct, bind_ex, bind_ite, lift_ok, lift_exc, lift_ite, mAsg_ev, mAsgL_ev, mDrop_ev, mRet_ev, mRetL_ev, mRetN_ev, mRetOwn_ev, getO_own, mIfS_ev, mSet1_ev, onO_own, onO_val, mAppend_ev, putO_own, mAsgG_ev, optSO_some, gSet_ev, gsNil_ev, gsCons_ev, obind_some, gTupM_1, gTupM_2, gTupM_3, gTupM_4, gTupM_5, gTupM_6, mFor_ev, retD_nx, retD_rt, retD_rtL, retD_ex, retD_ite, retLs_rtL, retLs_ex, retLs_ite, nth_zero, nth_succ, set_zero, set_succ, add_int, add_str, add_lst, lcat_lst, sub_int', neg_int', lt_int', le_int', gt_int', ge_int', mod_int', fdiv_int, mul_int', mul_str', isN_non, isN_int, notN_non, notN_int, eq_int', ne_int', eq_str', ne_str', eq_bl', ne_bl', len_str', len_lst, len_tup, len_scr, max_int, min_int, sl_str', sl_lst, sl_scr, lsl_lst, lsl_scr, ix_str', ix_lst, ix_tup', ix_scr, range1_ok, range2_ok, range3_ok, mMeth_ev, onStr_str, mComp_ev, mCh_ev, wipeE_nil, wipeE_cons, mYes_ev, int_int, int_bl, asW_lst, asW_tup, asW_scr, asW_str, lt_str', le_str', gt_str', ge_str', mRaise_ev, sum_ints, all_bls, any_bls, list_lst, list_tup, list_scr, sorted_ints', g_find_ev, g_find3_ev, g_find4_ev, g_rfind_ev, g_rfind4_ev, g_count_ev, g_count3_ev, g_count4_ev, g_startswith_ev, g_endswith_ev, Int.reduceToNat, List.getD_cons_zero, List.getD_cons_succ, List.length_map, List.length_reverse, Int.zero_mul, Int.mul_zero, Int.add_zero, Int.mul_one, nc0, nc1, nc2, nc3, nc4, nc5, nc6, nc7, nc8, nc9, nc10, nc11, nc12, nc13, List.cons_append, List.nil_append, decide_true, decide_false, not_false_eq_true, not_true_eq_false, mCallR_ev, retLE_rtL, retDE_rt, flatR_bl, flatR_int, flatR_str, flatR_non, flatR_exc, getOwn_own, mMut0_ev, mSetIx_ev, putIx_ok, rev_lst, lrep_ev, if_small, if_small', rngL_len, endS_nx, endS_rt, in_sign, notIn_sign, isN_str, notN_str, isN_tup, notN_tup, isi_int_int, isi_int_bool, isi_bl_bool, isi_bl_int, isi_str_str, isi_tup_tup, isi_lst_lst, isi_non_int, isi_non_tup, _root_.FL.R.ok_bind, _root_.FL.R.exc_bind, _root_.FL.R.stuck_bind, _root_.FL.R.pure_eq, List.append_nil, List.length_cons, List.length_nil, Nat.zero_add, Nat.reduceAdd, Nat.reduceLeDiff, Nat.reduceLT, decide_eq_true_eq, if_true, if_false, ite_true, ite_false, Bool.true_eq_false, Bool.false_eq_true, Bool.not_true, Bool.not_false, reduceIte, Bool.not_eq_true', decide_eq_false_iff_not]
    rw [bind_nx]
    by_cases hB : ct ≠ [] ∧ k ∈ [77, 75, 86, 58]
    · rw [if_pos ⟨hB.1, z1, hB.2⟩]
      simp -implicitDefEqProofs (disch := first | omega | (simp only [List.length_map, List.length_append, List.length_cons, List.length_nil, List.length_take, List.length_drop, repS_len, rngL_len, List.length_range, List.length_reverse]; done) | (simp only [List.length_map, List.length_append, List.length_cons, List.length_nil, List.length_take, List.length_drop, repS_len, rngL_len, List.length_range, List.length_reverse]; omega)) only [mVar_ev, mVarR_ev, getV_val, getR_val, getR_own, mC_ev, mOp_ev, mOpL_ev, mT_ev, asB_bl, mAnd_ev, mOr_ev, mNot_ev, mAndV_ev, mOrV_ev, mNotV_ev, mIf_ev, mNil_ev, mCons_ev, mTup_ev, mLst_ev, mCall_ev, mPn_ev, mPs_ev, asI_int, mSl_ev, mSlL_ev, asL_lst, asL_scr, asTp_tup, asSt_str, R_ite, mWalk_ev, mLe_ev, mNeg_ev, mSeq_ev, mSkip_ev, bind_nx, bind_rt, bind_rtL, bind_bk, bind_ct, bind_ex, bind_ite, lift_ok, lift_exc, lift_ite, mAsg_ev, mAsgL_ev, mDrop_ev, mRet_ev, mRetL_ev, mRetN_ev, mRetOwn_ev, getO_own, mIfS_ev, mSet1_ev, onO_own, onO_val, mAppend_ev, putO_own, mAsgG_ev, optSO_some, gSet_ev, gsNil_ev, gsCons_ev, obind_some, gTupM_1, gTupM_2, gTupM_3, gTupM_4, gTupM_5, gTupM_6, mFor_ev, retD_nx, retD_rt, retD_rtL, retD_ex, retD_ite, retLs_rtL, retLs_ex, retLs_ite, nth_zero, nth_succ, set_zero, set_succ, add_int, add_str, add_lst, lcat_lst, sub_int', neg_int', lt_int', le_int', gt_int', ge_int', mod_int', fdiv_int, mul_int', mul_str', isN_non, isN_int, notN_non, notN_int, eq_int', ne_int', eq_str', ne_str', eq_bl', ne_bl', len_str', len_lst, len_tup, len_scr, max_int, min_int, sl_str', sl_lst, sl_scr, lsl_lst, lsl_scr, ix_str', ix_lst, ix_tup', ix_scr, range1_ok, range2_ok, range3_ok, mMeth_ev, onStr_str, mComp_ev, mCh_ev, wipeE_nil, wipeE_cons, mYes_ev, int_int, int_bl, asW_lst, asW_tup, asW_scr, asW_str, lt_str', le_str', gt_str', ge_str', mRaise_ev, sum_ints, all_bls, any_bls, list_lst, list_tup, list_scr, sorted_ints', g_find_ev, g_find3_ev, g_find4_ev, g_rfind_ev, g_rfind4_ev, g_count_ev, g_count3_ev, g_count4_ev, g_startswith_ev, g_endswith_ev, Int.reduceToNat, List.getD_cons_zero, List.getD_cons_succ, List.length_map, List.length_reverse, Int.zero_mul, Int.mul_zero, Int.add_zero, Int.mul_one, nc0, nc1, nc2, nc3, nc4, nc5, nc6, nc7, nc8, nc9, nc10, nc11, nc12, nc13, List.cons_append, List.nil_append, decide_true, decide_false, not_false_eq_true, not_true_eq_false, mCallR_ev, retLE_rtL, retDE_rt, flatR_bl, flatR_int, flatR_str, flatR_non, flatR_exc, getOwn_own, mMut0_ev, mSetIx_ev, putIx_ok, rev_lst, lrep_ev, if_small, if_small', rngL_len, endS_nx, endS_rt, in_sign, notIn_sign, isN_str, notN_str, isN_tup, notN_tup, isi_int_int, isi_int_bool, isi_bl_bool, isi_bl_int, isi_str_str, isi_tup_tup, isi_lst_lst, isi_non_int, isi_non_tup, _root_.FL.R.ok_bind, _root_.FL.R.exc_bind, _root_.FL.R.stuck_bind, _root_.FL.R.pure_eq, List.append_nil, List.length_cons, List.length_nil, Nat.zero_add, Nat.reduceAdd, Nat.reduceLeDiff, Nat.reduceLT, decide_eq_true_eq, if_true, if_false, ite_true, ite_false, Bool.true_eq_false, Bool.false_eq_true, Bool.not_true, Bool.not_false, reduceIte, Bool.not_eq_true', decide_eq_false_iff_not, cN hB.1, hB.2, z1]
      rfl
    rw [if_neg (fun z => hB ⟨z.1, z.2.2⟩)]
    have st : (mAnd (mT (mOp D.notN (mVar 2) (mC .non))) (mAnd (mT (mOp D.ne (mVar 4) (mC (.str [])))) (mT (mOp D.in_ (mVar 4) (mC (.str [77, 75, 86, 58])))))) [.val (.str ks), .val (.str sh), .val (ctD ct), .val (.int at_), .val (.str [k]), .val (.tup [.str [116, 111, 108, 100], .str [], .int ((at_ : Int) + 1)]), .no] = .ok false := by
      by_cases y : ct = []
      · simp -implicitDefEqProofs (disch := first | omega | (simp only [List.length_map, List.length_append, List.length_cons, List.length_nil, List.length_take, List.length_drop, repS_len, rngL_len, List.length_range, List.length_reverse]; done) | (simp only [List.length_map, List.length_append, List.length_cons, List.length_nil, List.length_take, List.length_drop, repS_len, rngL_len, List.length_range, List.length_reverse]; omega)) only [mVar_ev, mVarR_ev, getV_val, getR_val, getR_own, mC_ev, mOp_ev, mOpL_ev, mT_ev, asB_bl, mAnd_ev, mOr_ev, mNot_ev, mAndV_ev, mOrV_ev, mNotV_ev, mIf_ev, mNil_ev, mCons_ev, mTup_ev, mLst_ev, mCall_ev, mPn_ev, mPs_ev, asI_int, mSl_ev, mSlL_ev, asL_lst, asL_scr, asTp_tup, asSt_str, R_ite, mWalk_ev, mLe_ev, mNeg_ev, mSeq_ev, mSkip_ev, bind_nx, bind_rt, bind_rtL, bind_bk, bind_ct, bind_ex, bind_ite, lift_ok, lift_exc, lift_ite, mAsg_ev, mAsgL_ev, mDrop_ev, mRet_ev, mRetL_ev, mRetN_ev, mRetOwn_ev, getO_own, mIfS_ev, mSet1_ev, onO_own, onO_val, mAppend_ev, putO_own, mAsgG_ev, optSO_some, gSet_ev, gsNil_ev, gsCons_ev, obind_some, gTupM_1, gTupM_2, gTupM_3, gTupM_4, gTupM_5, gTupM_6, mFor_ev, retD_nx, retD_rt, retD_rtL, retD_ex, retD_ite, retLs_rtL, retLs_ex, retLs_ite, nth_zero, nth_succ, set_zero, set_succ, add_int, add_str, add_lst, lcat_lst, sub_int', neg_int', lt_int', le_int', gt_int', ge_int', mod_int', fdiv_int, mul_int', mul_str', isN_non, isN_int, notN_non, notN_int, eq_int', ne_int', eq_str', ne_str', eq_bl', ne_bl', len_str', len_lst, len_tup, len_scr, max_int, min_int, sl_str', sl_lst, sl_scr, lsl_lst, lsl_scr, ix_str', ix_lst, ix_tup', ix_scr, range1_ok, range2_ok, range3_ok, mMeth_ev, onStr_str, mComp_ev, mCh_ev, wipeE_nil, wipeE_cons, mYes_ev, int_int, int_bl, asW_lst, asW_tup, asW_scr, asW_str, lt_str', le_str', gt_str', ge_str', mRaise_ev, sum_ints, all_bls, any_bls, list_lst, list_tup, list_scr, sorted_ints', g_find_ev, g_find3_ev, g_find4_ev, g_rfind_ev, g_rfind4_ev, g_count_ev, g_count3_ev, g_count4_ev, g_startswith_ev, g_endswith_ev, Int.reduceToNat, List.getD_cons_zero, List.getD_cons_succ, List.length_map, List.length_reverse, Int.zero_mul, Int.mul_zero, Int.add_zero, Int.mul_one, nc0, nc1, nc2, nc3, nc4, nc5, nc6, nc7, nc8, nc9, nc10, nc11, nc12, nc13, List.cons_append, List.nil_append, decide_true, decide_false, not_false_eq_true, not_true_eq_false, mCallR_ev, retLE_rtL, retDE_rt, flatR_bl, flatR_int, flatR_str, flatR_non, flatR_exc, getOwn_own, mMut0_ev, mSetIx_ev, putIx_ok, rev_lst, lrep_ev, if_small, if_small', rngL_len, endS_nx, endS_rt, in_sign, notIn_sign, isN_str, notN_str, isN_tup, notN_tup, isi_int_int, isi_int_bool, isi_bl_bool, isi_bl_int, isi_str_str, isi_tup_tup, isi_lst_lst, isi_non_int, isi_non_tup, _root_.FL.R.ok_bind, _root_.FL.R.exc_bind, _root_.FL.R.stuck_bind, _root_.FL.R.pure_eq, List.append_nil, List.length_cons, List.length_nil, Nat.zero_add, Nat.reduceAdd, Nat.reduceLeDiff, Nat.reduceLT, decide_eq_true_eq, if_true, if_false, ite_true, ite_false, Bool.true_eq_false, Bool.false_eq_true, Bool.not_true, Bool.not_false, reduceIte, Bool.not_eq_true', decide_eq_false_iff_not, cN0 y]
      · have y2 : ¬ k ∈ [77, 75, 86, 58] := fun z => hB ⟨y, z⟩
        simp -implicitDefEqProofs (disch := first | omega | (simp only [List.length_map, List.length_append, List.length_cons, List.length_nil, List.length_take, List.length_drop, repS_len, rngL_len, List.length_range, List.length_reverse]; done) | (simp only [List.length_map, List.length_append, List.length_cons, List.length_nil, List.length_take, List.length_drop, repS_len, rngL_len, List.length_range, List.length_reverse]; omega)) only [mVar_ev, mVarR_ev, getV_val, getR_val, getR_own, mC_ev, mOp_ev, mOpL_ev, mT_ev, asB_bl, mAnd_ev, mOr_ev, mNot_ev, mAndV_ev, mOrV_ev, mNotV_ev, mIf_ev, mNil_ev, mCons_ev, mTup_ev, mLst_ev, mCall_ev, mPn_ev, mPs_ev, asI_int, mSl_ev, mSlL_ev, asL_lst, asL_scr, asTp_tup, asSt_str, R_ite, mWalk_ev, mLe_ev, mNeg_ev, mSeq_ev, mSkip_ev, bind_nx, bind_rt, bind_rtL, bind_bk, bind_ct, bind_ex, bind_ite, lift_ok, lift_exc, lift_ite, mAsg_ev, mAsgL_ev, mDrop_ev, mRet_ev, mRetL_ev, mRetN_ev, mRetOwn_ev, getO_own, mIfS_ev, mSet1_ev, onO_own, onO_val, mAppend_ev, putO_own, mAsgG_ev, optSO_some, gSet_ev, gsNil_ev, gsCons_ev, obind_some, gTupM_1, gTupM_2, gTupM_3, gTupM_4, gTupM_5, gTupM_6, mFor_ev, retD_nx, retD_rt, retD_rtL, retD_ex, retD_ite, retLs_rtL, retLs_ex, retLs_ite, nth_zero, nth_succ, set_zero, set_succ, add_int, add_str, add_lst, lcat_lst, sub_int', neg_int', lt_int', le_int', gt_int', ge_int', mod_int', fdiv_int, mul_int', mul_str', isN_non, isN_int, notN_non, notN_int, eq_int', ne_int', eq_str', ne_str', eq_bl', ne_bl', len_str', len_lst, len_tup, len_scr, max_int, min_int, sl_str', sl_lst, sl_scr, lsl_lst, lsl_scr, ix_str', ix_lst, ix_tup', ix_scr, range1_ok, range2_ok, range3_ok, mMeth_ev, onStr_str, mComp_ev, mCh_ev, wipeE_nil, wipeE_cons, mYes_ev, int_int, int_bl, asW_lst, asW_tup, asW_scr, asW_str, lt_str', le_str', gt_str', ge_str', mRaise_ev, sum_ints, all_bls, any_bls, list_lst, list_tup, list_scr, sorted_ints', g_find_ev, g_find3_ev, g_find4_ev, g_rfind_ev, g_rfind4_ev, g_count_ev, g_count3_ev, g_count4_ev, g_startswith_ev, g_endswith_ev, Int.reduceToNat, List.getD_cons_zero, List.getD_cons_succ, List.length_map, List.length_reverse, Int.zero_mul, Int.mul_zero, Int.add_zero, Int.mul_one, nc0, nc1, nc2, nc3, nc4, nc5, nc6, nc7, nc8, nc9, nc10, nc11, nc12, nc13, List.cons_append, List.nil_append, decide_true, decide_false, not_false_eq_true, not_true_eq_false, mCallR_ev, retLE_rtL, retDE_rt, flatR_bl, flatR_int, flatR_str, flatR_non, flatR_exc, getOwn_own, mMut0_ev, mSetIx_ev, putIx_ok, rev_lst, lrep_ev, if_small, if_small', rngL_len, endS_nx, endS_rt, in_sign, notIn_sign, isN_str, notN_str, isN_tup, notN_tup, isi_int_int, isi_int_bool, isi_bl_bool, isi_bl_int, isi_str_str, isi_tup_tup, isi_lst_lst, isi_non_int, isi_non_tup, _root_.FL.R.ok_bind, _root_.FL.R.exc_bind, _root_.FL.R.stuck_bind, _root_.FL.R.pure_eq, List.append_nil, List.length_cons, List.length_nil, Nat.zero_add, Nat.reduceAdd, Nat.reduceLeDiff, Nat.reduceLT, decide_eq_true_eq, if_true, if_false, ite_true, ite_false, Bool.true_eq_false, Bool.false_eq_true, Bool.not_true, Bool.not_false, reduceIte, Bool.not_eq_true', decide_eq_false_iff_not, cN y, y2, z1]
    rw [mSeq_ev, mIfS_ev, st]
    simp -implicitDefEqProofs (disch := first | omega | (simp only [List.length_map, List.length_append, List.length_cons, List.length_nil, List.length_take, List.length_drop, repS_len, rngL_len, List.length_range, List.length_reverse]; done) | (simp only [List.length_map, List.length_append, List.length_cons, List.length_nil, List.length_take, List.length_drop, repS_len, rngL_len, List.length_range, List.length_reverse]; omega)) only [mVar_ev, mVarR_ev, getV_val, getR_val, getR_own, mC_ev, mOp_ev, mOpL_ev, mT_ev, asB_bl, mAnd_ev, mOr_ev, mNot_ev, mAndV_ev, mOrV_ev, mNotV_ev, mIf_ev, mNil_ev, mCons_ev, mTup_ev, mLst_ev, mCall_ev, mPn_ev, mPs_ev, asI_int, mSl_ev, mSlL_ev, asL_lst, asL_scr, asTp_tup, asSt_str, R_ite, mWalk_ev, mLe_ev, mNeg_ev, mSeq_ev, mSkip_ev, bind_rt, bind_rtL, bind_bk, bind_ct, bind_ex, bind_ite, lift_ok, lift_exc, lift_ite, mAsg_ev, mAsgL_ev, mDrop_ev, mRet_ev, mRetL_ev, mRetN_ev, mRetOwn_ev, getO_own, mIfS_ev, mSet1_ev, onO_own, onO_val, mAppend_ev, putO_own, mAsgG_ev, optSO_some, gSet_ev, gsNil_ev, gsCons_ev, obind_some, gTupM_1, gTupM_2, gTupM_3, gTupM_4, gTupM_5, gTupM_6, mFor_ev, retD_nx, retD_rt, retD_rtL, retD_ex, retD_ite, retLs_rtL, retLs_ex, retLs_ite, nth_zero, nth_succ, set_zero, set_succ, add_int, add_str, add_lst, lcat_lst, sub_int', neg_int', lt_int', le_int', gt_int', ge_int', mod_int', fdiv_int, mul_int', mul_str', isN_non, isN_int, notN_non, notN_int, eq_int', ne_int', eq_str', ne_str', eq_bl', ne_bl', len_str', len_lst, len_tup, len_scr, max_int, min_int, sl_str', sl_lst, sl_scr, lsl_lst, lsl_scr, ix_str', ix_lst, ix_tup', ix_scr, range1_ok, range2_ok, range3_ok, mMeth_ev, onStr_str, mComp_ev, mCh_ev, wipeE_nil, wipeE_cons, mYes_ev, int_int, int_bl, asW_lst, asW_tup, asW_scr, asW_str, lt_str', le_str', gt_str', ge_str', mRaise_ev, sum_ints, all_bls, any_bls, list_lst, list_tup, list_scr, sorted_ints', g_find_ev, g_find3_ev, g_find4_ev, g_rfind_ev, g_rfind4_ev, g_count_ev, g_count3_ev, g_count4_ev, g_startswith_ev, g_endswith_ev, Int.reduceToNat, List.getD_cons_zero, List.getD_cons_succ, List.length_map, List.length_reverse, Int.zero_mul, Int.mul_zero, Int.add_zero, Int.mul_one, nc0, nc1, nc2, nc3, nc4, nc5, nc6, nc7, nc8, nc9, nc10, nc11, nc12, nc13, List.cons_append, List.nil_append, decide_true, decide_false, not_false_eq_true, not_true_eq_false, mCallR_ev, retLE_rtL, retDE_rt, flatR_bl, flatR_int, flatR_str, flatR_non, flatR_exc, getOwn_own, mMut0_ev, mSetIx_ev, putIx_ok, rev_lst, lrep_ev, if_small, if_small', rngL_len, endS_nx, endS_rt, in_sign, notIn_sign, isN_str, notN_str, isN_tup, notN_tup, isi_int_int, isi_int_bool, isi_bl_bool, isi_bl_int, isi_str_str, isi_tup_tup, isi_lst_lst, isi_non_int, isi_non_tup, _root_.FL.R.ok_bind, _root_.FL.R.exc_bind, _root_.FL.R.stuck_bind, _root_.FL.R.pure_eq, List.append_nil, List.length_cons, List.length_nil, Nat.zero_add, Nat.reduceAdd, Nat.reduceLeDiff, Nat.reduceLT, decide_eq_true_eq, if_true, if_false, ite_true, ite_false, Bool.true_eq_false, Bool.false_eq_true, Bool.not_true, Bool.not_false, reduceIte, Bool.not_eq_true', decide_eq_false_iff_not]
    rw [bind_nx]
    by_cases hT : k ∈ [67, 89, 88, 71, 83, 68, 70, 74]
    · have et : tgtM [k] (ks.drop at_) = (targetM true (ks.drop (at_ + 1))).sh 1 := by
        unfold tgtM
        rw [if_neg z1, if_pos (show [k].getD 0 0 ∈ [67, 89, 88, 71, 83, 68, 70, 74] from hT), tl1]
      have e1 := e_target ks (at_ + 1) true hl (by omega)
      rw [tD_sh] at e1
      have e1' : p_target_of [.str ks, .int ((at_ : Int) + 1), .bl true] = .ok (tD .str at_ ((targetM true (ks.drop (at_ + 1))).sh 1)) := e1
      rw [et]
      simp -implicitDefEqProofs (disch := first | omega | (simp only [List.length_map, List.length_append, List.length_cons, List.length_nil, List.length_take, List.length_drop, repS_len, rngL_len, List.length_range, List.length_reverse]; done) | (simp only [List.length_map, List.length_append, List.length_cons, List.length_nil, List.length_take, List.length_drop, repS_len, rngL_len, List.length_range, List.length_reverse]; omega)) only [mVar_ev, mVarR_ev, getV_val, getR_val, getR_own, mC_ev, mOp_ev, mOpL_ev, mT_ev, asB_bl, mAnd_ev, mOr_ev, mNot_ev, mAndV_ev, mOrV_ev, mNotV_ev, mIf_ev, mNil_ev, mCons_ev, mTup_ev, mLst_ev, mCall_ev, mPn_ev, mPs_ev, asI_int, mSl_ev, mSlL_ev, asL_lst, asL_scr, asTp_tup, asSt_str, R_ite, mWalk_ev, mLe_ev, mNeg_ev, mSeq_ev, mSkip_ev, bind_rt, bind_rtL, bind_bk, bind_ct, bind_ex, bind_ite, lift_ok, lift_exc, lift_ite, mAsg_ev, mAsgL_ev, mDrop_ev, mRet_ev, mRetL_ev, mRetN_ev, mRetOwn_ev, getO_own, mIfS_ev, mSet1_ev, onO_own, onO_val, mAppend_ev, putO_own, mAsgG_ev, optSO_some, gSet_ev, gsNil_ev, gsCons_ev, obind_some, gTupM_1, gTupM_2, gTupM_3, gTupM_4, gTupM_5, gTupM_6, mFor_ev, retD_nx, retD_rt, retD_rtL, retD_ex, retD_ite, retLs_rtL, retLs_ex, retLs_ite, nth_zero, nth_succ, set_zero, set_succ, add_int, add_str, add_lst, lcat_lst, sub_int', neg_int', lt_int', le_int', gt_int', ge_int', mod_int', fdiv_int, mul_int', mul_str', isN_non, isN_int, notN_non, notN_int, eq_int', ne_int', eq_str', ne_str', eq_bl', ne_bl', len_str', len_lst, len_tup, len_scr, max_int, min_int, sl_str', sl_lst, sl_scr, lsl_lst, lsl_scr, ix_str', ix_lst, ix_tup', ix_scr, range1_ok, range2_ok, range3_ok, mMeth_ev, onStr_str, mComp_ev, mCh_ev, wipeE_nil, wipeE_cons, mYes_ev, int_int, int_bl, asW_lst, asW_tup, asW_scr, asW_str, lt_str', le_str', gt_str', ge_str', mRaise_ev, sum_ints, all_bls, any_bls, list_lst, list_tup, list_scr, sorted_ints', g_find_ev, g_find3_ev, g_find4_ev, g_rfind_ev, g_rfind4_ev, g_count_ev, g_count3_ev, g_count4_ev, g_startswith_ev, g_endswith_ev, Int.reduceToNat, List.getD_cons_zero, List.getD_cons_succ, List.length_map, List.length_reverse, Int.zero_mul, Int.mul_zero, Int.add_zero, Int.mul_one, nc0, nc1, nc2, nc3, nc4, nc5, nc6, nc7, nc8, nc9, nc10, nc11, nc12, nc13, List.cons_append, List.nil_append, decide_true, decide_false, not_false_eq_true, not_true_eq_false, mCallR_ev, retLE_rtL, retDE_rt, flatR_bl, flatR_int, flatR_str, flatR_non, flatR_exc, getOwn_own, mMut0_ev, mSetIx_ev, putIx_ok, rev_lst, lrep_ev, if_small, if_small', rngL_len, endS_nx, endS_rt, in_sign, notIn_sign, isN_str, notN_str, isN_tup, notN_tup, isi_int_int, isi_int_bool, isi_bl_bool, isi_bl_int, isi_str_str, isi_tup_tup, isi_lst_lst, isi_non_int, isi_non_tup, _root_.FL.R.ok_bind, _root_.FL.R.exc_bind, _root_.FL.R.stuck_bind, _root_.FL.R.pure_eq, List.append_nil, List.length_cons, List.length_nil, Nat.zero_add, Nat.reduceAdd, Nat.reduceLeDiff, Nat.reduceLT, decide_eq_true_eq, if_true, if_false, ite_true, ite_false, Bool.true_eq_false, Bool.false_eq_true, Bool.not_true, Bool.not_false, reduceIte, Bool.not_eq_true', decide_eq_false_iff_not, z1, hT, e1']
      rw [bind_nx]
      refine e_tail' ks sh ct [k] at_ _ hl fun a n h => ?_
      cases hh : targetM true (ks.drop (at_ + 1)) with
      | half => rw [hh] at h; cases h
      | non n => rw [hh] at h; cases h
      | told a' n' =>
        rw [hh] at h
        cases h
        have := targetM_le hh
        rw [List.length_drop] at this
        omega
    · have et : tgtM [k] (ks.drop at_) = .told [] 1 := by
        unfold tgtM
        rw [if_neg z1, if_neg (show ¬ [k].getD 0 0 ∈ [67, 89, 88, 71, 83, 68, 70, 74] from hT)]
      rw [et]
      simp -implicitDefEqProofs (disch := first | omega | (simp only [List.length_map, List.length_append, List.length_cons, List.length_nil, List.length_take, List.length_drop, repS_len, rngL_len, List.length_range, List.length_reverse]; done) | (simp only [List.length_map, List.length_append, List.length_cons, List.length_nil, List.length_take, List.length_drop, repS_len, rngL_len, List.length_range, List.length_reverse]; omega)) only [mVar_ev, mVarR_ev, getV_val, getR_val, getR_own, mC_ev, mOp_ev, mOpL_ev, mT_ev, asB_bl, mAnd_ev, mOr_ev, mNot_ev, mAndV_ev, mOrV_ev, mNotV_ev, mIf_ev, mNil_ev, mCons_ev, mTup_ev, mLst_ev, mCall_ev, mPn_ev, mPs_ev, asI_int, mSl_ev, mSlL_ev, asL_lst, asL_scr, asTp_tup, asSt_str, R_ite, mWalk_ev, mLe_ev, mNeg_ev, mSeq_ev, mSkip_ev, bind_rt, bind_rtL, bind_bk, bind_ct, bind_ex, bind_ite, lift_ok, lift_exc, lift_ite, mAsg_ev, mAsgL_ev, mDrop_ev, mRet_ev, mRetL_ev, mRetN_ev, mRetOwn_ev, getO_own, mIfS_ev, mSet1_ev, onO_own, onO_val, mAppend_ev, putO_own, mAsgG_ev, optSO_some, gSet_ev, gsNil_ev, gsCons_ev, obind_some, gTupM_1, gTupM_2, gTupM_3, gTupM_4, gTupM_5, gTupM_6, mFor_ev, retD_nx, retD_rt, retD_rtL, retD_ex, retD_ite, retLs_rtL, retLs_ex, retLs_ite, nth_zero, nth_succ, set_zero, set_succ, add_int, add_str, add_lst, lcat_lst, sub_int', neg_int', lt_int', le_int', gt_int', ge_int', mod_int', fdiv_int, mul_int', mul_str', isN_non, isN_int, notN_non, notN_int, eq_int', ne_int', eq_str', ne_str', eq_bl', ne_bl', len_str', len_lst, len_tup, len_scr, max_int, min_int, sl_str', sl_lst, sl_scr, lsl_lst, lsl_scr, ix_str', ix_lst, ix_tup', ix_scr, range1_ok, range2_ok, range3_ok, mMeth_ev, onStr_str, mComp_ev, mCh_ev, wipeE_nil, wipeE_cons, mYes_ev, int_int, int_bl, asW_lst, asW_tup, asW_scr, asW_str, lt_str', le_str', gt_str', ge_str', mRaise_ev, sum_ints, all_bls, any_bls, list_lst, list_tup, list_scr, sorted_ints', g_find_ev, g_find3_ev, g_find4_ev, g_rfind_ev, g_rfind4_ev, g_count_ev, g_count3_ev, g_count4_ev, g_startswith_ev, g_endswith_ev, Int.reduceToNat, List.getD_cons_zero, List.getD_cons_succ, List.length_map, List.length_reverse, Int.zero_mul, Int.mul_zero, Int.add_zero, Int.mul_one, nc0, nc1, nc2, nc3, nc4, nc5, nc6, nc7, nc8, nc9, nc10, nc11, nc12, nc13, List.cons_append, List.nil_append, decide_true, decide_false, not_false_eq_true, not_true_eq_false, mCallR_ev, retLE_rtL, retDE_rt, flatR_bl, flatR_int, flatR_str, flatR_non, flatR_exc, getOwn_own, mMut0_ev, mSetIx_ev, putIx_ok, rev_lst, lrep_ev, if_small, if_small', rngL_len, endS_nx, endS_rt, in_sign, notIn_sign, isN_str, notN_str, isN_tup, notN_tup, isi_int_int, isi_int_bool, isi_bl_bool, isi_bl_int, isi_str_str, isi_tup_tup, isi_lst_lst, isi_non_int, isi_non_tup, _root_.FL.R.ok_bind, _root_.FL.R.exc_bind, _root_.FL.R.stuck_bind, _root_.FL.R.pure_eq, List.append_nil, List.length_cons, List.length_nil, Nat.zero_add, Nat.reduceAdd, Nat.reduceLeDiff, Nat.reduceLT, decide_eq_true_eq, if_true, if_false, ite_true, ite_false, Bool.true_eq_false, Bool.false_eq_true, Bool.not_true, Bool.not_false, reduceIte, Bool.not_eq_true', decide_eq_false_iff_not, z1, hT]
      rw [bind_nx]
      exact e_tail' ks sh ct [k] at_ (.told [] 1) hl fun a n h => by cases h; omega
  · have hv' : ¬ k ∈ ks_7958c9 := hv
    have ev : verbM k = [] := if_neg hv
    rw [ev]
    simp -implicitDefEqProofs (disch := first | omega | (simp only [List.length_map, List.length_append, List.length_cons, List.length_nil, List.length_take, List.length_drop, repS_len, rngL_len, List.length_range, List.length_reverse]; done) | (simp only [List.length_map, List.length_append, List.length_cons, List.length_nil, List.length_take, List.length_drop, repS_len, rngL_len, List.length_range, List.length_reverse]; omega)) only [mVar_ev, mVarR_ev, getV_val, getR_val, getR_own, mC_ev, mOp_ev, mOpL_ev, mT_ev, asB_bl, mAnd_ev, mOr_ev, mNot_ev, mAndV_ev, mOrV_ev, mNotV_ev, mIf_ev, mNil_ev, mCons_ev, mTup_ev, mLst_ev, mCall_ev, mPn_ev, mPs_ev, asI_int, mSl_ev, mSlL_ev, asL_lst, asL_scr, asTp_tup, asSt_str, R_ite, mWalk_ev, mLe_ev, mNeg_ev, mSeq_ev, mSkip_ev, bind_rt, bind_rtL, bind_bk, bind_ct, bind_ex, bind_ite, lift_ok, lift_exc, lift_ite, mAsg_ev, mAsgL_ev, mDrop_ev, mRet_ev, mRetL_ev, mRetN_ev, mRetOwn_ev, getO_own, mIfS_ev, mSet1_ev, onO_own, onO_val, mAppend_ev, putO_own, mAsgG_ev, optSO_some, gSet_ev, gsNil_ev, gsCons_ev, obind_some, gTupM_1, gTupM_2, gTupM_3, gTupM_4, gTupM_5, gTupM_6, mFor_ev, retD_nx, retD_rt, retD_rtL, retD_ex, retD_ite, retLs_rtL, retLs_ex, retLs_ite, nth_zero, nth_succ, set_zero, set_succ, add_int, add_str, add_lst, lcat_lst, sub_int', neg_int', lt_int', le_int', gt_int', ge_int', mod_int', fdiv_int, mul_int', mul_str', isN_non, isN_int, notN_non, notN_int, eq_int', ne_int', eq_str', ne_str', eq_bl', ne_bl', len_str', len_lst, len_tup, len_scr, max_int, min_int, sl_str', sl_lst, sl_scr, lsl_lst, lsl_scr, ix_str', ix_lst, ix_tup', ix_scr, range1_ok, range2_ok, range3_ok, mMeth_ev, onStr_str, mComp_ev, mCh_ev, wipeE_nil, wipeE_cons, mYes_ev, int_int, int_bl, asW_lst, asW_tup, asW_scr, asW_str, lt_str', le_str', gt_str', ge_str', mRaise_ev, sum_ints, all_bls, any_bls, list_lst, list_tup, list_scr, sorted_ints', g_find_ev, g_find3_ev, g_find4_ev, g_rfind_ev, g_rfind4_ev, g_count_ev, g_count3_ev, g_count4_ev, g_startswith_ev, g_endswith_ev, Int.reduceToNat, List.getD_cons_zero, List.getD_cons_succ, List.length_map, List.length_reverse, Int.zero_mul, Int.mul_zero, Int.add_zero, Int.mul_one, nc0, nc1, nc2, nc3, nc4, nc5, nc6, nc7, nc8, nc9, nc10, nc11, nc12, nc13, List.cons_append, List.nil_append, decide_true, decide_false, not_false_eq_true, not_true_eq_false, mCallR_ev, retLE_rtL, retDE_rt, flatR_bl, flatR_int, flatR_str, flatR_non, flatR_exc, getOwn_own, mMut0_ev, mSetIx_ev, putIx_ok, rev_lst, lrep_ev, if_small, if_small', rngL_len, endS_nx, endS_rt, in_sign, notIn_sign, isN_str, notN_str, isN_tup, notN_tup, isi_int_int, isi_int_bool, isi_bl_bool, isi_bl_int, isi_str_str, isi_tup_tup, isi_lst_lst, isi_non_int, isi_non_tup, _root_.FL.R.ok_bind, _root_.FL.R.exc_bind, _root_.FL.R.stuck_bind, _root_.FL.R.pure_eq, List.append_nil, List.length_cons, List.length_nil, Nat.zero_add, Nat.reduceAdd, Nat.reduceLeDiff, Nat.reduceLT, decide_eq_true_eq, if_true, if_false, ite_true, ite_false, Bool.true_eq_false, Bool.false_eq_true, Bool.not_true, Bool.not_false, reduceIte, Bool.not_eq_true', decide_eq_false_iff_not, Int.toNat_natCast, h2, hv']
    rw [bind_nx]
    by_cases hA : sh ≠ []
    · rw [if_pos ⟨hA, .inl trivial⟩]
      simp -implicitDefEqProofs (disch := first | omega | (simp only [List.length_map, List.length_append, List.length_cons, List.length_nil, List.length_take, List.length_drop, repS_len, rngL_len, List.length_range, List.length_reverse]; done) | (simp only [List.length_map, List.length_append, List.length_cons, List.length_nil, List.length_take, List.length_drop, repS_len, rngL_len, List.length_range, List.length_reverse]; omega)) only [mVar_ev, mVarR_ev, getV_val, getR_val, getR_own, mC_ev, mOp_ev, mOpL_ev, mT_ev, asB_bl, mAnd_ev, mOr_ev, mNot_ev, mAndV_ev, mOrV_ev, mNotV_ev, mIf_ev, mNil_ev, mCons_ev, mTup_ev, mLst_ev, mCall_ev, mPn_ev, mPs_ev, asI_int, mSl_ev, mSlL_ev, asL_lst, asL_scr, asTp_tup, asSt_str, R_ite, mWalk_ev, mLe_ev, mNeg_ev, mSeq_ev, mSkip_ev, bind_nx, bind_rt, bind_rtL, bind_bk, bind_ct, bind_ex, bind_ite, lift_ok, lift_exc, lift_ite, mAsg_ev, mAsgL_ev, mDrop_ev, mRet_ev, mRetL_ev, mRetN_ev, mRetOwn_ev, getO_own, mIfS_ev, mSet1_ev, onO_own, onO_val, mAppend_ev, putO_own, mAsgG_ev, optSO_some, gSet_ev, gsNil_ev, gsCons_ev, obind_some, gTupM_1, gTupM_2, gTupM_3, gTupM_4, gTupM_5, gTupM_6, mFor_ev, retD_nx, retD_rt, retD_rtL, retD_ex, retD_ite, retLs_rtL, retLs_ex, retLs_ite, nth_zero, nth_succ, set_zero, set_succ, add_int, add_str, add_lst, lcat_lst, sub_int', neg_int', lt_int', le_int', gt_int', ge_int', mod_int', fdiv_int, mul_int', mul_str', isN_non, isN_int, notN_non, notN_int, eq_int', ne_int', eq_str', ne_str', eq_bl', ne_bl', len_str', len_lst, len_tup, len_scr, max_int, min_int, sl_str', sl_lst, sl_scr, lsl_lst, lsl_scr, ix_str', ix_lst, ix_tup', ix_scr, range1_ok, range2_ok, range3_ok, mMeth_ev, onStr_str, mComp_ev, mCh_ev, wipeE_nil, wipeE_cons, mYes_ev, int_int, int_bl, asW_lst, asW_tup, asW_scr, asW_str, lt_str', le_str', gt_str', ge_str', mRaise_ev, sum_ints, all_bls, any_bls, list_lst, list_tup, list_scr, sorted_ints', g_find_ev, g_find3_ev, g_find4_ev, g_rfind_ev, g_rfind4_ev, g_count_ev, g_count3_ev, g_count4_ev, g_startswith_ev, g_endswith_ev, Int.reduceToNat, List.getD_cons_zero, List.getD_cons_succ, List.length_map, List.length_reverse, Int.zero_mul, Int.mul_zero, Int.add_zero, Int.mul_one, nc0, nc1, nc2, nc3, nc4, nc5, nc6, nc7, nc8, nc9, nc10, nc11, nc12, nc13, List.cons_append, List.nil_append, decide_true, decide_false, not_false_eq_true, not_true_eq_false, mCallR_ev, retLE_rtL, retDE_rt, flatR_bl, flatR_int, flatR_str, flatR_non, flatR_exc, getOwn_own, mMut0_ev, mSetIx_ev, putIx_ok, rev_lst, lrep_ev, if_small, if_small', rngL_len, endS_nx, endS_rt, in_sign, notIn_sign, isN_str, notN_str, isN_tup, notN_tup, isi_int_int, isi_int_bool, isi_bl_bool, isi_bl_int, isi_str_str, isi_tup_tup, isi_lst_lst, isi_non_int, isi_non_tup, _root_.FL.R.ok_bind, _root_.FL.R.exc_bind, _root_.FL.R.stuck_bind, _root_.FL.R.pure_eq, List.append_nil, List.length_cons, List.length_nil, Nat.zero_add, Nat.reduceAdd, Nat.reduceLeDiff, Nat.reduceLT, decide_eq_true_eq, if_true, if_false, ite_true, ite_false, Bool.true_eq_false, Bool.false_eq_true, Bool.not_true, Bool.not_false, reduceIte, Bool.not_eq_true', decide_eq_false_iff_not, hA]
      rfl
    have hA' : sh = [] := Classical.not_not.mp hA
    rw [if_neg (fun z => hA z.1)]
    simp -implicitDefEqProofs (disch := first | omega | (simp only [List.length_map, List.length_append, List.length_cons, List.length_nil, List.length_take, List.length_drop, repS_len, rngL_len, List.length_range, List.length_reverse]; done) | (simp only [List.length_map, List.length_append, List.length_cons, List.length_nil, List.length_take, List.length_drop, repS_len, rngL_len, List.length_range, List.length_reverse]; omega)) only [mVar_ev, mVarR_ev, getV_val, getR_val, getR_own, mC_ev, mOp_ev, mOpL_ev, mT_ev, asB_bl, mAnd_ev, mOr_ev, mNot_ev, mAndV_ev, mOrV_ev, mNotV_ev, mIf_ev, mNil_ev, mCons_ev, mTup_ev, mLst_ev, mCall_ev, mPn_ev, mPs_ev, asI_int, mSl_ev, mSlL_ev, asL_lst, asL_scr, asTp_tup, asSt_str, R_ite, mWalk_ev, mLe_ev, mNeg_ev, mSeq_ev, mSkip_ev, bind_rt, bind_rtL, bind_bk, bind_ct, bind_ex, bind_ite, lift_ok, lift_exc, lift_ite, mAsg_ev, mAsgL_ev, mDrop_ev, mRet_ev, mRetL_ev, mRetN_ev, mRetOwn_ev, getO_own, mIfS_ev, mSet1_ev, onO_own, onO_val, mAppend_ev, putO_own, mAsgG_ev, optSO_some, gSet_ev, gsNil_ev, gsCons_ev, obind_some, gTupM_1, gTupM_2, gTupM_3, gTupM_4, gTupM_5, gTupM_6, mFor_ev, retD_nx, retD_rt, retD_rtL, retD_ex, retD_ite, retLs_rtL, retLs_ex, retLs_ite, nth_zero, nth_succ, set_zero, set_succ, add_int, add_str, add_lst, lcat_lst, sub_int', neg_int', lt_int', le_int', gt_int', ge_int', mod_int', fdiv_int, mul_int', mul_str', isN_non, isN_int, notN_non, notN_int, eq_int', ne_int', eq_str', ne_str', eq_bl', ne_bl', len_str', len_lst, len_tup, len_scr, max_int, min_int, sl_str', sl_lst, sl_scr, lsl_lst, lsl_scr, ix_str', ix_lst, ix_tup', ix_scr, range1_ok, range2_ok, range3_ok, mMeth_ev, onStr_str, mComp_ev, mCh_ev, wipeE_nil, wipeE_cons, mYes_ev, int_int, int_bl, asW_lst, asW_tup, asW_scr, asW_str, lt_str', le_str', gt_str', ge_str', mRaise_ev, sum_ints, all_bls, any_bls, list_lst, list_tup, list_scr, sorted_ints', g_find_ev, g_find3_ev, g_find4_ev, g_rfind_ev, g_rfind4_ev, g_count_ev, g_count3_ev, g_count4_ev, g_startswith_ev, g_endswith_ev, Int.reduceToNat, List.getD_cons_zero, List.getD_cons_succ, List.length_map, List.length_reverse, Int.zero_mul, Int.mul_zero, Int.add_zero, Int.mul_one, nc0, nc1, nc2, nc3, nc4, nc5, nc6, nc7, nc8, nc9, nc10, nc11, nc12, nc13, List.cons_append, List.nil_append, decide_true, decide_false, not_false_eq_true, not_true_eq_false, mCallR_ev, retLE_rtL, retDE_rt, flatR_bl, flatR_int, flatR_str, flatR_non, flatR_exc, getOwn_own, mMut0_ev, mSetIx_ev, putIx_ok, rev_lst, lrep_ev, if_small, if_small', rngL_len, endS_nx, endS_rt, in_sign, notIn_sign, isN_str, notN_str, isN_tup, notN_tup, isi_int_int, isi_int_bool, isi_bl_bool, isi_bl_int, isi_str_str, isi_tup_tup, isi_lst_lst, isi_non_int, isi_non_tup, _root_.FL.R.ok_bind, _root_.FL.R.exc_bind, _root_.FL.R.stuck_bind, _root_.FL.R.pure_eq, List.append_nil, List.length_cons, List.length_nil, Nat.zero_add, Nat.reduceAdd, Nat.reduceLeDiff, Nat.reduceLT, decide_eq_true_eq, if_true, if_false, ite_true, ite_false, Bool.true_eq_false, Bool.false_eq_true, Bool.not_true, Bool.not_false, reduceIte, Bool.not_eq_true', decide_eq_false_iff_not, hA']
    rw [bind_nx]
    rw [if_neg (fun z => z.2.1 rfl)]
    have st : (mAnd (mT (mOp D.notN (mVar 2) (mC .non))) (mAnd (mT (mOp D.ne (mVar 4) (mC (.str [])))) (mT (mOp D.in_ (mVar 4) (mC (.str [77, 75, 86, 58])))))) [.val (.str ks), .val (.str []), .val (ctD ct), .val (.int at_), .val (.str []), .val (.tup [.str [116, 111, 108, 100], .str [], .int ((at_ : Int) + 1)]), .no] = .ok false := by
      by_cases y : ct = []
      · simp -implicitDefEqProofs (disch := first | omega | (simp only [List.length_map, List.length_append, List.length_cons, List.length_nil, List.length_take, List.length_drop, repS_len, rngL_len, List.length_range, List.length_reverse]; done) | (simp only [List.length_map, List.length_append, List.length_cons, List.length_nil, List.length_take, List.length_drop, repS_len, rngL_len, List.length_range, List.length_reverse]; omega)) only [mVar_ev, mVarR_ev, getV_val, getR_val, getR_own, mC_ev, mOp_ev, mOpL_ev, mT_ev, asB_bl, mAnd_ev, mOr_ev, mNot_ev, mAndV_ev, mOrV_ev, mNotV_ev, mIf_ev, mNil_ev, mCons_ev, mTup_ev, mLst_ev, mCall_ev, mPn_ev, mPs_ev, asI_int, mSl_ev, mSlL_ev, asL_lst, asL_scr, asTp_tup, asSt_str, R_ite, mWalk_ev, mLe_ev, mNeg_ev, mSeq_ev, mSkip_ev, bind_nx, bind_rt, bind_rtL, bind_bk, bind_ct, bind_ex, bind_ite, lift_ok, lift_exc, lift_ite, mAsg_ev, mAsgL_ev, mDrop_ev, mRet_ev, mRetL_ev, mRetN_ev, mRetOwn_ev, getO_own, mIfS_ev, mSet1_ev, onO_own, onO_val, mAppend_ev, putO_own, mAsgG_ev, optSO_some, gSet_ev, gsNil_ev, gsCons_ev, obind_some, gTupM_1, gTupM_2, gTupM_3, gTupM_4, gTupM_5, gTupM_6, mFor_ev, retD_nx, retD_rt, retD_rtL, retD_ex, retD_ite, retLs_rtL, retLs_ex, retLs_ite, nth_zero, nth_succ, set_zero, set_succ, add_int, add_str, add_lst, lcat_lst, sub_int', neg_int', lt_int', le_int', gt_int', ge_int', mod_int', fdiv_int, mul_int', mul_str', isN_non, isN_int, notN_non, notN_int, eq_int', ne_int', eq_str', ne_str', eq_bl', ne_bl', len_str', len_lst, len_tup, len_scr, max_int, min_int, sl_str', sl_lst, sl_scr, lsl_lst, lsl_scr, ix_str', ix_lst, ix_tup', ix_scr, range1_ok, range2_ok, range3_ok, mMeth_ev, onStr_str, mComp_ev, mCh_ev, wipeE_nil, wipeE_cons, mYes_ev, int_int, int_bl, asW_lst, asW_tup, asW_scr, asW_str, lt_str', le_str', gt_str', ge_str', mRaise_ev, sum_ints, all_bls, any_bls, list_lst, list_tup, list_scr, sorted_ints', g_find_ev, g_find3_ev, g_find4_ev, g_rfind_ev, g_rfind4_ev, g_count_ev, g_count3_ev, g_count4_ev, g_startswith_ev, g_endswith_ev, Int.reduceToNat, List.getD_cons_zero, List.getD_cons_succ, List.length_map, List.length_reverse, Int.zero_mul, Int.mul_zero, Int.add_zero, Int.mul_one, nc0, nc1, nc2, nc3, nc4, nc5, nc6, nc7, nc8, nc9, nc10, nc11, nc12, nc13, List.cons_append, List.nil_append, decide_true, decide_false, not_false_eq_true, not_true_eq_false, mCallR_ev, retLE_rtL, retDE_rt, flatR_bl, flatR_int, flatR_str, flatR_non, flatR_exc, getOwn_own, mMut0_ev, mSetIx_ev, putIx_ok, rev_lst, lrep_ev, if_small, if_small', rngL_len, endS_nx, endS_rt, in_sign, notIn_sign, isN_str, notN_str, isN_tup, notN_tup, isi_int_int, isi_int_bool, isi_bl_bool, isi_bl_int, isi_str_str, isi_tup_tup, isi_lst_lst, isi_non_int, isi_non_tup, _root_.FL.R.ok_bind, _root_.FL.R.exc_bind, _root_.FL.R.stuck_bind, _root_.FL.R.pure_eq, List.append_nil, List.length_cons, List.length_nil, Nat.zero_add, Nat.reduceAdd, Nat.reduceLeDiff, Nat.reduceLT, decide_eq_true_eq, if_true, if_false, ite_true, ite_false, Bool.true_eq_false, Bool.false_eq_true, Bool.not_true, Bool.not_false, reduceIte, Bool.not_eq_true', decide_eq_false_iff_not, cN0 y]
      · simp -implicitDefEqProofs (disch := first | omega | (simp only [List.length_map, List.length_append, List.length_cons, List.length_nil, List.length_take, List.length_drop, repS_len, rngL_len, List.length_range, List.length_reverse]; done) | (simp only [List.length_map, List.length_append, List.length_cons, List.length_nil, List.length_take, List.length_drop, repS_len, rngL_len, List.length_range, List.length_reverse]; omega)) only [mVar_ev, mVarR_ev, getV_val, getR_val, getR_own, mC_ev, mOp_ev, mOpL_ev, mT_ev, asB_bl, mAnd_ev, mOr_ev, mNot_ev, mAndV_ev, mOrV_ev, mNotV_ev, mIf_ev, mNil_ev, mCons_ev, mTup_ev, mLst_ev, mCall_ev, mPn_ev, mPs_ev, asI_int, mSl_ev, mSlL_ev, asL_lst, asL_scr, asTp_tup, asSt_str, R_ite, mWalk_ev, mLe_ev, mNeg_ev, mSeq_ev, mSkip_ev, bind_nx, bind_rt, bind_rtL, bind_bk, bind_ct, bind_ex, bind_ite, lift_ok, lift_exc, lift_ite, mAsg_ev, mAsgL_ev, mDrop_ev, mRet_ev, mRetL_ev, mRetN_ev, mRetOwn_ev, getO_own, mIfS_ev, mSet1_ev, onO_own, onO_val, mAppend_ev, putO_own, mAsgG_ev, optSO_some, gSet_ev, gsNil_ev, gsCons_ev, obind_some, gTupM_1, gTupM_2, gTupM_3, gTupM_4, gTupM_5, gTupM_6, mFor_ev, retD_nx, retD_rt, retD_rtL, retD_ex, retD_ite, retLs_rtL, retLs_ex, retLs_ite, nth_zero, nth_succ, set_zero, set_succ, add_int, add_str, add_lst, lcat_lst, sub_int', neg_int', lt_int', le_int', gt_int', ge_int', mod_int', fdiv_int, mul_int', mul_str', isN_non, isN_int, notN_non, notN_int, eq_int', ne_int', eq_str', ne_str', eq_bl', ne_bl', len_str', len_lst, len_tup, len_scr, max_int, min_int, sl_str', sl_lst, sl_scr, lsl_lst, lsl_scr, ix_str', ix_lst, ix_tup', ix_scr, range1_ok, range2_ok, range3_ok, mMeth_ev, onStr_str, mComp_ev, mCh_ev, wipeE_nil, wipeE_cons, mYes_ev, int_int, int_bl, asW_lst, asW_tup, asW_scr, asW_str, lt_str', le_str', gt_str', ge_str', mRaise_ev, sum_ints, all_bls, any_bls, list_lst, list_tup, list_scr, sorted_ints', g_find_ev, g_find3_ev, g_find4_ev, g_rfind_ev, g_rfind4_ev, g_count_ev, g_count3_ev, g_count4_ev, g_startswith_ev, g_endswith_ev, Int.reduceToNat, List.getD_cons_zero, List.getD_cons_succ, List.length_map, List.length_reverse, Int.zero_mul, Int.mul_zero, Int.add_zero, Int.mul_one, nc0, nc1, nc2, nc3, nc4, nc5, nc6, nc7, nc8, nc9, nc10, nc11, nc12, nc13, List.cons_append, List.nil_append, decide_true, decide_false, not_false_eq_true, not_true_eq_false, mCallR_ev, retLE_rtL, retDE_rt, flatR_bl, flatR_int, flatR_str, flatR_non, flatR_exc, getOwn_own, mMut0_ev, mSetIx_ev, putIx_ok, rev_lst, lrep_ev, if_small, if_small', rngL_len, endS_nx, endS_rt, in_sign, notIn_sign, isN_str, notN_str, isN_tup, notN_tup, isi_int_int, isi_int_bool, isi_bl_bool, isi_bl_int, isi_str_str, isi_tup_tup, isi_lst_lst, isi_non_int, isi_non_tup, _root_.FL.R.ok_bind, _root_.FL.R.exc_bind, _root_.FL.R.stuck_bind, _root_.FL.R.pure_eq, List.append_nil, List.length_cons, List.length_nil, Nat.zero_add, Nat.reduceAdd, Nat.reduceLeDiff, Nat.reduceLT, decide_eq_true_eq, if_true, if_false, ite_true, ite_false, Bool.true_eq_false, Bool.false_eq_true, Bool.not_true, Bool.not_false, reduceIte, Bool.not_eq_true', decide_eq_false_iff_not, cN y]
    rw [mSeq_ev, mIfS_ev, st]
    simp -implicitDefEqProofs (disch := first | omega | (simp only [List.length_map, List.length_append, List.length_cons, List.length_nil, List.length_take, List.length_drop, repS_len, rngL_len, List.length_range, List.length_reverse]; done) | (simp only [List.length_map, List.length_append, List.length_cons, List.length_nil, List.length_take, List.length_drop, repS_len, rngL_len, List.length_range, List.length_reverse]; omega)) only [mVar_ev, mVarR_ev, getV_val, getR_val, getR_own, mC_ev, mOp_ev, mOpL_ev, mT_ev, asB_bl, mAnd_ev, mOr_ev, mNot_ev, mAndV_ev, mOrV_ev, mNotV_ev, mIf_ev, mNil_ev, mCons_ev, mTup_ev, mLst_ev, mCall_ev, mPn_ev, mPs_ev, asI_int, mSl_ev, mSlL_ev, asL_lst, asL_scr, asTp_tup, asSt_str, R_ite, mWalk_ev, mLe_ev, mNeg_ev, mSeq_ev, mSkip_ev, bind_rt, bind_rtL, bind_bk, bind_ct, bind_ex, bind_ite, lift_ok, lift_exc, lift_ite, mAsg_ev, mAsgL_ev, mDrop_ev, mRet_ev, mRetL_ev, mRetN_ev, mRetOwn_ev, getO_own, mIfS_ev, mSet1_ev, onO_own, onO_val, mAppend_ev, putO_own, mAsgG_ev, optSO_some, gSet_ev, gsNil_ev, gsCons_ev, obind_some, gTupM_1, gTupM_2, gTupM_3, gTupM_4, gTupM_5, gTupM_6, mFor_ev, retD_nx, retD_rt, retD_rtL, retD_ex, retD_ite, retLs_rtL, retLs_ex, retLs_ite, nth_zero, nth_succ, set_zero, set_succ, add_int, add_str, add_lst, lcat_lst, sub_int', neg_int', lt_int', le_int', gt_int', ge_int', mod_int', fdiv_int, mul_int', mul_str', isN_non, isN_int, notN_non, notN_int, eq_int', ne_int', eq_str', ne_str', eq_bl', ne_bl', len_str', len_lst, len_tup, len_scr, max_int, min_int, sl_str', sl_lst, sl_scr, lsl_lst, lsl_scr, ix_str', ix_lst, ix_tup', ix_scr, range1_ok, range2_ok, range3_ok, mMeth_ev, onStr_str, mComp_ev, mCh_ev, wipeE_nil, wipeE_cons, mYes_ev, int_int, int_bl, asW_lst, asW_tup, asW_scr, asW_str, lt_str', le_str', gt_str', ge_str', mRaise_ev, sum_ints, all_bls, any_bls, list_lst, list_tup, list_scr, sorted_ints', g_find_ev, g_find3_ev, g_find4_ev, g_rfind_ev, g_rfind4_ev, g_count_ev, g_count3_ev, g_count4_ev, g_startswith_ev, g_endswith_ev, Int.reduceToNat, List.getD_cons_zero, List.getD_cons_succ, List.length_map, List.length_reverse, Int.zero_mul, Int.mul_zero, Int.add_zero, Int.mul_one, nc0, nc1, nc2, nc3, nc4, nc5, nc6, nc7, nc8, nc9, nc10, nc11, nc12, nc13, List.cons_append, List.nil_append, decide_true, decide_false, not_false_eq_true, not_true_eq_false, mCallR_ev, retLE_rtL, retDE_rt, flatR_bl, flatR_int, flatR_str, flatR_non, flatR_exc, getOwn_own, mMut0_ev, mSetIx_ev, putIx_ok, rev_lst, lrep_ev, if_small, if_small', rngL_len, endS_nx, endS_rt, in_sign, notIn_sign, isN_str, notN_str, isN_tup, notN_tup, isi_int_int, isi_int_bool, isi_bl_bool, isi_bl_int, isi_str_str, isi_tup_tup, isi_lst_lst, isi_non_int, isi_non_tup, _root_.FL.R.ok_bind, _root_.FL.R.exc_bind, _root_.FL.R.stuck_bind, _root_.FL.R.pure_eq, List.append_nil, List.length_cons, List.length_nil, Nat.zero_add, Nat.reduceAdd, Nat.reduceLeDiff, Nat.reduceLT, decide_eq_true_eq, if_true, if_false, ite_true, ite_false, Bool.true_eq_false, Bool.false_eq_true, Bool.not_true, Bool.not_false, reduceIte, Bool.not_eq_true', decide_eq_false_iff_not]
    rw [bind_nx]
    have et : tgtM [] (ks.drop at_) = targetM false (ks.drop at_) := if_pos rfl
    have e1 := e_target ks at_ false hl (by omega)
    rw [et]
    simp -implicitDefEqProofs (disch := first | omega | (simp only [List.length_map, List.length_append, List.length_cons, List.length_nil, List.length_take, List.length_drop, repS_len, rngL_len, List.length_range, List.length_reverse]; done) | (simp only [List.length_map, List.length_append, List.length_cons, List.length_nil, List.length_take, List.length_drop, repS_len, rngL_len, List.length_range, List.length_reverse]; omega)) only [mVar_ev, mVarR_ev, getV_val, getR_val, getR_own, mC_ev, mOp_ev, mOpL_ev, mT_ev, asB_bl, mAnd_ev, mOr_ev, mNot_ev, mAndV_ev, mOrV_ev, mNotV_ev, mIf_ev, mNil_ev, mCons_ev, mTup_ev, mLst_ev, mCall_ev, mPn_ev, mPs_ev, asI_int, mSl_ev, mSlL_ev, asL_lst, asL_scr, asTp_tup, asSt_str, R_ite, mWalk_ev, mLe_ev, mNeg_ev, mSeq_ev, mSkip_ev, bind_rt, bind_rtL, bind_bk, bind_ct, bind_ex, bind_ite, lift_ok, lift_exc, lift_ite, mAsg_ev, mAsgL_ev, mDrop_ev, mRet_ev, mRetL_ev, mRetN_ev, mRetOwn_ev, getO_own, mIfS_ev, mSet1_ev, onO_own, onO_val, mAppend_ev, putO_own, mAsgG_ev, optSO_some, gSet_ev, gsNil_ev, gsCons_ev, obind_some, gTupM_1, gTupM_2, gTupM_3, gTupM_4, gTupM_5, gTupM_6, mFor_ev, retD_nx, retD_rt, retD_rtL, retD_ex, retD_ite, retLs_rtL, retLs_ex, retLs_ite, nth_zero, nth_succ, set_zero, set_succ, add_int, add_str, add_lst, lcat_lst, sub_int', neg_int', lt_int', le_int', gt_int', ge_int', mod_int', fdiv_int, mul_int', mul_str', isN_non, isN_int, notN_non, notN_int, eq_int', ne_int', eq_str', ne_str', eq_bl', ne_bl', len_str', len_lst, len_tup, len_scr, max_int, min_int, sl_str', sl_lst, sl_scr, lsl_lst, lsl_scr, ix_str', ix_lst, ix_tup', ix_scr, range1_ok, range2_ok, range3_ok, mMeth_ev, onStr_str, mComp_ev, mCh_ev, wipeE_nil, wipeE_cons, mYes_ev, int_int, int_bl, asW_lst, asW_tup, asW_scr, asW_str, lt_str', le_str', gt_str', ge_str', mRaise_ev, sum_ints, all_bls, any_bls, list_lst, list_tup, list_scr, sorted_ints', g_find_ev, g_find3_ev, g_find4_ev, g_rfind_ev, g_rfind4_ev, g_count_ev, g_count3_ev, g_count4_ev, g_startswith_ev, g_endswith_ev, Int.reduceToNat, List.getD_cons_zero, List.getD_cons_succ, List.length_map, List.length_reverse, Int.zero_mul, Int.mul_zero, Int.add_zero, Int.mul_one, nc0, nc1, nc2, nc3, nc4, nc5, nc6, nc7, nc8, nc9, nc10, nc11, nc12, nc13, List.cons_append, List.nil_append, decide_true, decide_false, not_false_eq_true, not_true_eq_false, mCallR_ev, retLE_rtL, retDE_rt, flatR_bl, flatR_int, flatR_str, flatR_non, flatR_exc, getOwn_own, mMut0_ev, mSetIx_ev, putIx_ok, rev_lst, lrep_ev, if_small, if_small', rngL_len, endS_nx, endS_rt, in_sign, notIn_sign, isN_str, notN_str, isN_tup, notN_tup, isi_int_int, isi_int_bool, isi_bl_bool, isi_bl_int, isi_str_str, isi_tup_tup, isi_lst_lst, isi_non_int, isi_non_tup, _root_.FL.R.ok_bind, _root_.FL.R.exc_bind, _root_.FL.R.stuck_bind, _root_.FL.R.pure_eq, List.append_nil, List.length_cons, List.length_nil, Nat.zero_add, Nat.reduceAdd, Nat.reduceLeDiff, Nat.reduceLT, decide_eq_true_eq, if_true, if_false, ite_true, ite_false, Bool.true_eq_false, Bool.false_eq_true, Bool.not_true, Bool.not_false, reduceIte, Bool.not_eq_true', decide_eq_false_iff_not, e1]
    rw [bind_nx]
    refine e_tail' ks [] ct [] at_ _ hl fun a n h => ?_
    have := targetM_le h
    rw [List.length_drop] at this
    omega
theorem fD_0 (T : TT Phr) : fDs 0 T = fD T := by
  cases T with
  | half => rfl
  | non n => show D.tup [_, .int ((0 + n : Nat) : Int)] = D.tup [_, .int (n : Int)]; rw [Nat.zero_add]
  | told a n => show D.tup [_, _, .int ((0 + n : Nat) : Int)] = D.tup [_, _, .int (n : Int)]; rw [Nat.zero_add]
theorem shelfM_le {s a : List Nat} {n : Nat} (h : shelfM s = .told a n) : n ≤ s.length := by
  match s, h with
  | [], h => cases h; exact Nat.zero_le _
  | [c], h =>
    have h' : (if c = 34 then TT.half else .told [] 0) = .told a n := h
    split at h'
    · cases h'
    · cases h'; exact Nat.zero_le _
  | c :: l :: r, h =>
    have h' : (if c = 34 then (if l ∈ letS then TT.told [l] 2 else .non 2) else .told [] 0) = .told a n := h
    split at h'
    · split at h'
      · cases h'; simp
      · cases h'
    · cases h'; exact Nat.zero_le _
theorem countM_le {s a : List Nat} {n : Nat} (h : countM s = .told a n) : n ≤ s.length := by
  rcases count_dg h with ⟨_, z⟩ | ⟨c, _, _, _, e1, e2⟩
  · omega
  · rw [← e2, List.length_take] at e1
    omega
/-- the first phrase of a row of keys -/
theorem e_first (ks : List Nat) (hl : ks.length ≤ 100000) : p_first [.str ks] = .ok (fD (firstM ks)) := by
  rw [u_first]; unfold b_first
  have w1 : ¬ ([104, 97, 108, 102] : List Nat) = [116, 111, 108, 100] := by decide
  have w2 : ¬ ([110, 111, 110, 101] : List Nat) = [116, 111, 108, 100] := by decide
  have es := e_shelf ks hl
  simp -implicitDefEqProofs (disch := first | omega | (simp only [List.length_map, List.length_append, List.length_cons, List.length_nil, List.length_take, List.length_drop, repS_len, rngL_len, List.length_range, List.length_reverse]; done) | (simp only [List.length_map, List.length_append, List.length_cons, List.length_nil, List.length_take, List.length_drop, repS_len, rngL_len, List.length_range, List.length_reverse]; omega)) only [mVar_ev, mVarR_ev, getV_val, getR_val, getR_own, mC_ev, mOp_ev, mOpL_ev, mT_ev, asB_bl, mAnd_ev, mOr_ev, mNot_ev, mAndV_ev, mOrV_ev, mNotV_ev, mIf_ev, mNil_ev, mCons_ev, mTup_ev, mLst_ev, mCall_ev, mPn_ev, mPs_ev, asI_int, mSl_ev, mSlL_ev, asL_lst, asL_scr, asTp_tup, asSt_str, R_ite, mWalk_ev, mLe_ev, mNeg_ev, mSeq_ev, mSkip_ev, bind_rt, bind_rtL, bind_bk, bind_ct, bind_ex, bind_ite, lift_ok, lift_exc, lift_ite, mAsg_ev, mAsgL_ev, mDrop_ev, mRet_ev, mRetL_ev, mRetN_ev, mRetOwn_ev, getO_own, mIfS_ev, mSet1_ev, onO_own, onO_val, mAppend_ev, putO_own, mAsgG_ev, optSO_some, gSet_ev, gsNil_ev, gsCons_ev, obind_some, gTupM_1, gTupM_2, gTupM_3, gTupM_4, gTupM_5, gTupM_6, mFor_ev, retD_nx, retD_rt, retD_rtL, retD_ex, retD_ite, retLs_rtL, retLs_ex, retLs_ite, nth_zero, nth_succ, set_zero, set_succ, add_int, add_str, add_lst, lcat_lst, sub_int', neg_int', lt_int', le_int', gt_int', ge_int', mod_int', fdiv_int, mul_int', mul_str', isN_non, isN_int, notN_non, notN_int, eq_int', ne_int', eq_str', ne_str', eq_bl', ne_bl', len_str', len_lst, len_tup, len_scr, max_int, min_int, sl_str', sl_lst, sl_scr, lsl_lst, lsl_scr, ix_str', ix_lst, ix_tup', ix_scr, range1_ok, range2_ok, range3_ok, mMeth_ev, onStr_str, mComp_ev, mCh_ev, wipeE_nil, wipeE_cons, mYes_ev, int_int, int_bl, asW_lst, asW_tup, asW_scr, asW_str, lt_str', le_str', gt_str', ge_str', mRaise_ev, sum_ints, all_bls, any_bls, list_lst, list_tup, list_scr, sorted_ints', g_find_ev, g_find3_ev, g_find4_ev, g_rfind_ev, g_rfind4_ev, g_count_ev, g_count3_ev, g_count4_ev, g_startswith_ev, g_endswith_ev, Int.reduceToNat, List.getD_cons_zero, List.getD_cons_succ, List.length_map, List.length_reverse, Int.zero_mul, Int.mul_zero, Int.add_zero, Int.mul_one, nc0, nc1, nc2, nc3, nc4, nc5, nc6, nc7, nc8, nc9, nc10, nc11, nc12, nc13, List.cons_append, List.nil_append, decide_true, decide_false, not_false_eq_true, not_true_eq_false, mCallR_ev, retLE_rtL, retDE_rt, flatR_bl, flatR_int, flatR_str, flatR_non, flatR_exc, getOwn_own, mMut0_ev, mSetIx_ev, putIx_ok, rev_lst, lrep_ev, if_small, if_small', rngL_len, endS_nx, endS_rt, in_sign, notIn_sign, isN_str, notN_str, isN_tup, notN_tup, isi_int_int, isi_int_bool, isi_bl_bool, isi_bl_int, isi_str_str, isi_tup_tup, isi_lst_lst, isi_non_int, isi_non_tup, _root_.FL.R.ok_bind, _root_.FL.R.exc_bind, _root_.FL.R.stuck_bind, _root_.FL.R.pure_eq, List.append_nil, List.length_cons, List.length_nil, Nat.zero_add, Nat.reduceAdd, Nat.reduceLeDiff, Nat.reduceLT, decide_eq_true_eq, if_true, if_false, ite_true, ite_false, Bool.true_eq_false, Bool.false_eq_true, Bool.not_true, Bool.not_false, reduceIte, Bool.not_eq_true', decide_eq_false_iff_not, es]
  rw [bind_nx]
  cases hs : shelfM ks with
  | half =>
    have e : tD D.str 0 (.half : TT (List Nat)) = .tup [.str [104, 97, 108, 102]] := rfl
    have ef : firstM ks = .half := by unfold firstM; rw [hs]
    rw [e, ef]
    simp -implicitDefEqProofs (disch := first | omega | (simp only [List.length_map, List.length_append, List.length_cons, List.length_nil, List.length_take, List.length_drop, repS_len, rngL_len, List.length_range, List.length_reverse]; done) | (simp only [List.length_map, List.length_append, List.length_cons, List.length_nil, List.length_take, List.length_drop, repS_len, rngL_len, List.length_range, List.length_reverse]; omega)) only [mVar_ev, mVarR_ev, getV_val, getR_val, getR_own, mC_ev, mOp_ev, mOpL_ev, mT_ev, asB_bl, mAnd_ev, mOr_ev, mNot_ev, mAndV_ev, mOrV_ev, mNotV_ev, mIf_ev, mNil_ev, mCons_ev, mTup_ev, mLst_ev, mCall_ev, mPn_ev, mPs_ev, asI_int, mSl_ev, mSlL_ev, asL_lst, asL_scr, asTp_tup, asSt_str, R_ite, mWalk_ev, mLe_ev, mNeg_ev, mSeq_ev, mSkip_ev, bind_nx, bind_rt, bind_rtL, bind_bk, bind_ct, bind_ex, bind_ite, lift_ok, lift_exc, lift_ite, mAsg_ev, mAsgL_ev, mDrop_ev, mRet_ev, mRetL_ev, mRetN_ev, mRetOwn_ev, getO_own, mIfS_ev, mSet1_ev, onO_own, onO_val, mAppend_ev, putO_own, mAsgG_ev, optSO_some, gSet_ev, gsNil_ev, gsCons_ev, obind_some, gTupM_1, gTupM_2, gTupM_3, gTupM_4, gTupM_5, gTupM_6, mFor_ev, retD_nx, retD_rt, retD_rtL, retD_ex, retD_ite, retLs_rtL, retLs_ex, retLs_ite, nth_zero, nth_succ, set_zero, set_succ, add_int, add_str, add_lst, lcat_lst, sub_int', neg_int', lt_int', le_int', gt_int', ge_int', mod_int', fdiv_int, mul_int', mul_str', isN_non, isN_int, notN_non, notN_int, eq_int', ne_int', eq_str', ne_str', eq_bl', ne_bl', len_str', len_lst, len_tup, len_scr, max_int, min_int, sl_str', sl_lst, sl_scr, lsl_lst, lsl_scr, ix_str', ix_lst, ix_tup', ix_scr, range1_ok, range2_ok, range3_ok, mMeth_ev, onStr_str, mComp_ev, mCh_ev, wipeE_nil, wipeE_cons, mYes_ev, int_int, int_bl, asW_lst, asW_tup, asW_scr, asW_str, lt_str', le_str', gt_str', ge_str', mRaise_ev, sum_ints, all_bls, any_bls, list_lst, list_tup, list_scr, sorted_ints', g_find_ev, g_find3_ev, g_find4_ev, g_rfind_ev, g_rfind4_ev, g_count_ev, g_count3_ev, g_count4_ev, g_startswith_ev, g_endswith_ev, Int.reduceToNat, List.getD_cons_zero, List.getD_cons_succ, List.length_map, List.length_reverse, Int.zero_mul, Int.mul_zero, Int.add_zero, Int.mul_one, nc0, nc1, nc2, nc3, nc4, nc5, nc6, nc7, nc8, nc9, nc10, nc11, nc12, nc13, List.cons_append, List.nil_append, decide_true, decide_false, not_false_eq_true, not_true_eq_false, mCallR_ev, retLE_rtL, retDE_rt, flatR_bl, flatR_int, flatR_str, flatR_non, flatR_exc, getOwn_own, mMut0_ev, mSetIx_ev, putIx_ok, rev_lst, lrep_ev, if_small, if_small', rngL_len, endS_nx, endS_rt, in_sign, notIn_sign, isN_str, notN_str, isN_tup, notN_tup, isi_int_int, isi_int_bool, isi_bl_bool, isi_bl_int, isi_str_str, isi_tup_tup, isi_lst_lst, isi_non_int, isi_non_tup, _root_.FL.R.ok_bind, _root_.FL.R.exc_bind, _root_.FL.R.stuck_bind, _root_.FL.R.pure_eq, List.append_nil, List.length_cons, List.length_nil, Nat.zero_add, Nat.reduceAdd, Nat.reduceLeDiff, Nat.reduceLT, decide_eq_true_eq, if_true, if_false, ite_true, ite_false, Bool.true_eq_false, Bool.false_eq_true, Bool.not_true, Bool.not_false, reduceIte, Bool.not_eq_true', decide_eq_false_iff_not, w1]
    rfl
  | non n =>
    have e : tD D.str 0 (.non n : TT (List Nat)) = .tup [.str [110, 111, 110, 101], .int ((0 + n : Nat) : Int)] := rfl
    have ef : firstM ks = .non n := by unfold firstM; rw [hs]
    rw [e, ef, Nat.zero_add]
    simp -implicitDefEqProofs (disch := first | omega | (simp only [List.length_map, List.length_append, List.length_cons, List.length_nil, List.length_take, List.length_drop, repS_len, rngL_len, List.length_range, List.length_reverse]; done) | (simp only [List.length_map, List.length_append, List.length_cons, List.length_nil, List.length_take, List.length_drop, repS_len, rngL_len, List.length_range, List.length_reverse]; omega)) only [mVar_ev, mVarR_ev, getV_val, getR_val, getR_own, mC_ev, mOp_ev, mOpL_ev, mT_ev, asB_bl, mAnd_ev, mOr_ev, mNot_ev, mAndV_ev, mOrV_ev, mNotV_ev, mIf_ev, mNil_ev, mCons_ev, mTup_ev, mLst_ev, mCall_ev, mPn_ev, mPs_ev, asI_int, mSl_ev, mSlL_ev, asL_lst, asL_scr, asTp_tup, asSt_str, R_ite, mWalk_ev, mLe_ev, mNeg_ev, mSeq_ev, mSkip_ev, bind_nx, bind_rt, bind_rtL, bind_bk, bind_ct, bind_ex, bind_ite, lift_ok, lift_exc, lift_ite, mAsg_ev, mAsgL_ev, mDrop_ev, mRet_ev, mRetL_ev, mRetN_ev, mRetOwn_ev, getO_own, mIfS_ev, mSet1_ev, onO_own, onO_val, mAppend_ev, putO_own, mAsgG_ev, optSO_some, gSet_ev, gsNil_ev, gsCons_ev, obind_some, gTupM_1, gTupM_2, gTupM_3, gTupM_4, gTupM_5, gTupM_6, mFor_ev, retD_nx, retD_rt, retD_rtL, retD_ex, retD_ite, retLs_rtL, retLs_ex, retLs_ite, nth_zero, nth_succ, set_zero, set_succ, add_int, add_str, add_lst, lcat_lst, sub_int', neg_int', lt_int', le_int', gt_int', ge_int', mod_int', fdiv_int, mul_int', mul_str', isN_non, isN_int, notN_non, notN_int, eq_int', ne_int', eq_str', ne_str', eq_bl', ne_bl', len_str', len_lst, len_tup, len_scr, max_int, min_int, sl_str', sl_lst, sl_scr, lsl_lst, lsl_scr, ix_str', ix_lst, ix_tup', ix_scr, range1_ok, range2_ok, range3_ok, mMeth_ev, onStr_str, mComp_ev, mCh_ev, wipeE_nil, wipeE_cons, mYes_ev, int_int, int_bl, asW_lst, asW_tup, asW_scr, asW_str, lt_str', le_str', gt_str', ge_str', mRaise_ev, sum_ints, all_bls, any_bls, list_lst, list_tup, list_scr, sorted_ints', g_find_ev, g_find3_ev, g_find4_ev, g_rfind_ev, g_rfind4_ev, g_count_ev, g_count3_ev, g_count4_ev, g_startswith_ev, g_endswith_ev, Int.reduceToNat, List.getD_cons_zero, List.getD_cons_succ, List.length_map, List.length_reverse, Int.zero_mul, Int.mul_zero, Int.add_zero, Int.mul_one, nc0, nc1, nc2, nc3, nc4, nc5, nc6, nc7, nc8, nc9, nc10, nc11, nc12, nc13, List.cons_append, List.nil_append, decide_true, decide_false, not_false_eq_true, not_true_eq_false, mCallR_ev, retLE_rtL, retDE_rt, flatR_bl, flatR_int, flatR_str, flatR_non, flatR_exc, getOwn_own, mMut0_ev, mSetIx_ev, putIx_ok, rev_lst, lrep_ev, if_small, if_small', rngL_len, endS_nx, endS_rt, in_sign, notIn_sign, isN_str, notN_str, isN_tup, notN_tup, isi_int_int, isi_int_bool, isi_bl_bool, isi_bl_int, isi_str_str, isi_tup_tup, isi_lst_lst, isi_non_int, isi_non_tup, _root_.FL.R.ok_bind, _root_.FL.R.exc_bind, _root_.FL.R.stuck_bind, _root_.FL.R.pure_eq, List.append_nil, List.length_cons, List.length_nil, Nat.zero_add, Nat.reduceAdd, Nat.reduceLeDiff, Nat.reduceLT, decide_eq_true_eq, if_true, if_false, ite_true, ite_false, Bool.true_eq_false, Bool.false_eq_true, Bool.not_true, Bool.not_false, reduceIte, Bool.not_eq_true', decide_eq_false_iff_not, w2]
    rfl
  | told sh n =>
    have e : tD D.str 0 (.told sh n) = .tup [.str [116, 111, 108, 100], .str sh, .int ((0 + n : Nat) : Int)] := rfl
    have ef : firstM ks = (afterM sh (ks.drop n)).sh n := by unfold firstM; rw [hs]
    have hn := shelfM_le hs
    have ec := e_count ks n hl hn
    rw [e, ef, Nat.zero_add, ← fD_0, ← fDs_sh, Nat.zero_add]
    unfold afterM
    cases hc : countM (ks.drop n) with
    | half => unfold countM at hc; split at hc <;> (try split at hc) <;> (try split at hc) <;> cases hc
    | non m =>
      have e2 : tD ctD n (.non m : TT (List Nat)) = .tup [.str [110, 111, 110, 101], .int ((n + m : Nat) : Int)] := rfl
      rw [hc, e2] at ec
      simp -implicitDefEqProofs (disch := first | omega | (simp only [List.length_map, List.length_append, List.length_cons, List.length_nil, List.length_take, List.length_drop, repS_len, rngL_len, List.length_range, List.length_reverse]; done) | (simp only [List.length_map, List.length_append, List.length_cons, List.length_nil, List.length_take, List.length_drop, repS_len, rngL_len, List.length_range, List.length_reverse]; omega)) only [mVar_ev, mVarR_ev, getV_val, getR_val, getR_own, mC_ev, mOp_ev, mOpL_ev, mT_ev, asB_bl, mAnd_ev, mOr_ev, mNot_ev, mAndV_ev, mOrV_ev, mNotV_ev, mIf_ev, mNil_ev, mCons_ev, mTup_ev, mLst_ev, mCall_ev, mPn_ev, mPs_ev, asI_int, mSl_ev, mSlL_ev, asL_lst, asL_scr, asTp_tup, asSt_str, R_ite, mWalk_ev, mLe_ev, mNeg_ev, mSeq_ev, mSkip_ev, bind_nx, bind_rt, bind_rtL, bind_bk, bind_ct, bind_ex, bind_ite, lift_ok, lift_exc, lift_ite, mAsg_ev, mAsgL_ev, mDrop_ev, mRet_ev, mRetL_ev, mRetN_ev, mRetOwn_ev, getO_own, mIfS_ev, mSet1_ev, onO_own, onO_val, mAppend_ev, putO_own, mAsgG_ev, optSO_some, gSet_ev, gsNil_ev, gsCons_ev, obind_some, gTupM_1, gTupM_2, gTupM_3, gTupM_4, gTupM_5, gTupM_6, mFor_ev, retD_nx, retD_rt, retD_rtL, retD_ex, retD_ite, retLs_rtL, retLs_ex, retLs_ite, nth_zero, nth_succ, set_zero, set_succ, add_int, add_str, add_lst, lcat_lst, sub_int', neg_int', lt_int', le_int', gt_int', ge_int', mod_int', fdiv_int, mul_int', mul_str', isN_non, isN_int, notN_non, notN_int, eq_int', ne_int', eq_str', ne_str', eq_bl', ne_bl', len_str', len_lst, len_tup, len_scr, max_int, min_int, sl_str', sl_lst, sl_scr, lsl_lst, lsl_scr, ix_str', ix_lst, ix_tup', ix_scr, range1_ok, range2_ok, range3_ok, mMeth_ev, onStr_str, mComp_ev, mCh_ev, wipeE_nil, wipeE_cons, mYes_ev, int_int, int_bl, asW_lst, asW_tup, asW_scr, asW_str, lt_str', le_str', gt_str', ge_str', mRaise_ev, sum_ints, all_bls, any_bls, list_lst, list_tup, list_scr, sorted_ints', g_find_ev, g_find3_ev, g_find4_ev, g_rfind_ev, g_rfind4_ev, g_count_ev, g_count3_ev, g_count4_ev, g_startswith_ev, g_endswith_ev, Int.reduceToNat, List.getD_cons_zero, List.getD_cons_succ, List.length_map, List.length_reverse, Int.zero_mul, Int.mul_zero, Int.add_zero, Int.mul_one, nc0, nc1, nc2, nc3, nc4, nc5, nc6, nc7, nc8, nc9, nc10, nc11, nc12, nc13, List.cons_append, List.nil_append, decide_true, decide_false, not_false_eq_true, not_true_eq_false, mCallR_ev, retLE_rtL, retDE_rt, flatR_bl, flatR_int, flatR_str, flatR_non, flatR_exc, getOwn_own, mMut0_ev, mSetIx_ev, putIx_ok, rev_lst, lrep_ev, if_small, if_small', rngL_len, endS_nx, endS_rt, in_sign, notIn_sign, isN_str, notN_str, isN_tup, notN_tup, isi_int_int, isi_int_bool, isi_bl_bool, isi_bl_int, isi_str_str, isi_tup_tup, isi_lst_lst, isi_non_int, isi_non_tup, _root_.FL.R.ok_bind, _root_.FL.R.exc_bind, _root_.FL.R.stuck_bind, _root_.FL.R.pure_eq, List.append_nil, List.length_cons, List.length_nil, Nat.zero_add, Nat.reduceAdd, Nat.reduceLeDiff, Nat.reduceLT, decide_eq_true_eq, if_true, if_false, ite_true, ite_false, Bool.true_eq_false, Bool.false_eq_true, Bool.not_true, Bool.not_false, reduceIte, Bool.not_eq_true', decide_eq_false_iff_not, ec, w2]
      rfl
    | told ct m =>
      have e2 : tD ctD n (.told ct m) = .tup [.str [116, 111, 108, 100], ctD ct, .int ((n + m : Nat) : Int)] := rfl
      rw [hc, e2] at ec
      have hm := countM_le hc
      rw [List.length_drop] at hm
      have hct : ct = [] ∨ (ct ≠ [] ∧ ∃ c, ctD ct = .int c) := by
        rcases count_dg hc with ⟨z, _⟩ | ⟨c, c1, c2, z, _, _⟩
        · exact .inl z
        · refine .inr ⟨fun y => ?_, c, by rw [z, ctD_dg c2 c1]⟩
          have := (dg_len c).1
          rw [← z, y] at this
          simp at this
      show _ = R.ok (fDs n (if (ks.drop n).drop m = [] then .half else (behindM sh ct ((ks.drop n).drop m)).sh m))
      rw [List.drop_drop]
      by_cases q : n + m = ks.length
      · have q' : ((n + m : Nat) : Int) = ks.length := by omega
        rw [if_pos (List.drop_eq_nil_iff.mpr (by omega))]
        simp -implicitDefEqProofs (disch := first | omega | (simp only [List.length_map, List.length_append, List.length_cons, List.length_nil, List.length_take, List.length_drop, repS_len, rngL_len, List.length_range, List.length_reverse]; done) | (simp only [List.length_map, List.length_append, List.length_cons, List.length_nil, List.length_take, List.length_drop, repS_len, rngL_len, List.length_range, List.length_reverse]; omega)) only [mVar_ev, mVarR_ev, getV_val, getR_val, getR_own, mC_ev, mOp_ev, mOpL_ev, mT_ev, asB_bl, mAnd_ev, mOr_ev, mNot_ev, mAndV_ev, mOrV_ev, mNotV_ev, mIf_ev, mNil_ev, mCons_ev, mTup_ev, mLst_ev, mCall_ev, mPn_ev, mPs_ev, asI_int, mSl_ev, mSlL_ev, asL_lst, asL_scr, asTp_tup, asSt_str, R_ite, mWalk_ev, mLe_ev, mNeg_ev, mSeq_ev, mSkip_ev, bind_nx, bind_rt, bind_rtL, bind_bk, bind_ct, bind_ex, bind_ite, lift_ok, lift_exc, lift_ite, mAsg_ev, mAsgL_ev, mDrop_ev, mRet_ev, mRetL_ev, mRetN_ev, mRetOwn_ev, getO_own, mIfS_ev, mSet1_ev, onO_own, onO_val, mAppend_ev, putO_own, mAsgG_ev, optSO_some, gSet_ev, gsNil_ev, gsCons_ev, obind_some, gTupM_1, gTupM_2, gTupM_3, gTupM_4, gTupM_5, gTupM_6, mFor_ev, retD_nx, retD_rt, retD_rtL, retD_ex, retD_ite, retLs_rtL, retLs_ex, retLs_ite, nth_zero, nth_succ, set_zero, set_succ, add_int, add_str, add_lst, lcat_lst, sub_int', neg_int', lt_int', le_int', gt_int', ge_int', mod_int', fdiv_int, mul_int', mul_str', isN_non, isN_int, notN_non, notN_int, eq_int', ne_int', eq_str', ne_str', eq_bl', ne_bl', len_str', len_lst, len_tup, len_scr, max_int, min_int, sl_str', sl_lst, sl_scr, lsl_lst, lsl_scr, ix_str', ix_lst, ix_tup', ix_scr, range1_ok, range2_ok, range3_ok, mMeth_ev, onStr_str, mComp_ev, mCh_ev, wipeE_nil, wipeE_cons, mYes_ev, int_int, int_bl, asW_lst, asW_tup, asW_scr, asW_str, lt_str', le_str', gt_str', ge_str', mRaise_ev, sum_ints, all_bls, any_bls, list_lst, list_tup, list_scr, sorted_ints', g_find_ev, g_find3_ev, g_find4_ev, g_rfind_ev, g_rfind4_ev, g_count_ev, g_count3_ev, g_count4_ev, g_startswith_ev, g_endswith_ev, Int.reduceToNat, List.getD_cons_zero, List.getD_cons_succ, List.length_map, List.length_reverse, Int.zero_mul, Int.mul_zero, Int.add_zero, Int.mul_one, nc0, nc1, nc2, nc3, nc4, nc5, nc6, nc7, nc8, nc9, nc10, nc11, nc12, nc13, List.cons_append, List.nil_append, decide_true, decide_false, not_false_eq_true, not_true_eq_false, mCallR_ev, retLE_rtL, retDE_rt, flatR_bl, flatR_int, flatR_str, flatR_non, flatR_exc, getOwn_own, mMut0_ev, mSetIx_ev, putIx_ok, rev_lst, lrep_ev, if_small, if_small', rngL_len, endS_nx, endS_rt, in_sign, notIn_sign, isN_str, notN_str, isN_tup, notN_tup, isi_int_int, isi_int_bool, isi_bl_bool, isi_bl_int, isi_str_str, isi_tup_tup, isi_lst_lst, isi_non_int, isi_non_tup, _root_.FL.R.ok_bind, _root_.FL.R.exc_bind, _root_.FL.R.stuck_bind, _root_.FL.R.pure_eq, List.append_nil, List.length_cons, List.length_nil, Nat.zero_add, Nat.reduceAdd, Nat.reduceLeDiff, Nat.reduceLT, decide_eq_true_eq, if_true, if_false, ite_true, ite_false, Bool.true_eq_false, Bool.false_eq_true, Bool.not_true, Bool.not_false, reduceIte, Bool.not_eq_true', decide_eq_false_iff_not, ec, q']
        rfl
      · have q' : ¬ ((n + m : Nat) : Int) = ks.length := by omega
        have eb := e_behind ks sh ct (n + m) hl (by omega) hct
        rw [if_neg (fun z => q (by have := List.drop_eq_nil_iff.mp z; omega)), ← fDs_sh]
        simp -implicitDefEqProofs (disch := first | omega | (simp only [List.length_map, List.length_append, List.length_cons, List.length_nil, List.length_take, List.length_drop, repS_len, rngL_len, List.length_range, List.length_reverse]; done) | (simp only [List.length_map, List.length_append, List.length_cons, List.length_nil, List.length_take, List.length_drop, repS_len, rngL_len, List.length_range, List.length_reverse]; omega)) only [mVar_ev, mVarR_ev, getV_val, getR_val, getR_own, mC_ev, mOp_ev, mOpL_ev, mT_ev, asB_bl, mAnd_ev, mOr_ev, mNot_ev, mAndV_ev, mOrV_ev, mNotV_ev, mIf_ev, mNil_ev, mCons_ev, mTup_ev, mLst_ev, mCall_ev, mPn_ev, mPs_ev, asI_int, mSl_ev, mSlL_ev, asL_lst, asL_scr, asTp_tup, asSt_str, R_ite, mWalk_ev, mLe_ev, mNeg_ev, mSeq_ev, mSkip_ev, bind_nx, bind_rt, bind_rtL, bind_bk, bind_ct, bind_ex, bind_ite, lift_ok, lift_exc, lift_ite, mAsg_ev, mAsgL_ev, mDrop_ev, mRet_ev, mRetL_ev, mRetN_ev, mRetOwn_ev, getO_own, mIfS_ev, mSet1_ev, onO_own, onO_val, mAppend_ev, putO_own, mAsgG_ev, optSO_some, gSet_ev, gsNil_ev, gsCons_ev, obind_some, gTupM_1, gTupM_2, gTupM_3, gTupM_4, gTupM_5, gTupM_6, mFor_ev, retD_nx, retD_rt, retD_rtL, retD_ex, retD_ite, retLs_rtL, retLs_ex, retLs_ite, nth_zero, nth_succ, set_zero, set_succ, add_int, add_str, add_lst, lcat_lst, sub_int', neg_int', lt_int', le_int', gt_int', ge_int', mod_int', fdiv_int, mul_int', mul_str', isN_non, isN_int, notN_non, notN_int, eq_int', ne_int', eq_str', ne_str', eq_bl', ne_bl', len_str', len_lst, len_tup, len_scr, max_int, min_int, sl_str', sl_lst, sl_scr, lsl_lst, lsl_scr, ix_str', ix_lst, ix_tup', ix_scr, range1_ok, range2_ok, range3_ok, mMeth_ev, onStr_str, mComp_ev, mCh_ev, wipeE_nil, wipeE_cons, mYes_ev, int_int, int_bl, asW_lst, asW_tup, asW_scr, asW_str, lt_str', le_str', gt_str', ge_str', mRaise_ev, sum_ints, all_bls, any_bls, list_lst, list_tup, list_scr, sorted_ints', g_find_ev, g_find3_ev, g_find4_ev, g_rfind_ev, g_rfind4_ev, g_count_ev, g_count3_ev, g_count4_ev, g_startswith_ev, g_endswith_ev, Int.reduceToNat, List.getD_cons_zero, List.getD_cons_succ, List.length_map, List.length_reverse, Int.zero_mul, Int.mul_zero, Int.add_zero, Int.mul_one, nc0, nc1, nc2, nc3, nc4, nc5, nc6, nc7, nc8, nc9, nc10, nc11, nc12, nc13, List.cons_append, List.nil_append, decide_true, decide_false, not_false_eq_true, not_true_eq_false, mCallR_ev, retLE_rtL, retDE_rt, flatR_bl, flatR_int, flatR_str, flatR_non, flatR_exc, getOwn_own, mMut0_ev, mSetIx_ev, putIx_ok, rev_lst, lrep_ev, if_small, if_small', rngL_len, endS_nx, endS_rt, in_sign, notIn_sign, isN_str, notN_str, isN_tup, notN_tup, isi_int_int, isi_int_bool, isi_bl_bool, isi_bl_int, isi_str_str, isi_tup_tup, isi_lst_lst, isi_non_int, isi_non_tup, _root_.FL.R.ok_bind, _root_.FL.R.exc_bind, _root_.FL.R.stuck_bind, _root_.FL.R.pure_eq, List.append_nil, List.length_cons, List.length_nil, Nat.zero_add, Nat.reduceAdd, Nat.reduceLeDiff, Nat.reduceLT, decide_eq_true_eq, if_true, if_false, ite_true, ite_false, Bool.true_eq_false, Bool.false_eq_true, Bool.not_true, Bool.not_false, reduceIte, Bool.not_eq_true', decide_eq_false_iff_not, ec, q', eb]

/-! ### phrases that may be written, their keys -/
def tgtS : List Nat := [67, 89, 88, 71, 83, 68, 70, 74]
def IsMove (t : List Nat) : Prop := (∃ k ∈ moveS, t = [k]) ∨ (∃ l ∈ letS, t = [109, l]) ∨ ∃ s, isSg s = true ∧ (t = [102, s] ∨ t = [116, s])
def IsThing (t : List Nat) : Prop := ∃ k ∈ thingS, t = [k]
def TyOk (v ty : List Nat) : Prop :=
  if v = [88] ∨ v = [84] then ∀ c ∈ ty, c = 10 ∨ isSg c = true
  else if v = [58] then ∀ c ∈ ty, c = 126 ∨ isSg c = true
  else if v ∉ [[82], [86], [77], [75], [64]] then ty = [] else ∃ k, ty = [k] ∧ fitsM v k = true
def endM (v : List Nat) : List Nat := if v = [88] ∨ v = [84] then [126] else if v = [58] then [10] else []
structure Valid (p : Phr) : Prop where
  v : p.v = [] ∨ ∃ k ∈ verbS, p.v = [k]
  sh : p.sh = [] ∨ ∃ l ∈ letS, p.sh = [l] ∧ ∃ k ∈ [67, 89, 88, 80], p.v = [k]
  ct : p.ct = [] ∨ ((∃ c, 1 ≤ c ∧ c < 1000 ∧ p.ct = dg c) ∧ ∀ k ∈ [77, 75, 86, 58], p.v ≠ [k])
  tg : (p.v = [] ∧ IsMove p.tg) ∨ (∃ k ∈ tgtS, p.v = [k] ∧ (IsMove p.tg ∨ IsThing p.tg)) ∨ (p.v ≠ [] ∧ (∀ k ∈ tgtS, p.v ≠ [k]) ∧ p.tg = [])
  ty : TyOk p.v p.ty
def bodyM (p : Phr) : List Nat := p.v ++ (p.tg ++ (p.ty ++ endM p.v))
def keysM (p : Phr) : List Nat := (if p.sh = [] then [] else 34 :: p.sh) ++ (p.ct ++ bodyM p)
theorem sg_bd {c : Nat} (h : isSg c = true) : 32 ≤ c ∧ c ≤ 125 ∧ c ≠ 37 := of_decide_eq_true h
theorem move_no : ∀ k ∈ moveS, k ∉ verbS ∧ 58 ≤ k := by decide
theorem verb_no : ∀ k ∈ verbS, k ≠ 34 ∧ k ∉ figS := by decide
theorem not_fig {k : Nat} (h : 58 ≤ k) : k ∉ figS := fun z => by have := (fig_iff k).mp z; omega
theorem ended_told {m b : Nat} (hm : isSg m = false) (hb : b ≠ m) : ∀ (ty r : List Nat), (∀ c ∈ ty, c = b ∨ isSg c = true) → endedM m b (ty ++ m :: r) = .told ty (ty.length + 1)
  | [], r, _ => if_pos rfl
  | c :: ty, r, h => by
    have ih := ended_told hm hb ty r fun x hx => h x (List.mem_cons_of_mem _ hx)
    have hc := h c (List.mem_cons_self ..)
    have c1 : ¬ c = m := fun z => by
      rcases hc with y | y
      · exact hb (y ▸ z)
      · rw [z, hm] at y; cases y
    have c2 : ¬ (c ≠ b ∧ isSg c = false) := fun z => by
      rcases hc with y | y
      · exact z.1 y
      · rw [z.2] at y; cases y
    show (if c = m then TT.told [] 1 else if c ≠ b ∧ isSg c = false then .non 1 else
      match endedM m b (ty ++ m :: r) with
      | .half => .half
      | .non n => .non (n + 1)
      | .told a n => .told (c :: a) (n + 1)) = _
    rw [if_neg c1, if_neg c2, ih]; rfl
theorem ended_half {m b : Nat} (hm : isSg m = false) (hb : b ≠ m) : ∀ (ty : List Nat), (∀ c ∈ ty, c = b ∨ isSg c = true) → endedM m b ty = .half
  | [], _ => rfl
  | c :: ty, h => by
    have ih := ended_half hm hb ty fun x hx => h x (List.mem_cons_of_mem _ hx)
    have hc := h c (List.mem_cons_self ..)
    have c1 : ¬ c = m := fun z => by
      rcases hc with y | y
      · exact hb (y ▸ z)
      · rw [z, hm] at y; cases y
    have c2 : ¬ (c ≠ b ∧ isSg c = false) := fun z => by
      rcases hc with y | y
      · exact z.1 y
      · rw [z.2] at y; cases y
    show (if c = m then TT.told [] 1 else if c ≠ b ∧ isSg c = false then .non 1 else
      match endedM m b ty with
      | .half => .half
      | .non n => .non (n + 1)
      | .told a n => .told (c :: a) (n + 1)) = _
    rw [if_neg c1, if_neg c2, ih]
theorem sg126 : isSg 126 = false := by decide
theorem sg10 : isSg 10 = false := by decide
theorem typed_told {v ty : List Nat} (h : TyOk v ty) (r : List Nat) : typedM v (ty ++ (endM v ++ r)) = .told ty (ty.length + (endM v).length) := by
  unfold TyOk at h
  unfold typedM endM
  by_cases q1 : v = [88] ∨ v = [84]
  · rw [if_pos q1] at h
    rw [if_pos q1, if_pos q1]
    exact ended_told sg126 (by decide) ty r h
  · rw [if_neg q1] at h
    rw [if_neg q1, if_neg q1]
    by_cases q2 : v = [58]
    · rw [if_pos q2] at h
      rw [if_pos q2, if_pos q2]
      exact ended_told sg10 (by decide) ty r h
    · rw [if_neg q2] at h
      rw [if_neg q2, if_neg q2]
      by_cases q3 : v ∉ [[82], [86], [77], [75], [64]]
      · rw [if_pos q3] at h
        rw [if_pos q3, h]; rfl
      · rw [if_neg q3] at h
        obtain ⟨k, rfl, hk⟩ := h
        rw [if_neg q3]
        show (if fitsM v k = true then TT.told [k] 1 else .non 1) = _
        rw [if_pos hk]; rfl
theorem typed_half {v ty : List Nat} (h : TyOk v ty) {j : Nat} (hj : j < ty.length + (endM v).length) : typedM v ((ty ++ endM v).take j) = .half := by
  unfold TyOk at h
  unfold endM at hj ⊢
  unfold typedM
  by_cases q1 : v = [88] ∨ v = [84]
  · rw [if_pos q1] at h hj ⊢
    rw [if_pos q1]
    have hj : j ≤ ty.length := by simp at hj; omega
    rw [List.take_append_of_le_length hj]
    exact ended_half sg126 (by decide) _ fun c hc => h c (List.mem_of_mem_take hc)
  · rw [if_neg q1] at h hj ⊢
    rw [if_neg q1]
    by_cases q2 : v = [58]
    · rw [if_pos q2] at h hj ⊢
      rw [if_pos q2]
      have hj : j ≤ ty.length := by simp at hj; omega
      rw [List.take_append_of_le_length hj]
      exact ended_half sg10 (by decide) _ fun c hc => h c (List.mem_of_mem_take hc)
    · rw [if_neg q2] at h hj ⊢
      rw [if_neg q2]
      by_cases q3 : v ∉ [[82], [86], [77], [75], [64]]
      · rw [if_pos q3] at h
        rw [h] at hj
        simp at hj
      · rw [if_neg q3] at h
        obtain ⟨k, rfl, hk⟩ := h
        have hj : j = 0 := by simp at hj; omega
        rw [if_neg q3, hj]; rfl
theorem let_no : ∀ l ∈ letS, 97 ≤ l ∧ l ≤ 122 := by decide
theorem target_move {t : List Nat} (th : Bool) (h : IsMove t) (r : List Nat) : targetM th (t ++ r) = .told t t.length := by
  rcases h with ⟨k, hk, rfl⟩ | ⟨l, hl, rfl⟩ | ⟨s, hs, rfl | rfl⟩
  · show targetM th (k :: r) = _
    rw [targetM_cons, if_pos (.inl hk)]; rfl
  · show targetM th (109 :: l :: r) = _
    rw [targetM_cons, if_neg (fun z => z.elim (fun y => absurd y (by decide)) fun y => absurd y.2 (by decide)), if_neg (by decide)]
    show (if (109 = 109 ∧ l ∈ letS) ∨ (109 ≠ 109 ∧ isSg l = true) then TT.told [109, l] 2 else .non 2) = _
    rw [if_pos (.inl ⟨rfl, hl⟩)]; rfl
  · show targetM th (102 :: s :: r) = _
    rw [targetM_cons, if_neg (fun z => z.elim (fun y => absurd y (by decide)) fun y => absurd y.2 (by decide)), if_neg (by decide)]
    show (if (102 = 109 ∧ s ∈ letS) ∨ (102 ≠ 109 ∧ isSg s = true) then TT.told [102, s] 2 else .non 2) = _
    rw [if_pos (.inr ⟨by decide, hs⟩)]; rfl
  · show targetM th (116 :: s :: r) = _
    rw [targetM_cons, if_neg (fun z => z.elim (fun y => absurd y (by decide)) fun y => absurd y.2 (by decide)), if_neg (by decide)]
    show (if (116 = 109 ∧ s ∈ letS) ∨ (116 ≠ 109 ∧ isSg s = true) then TT.told [116, s] 2 else .non 2) = _
    rw [if_pos (.inr ⟨by decide, hs⟩)]; rfl
theorem target_thing {t : List Nat} (h : IsThing t) (r : List Nat) : targetM true (t ++ r) = .told t t.length := by
  obtain ⟨k, hk, rfl⟩ := h
  show targetM true (k :: r) = _
  rw [targetM_cons, if_pos (.inr ⟨rfl, hk⟩)]; rfl
theorem target_half {t : List Nat} (th : Bool) (h : IsMove t ∨ IsThing t) {j : Nat} (hj : j < t.length) : targetM th (t.take j) = .half := by
  cases j with
  | zero => rfl
  | succ j =>
    have two : ∀ k l, (k = 109 ∨ k = 102 ∨ k = 116) → t = [k, l] → targetM th (t.take (j + 1)) = .half := fun k l hk e => by
      rw [e] at hj ⊢
      have hj0 : j = 0 := by simp at hj; omega
      rw [hj0]
      rcases hk with rfl | rfl | rfl <;> cases th <;> rfl
    rcases h with (⟨k, _, e⟩ | ⟨l, _, e⟩ | ⟨s, _, e | e⟩) | ⟨k, _, e⟩
    · rw [e] at hj; simp at hj
    · exact two _ _ (.inl rfl) e
    · exact two _ _ (.inr (.inl rfl)) e
    · exact two _ _ (.inr (.inr rfl)) e
    · rw [e] at hj; simp at hj
theorem move_head {t : List Nat} (h : IsMove t) : ∃ k r, t = k :: r ∧ k ∉ verbS ∧ 58 ≤ k := by
  rcases h with ⟨k, hk, rfl⟩ | ⟨l, hl, rfl⟩ | ⟨s, hs, rfl | rfl⟩
  · exact ⟨k, [], rfl, (move_no k hk).1, (move_no k hk).2⟩
  · exact ⟨109, [l], rfl, by decide, by decide⟩
  · exact ⟨102, [s], rfl, by decide, by decide⟩
  · exact ⟨116, [s], rfl, by decide, by decide⟩
/-- the body's first key -/
theorem body_head {p : Phr} (h : Valid p) : ∃ k r, bodyM p = k :: r ∧ k ≠ 34 ∧ k ∉ figS ∧ verbM k = p.v := by
  rcases h.v with e | ⟨k, hk, e⟩
  · rcases h.tg with ⟨_, hm⟩ | ⟨k, _, e', _⟩ | ⟨e', _⟩
    · obtain ⟨k, r, et, h1, h2⟩ := move_head hm
      refine ⟨k, r ++ (p.ty ++ endM p.v), by unfold bodyM; rw [e, et]; rfl, by omega, not_fig h2, ?_⟩
      rw [e]; exact if_neg h1
    · rw [e] at e'; cases e'
    · exact absurd e e'
  · refine ⟨k, p.tg ++ (p.ty ++ endM p.v), by unfold bodyM; rw [e]; rfl, (verb_no k hk).1, (verb_no k hk).2, ?_⟩
    rw [e]; exact if_pos hk
/-- neither its shelf nor its count is too much -/
theorem behind_ok {p : Phr} (h : Valid p) {s : List Nat} (hs : verbM (s.getD 0 0) = p.v) : behindM p.sh p.ct s = restM p.sh p.ct p.v s (tgtM p.v s) := by
  rw [behindM_eq, hs]
  have hk : ∀ k, p.v = [k] → s.getD 0 0 = k := fun k e => by
    rw [e] at hs
    unfold verbM at hs
    split at hs
    · exact (List.cons.inj hs).1
    · cases hs
  rw [if_neg, if_neg]
  · rintro ⟨c1, c2, c3⟩
    rcases h.ct with z | ⟨_, z⟩
    · exact c1 z
    · rcases h.v with y | ⟨k, _, y⟩
      · exact c2 y
      · exact z k (by rw [hk k y] at c3; exact c3) y
  · rintro ⟨c1, c2⟩
    rcases h.sh with z | ⟨l, _, _, k, hk2, z⟩
    · exact c1 z
    · rcases c2 with y | y
      · rw [z] at y; cases y
      · rw [hk k z] at y; exact y hk2
theorem tgt_of {v : List Nat} {k : Nat} (e : v = [k]) (s : List Nat) : tgtM v s = if k ∈ tgtS then (targetM true s.tail).sh 1 else .told [] 1 := by
  rw [e]
  unfold tgtM
  rw [if_neg (List.cons_ne_nil _ _)]; rfl
theorem behind_told {p : Phr} (h : Valid p) (r : List Nat) : behindM p.sh p.ct (bodyM p ++ r) = .told p (bodyM p).length := by
  obtain ⟨k0, r0, e0, _, _, ev⟩ := body_head h
  have ty := typed_told h.ty r
  have key : tgtM p.v (bodyM p ++ r) = .told p.tg (p.v.length + p.tg.length) := by
    rcases h.tg with ⟨e, hm⟩ | ⟨k, hk, e, hm⟩ | ⟨e, hk, et⟩
    · unfold bodyM tgtM
      rw [e, if_pos rfl]
      show targetM false (([] ++ (p.tg ++ (p.ty ++ endM []))) ++ r) = _
      rw [List.nil_append, List.append_assoc, target_move false hm]
      show _ = TT.told p.tg (0 + _)
      rw [Nat.zero_add]
    · rw [tgt_of e, if_pos hk]
      unfold bodyM
      rw [e]
      show (targetM true ((p.tg ++ (p.ty ++ endM [k])) ++ r)).sh 1 = _
      rw [List.append_assoc]
      rcases hm with hm | hm
      · rw [target_move true hm]; rfl
      · rw [target_thing hm]; rfl
    · rcases h.v with z | ⟨k, _, z⟩
      · exact absurd z e
      · rw [tgt_of z, if_neg (fun y => hk k y z), et, z]; rfl
  rw [behind_ok h (by rw [e0]; exact ev), key]
  show (match typedM p.v ((bodyM p ++ r).drop (p.v.length + p.tg.length)) with
    | .half => TT.half
    | .non m => .non (p.v.length + p.tg.length + m)
    | .told ty m => TT.told (Phr.mk p.sh p.ct p.v p.tg ty) (p.v.length + p.tg.length + m)) = _
  have ed : (bodyM p ++ r).drop (p.v.length + p.tg.length) = p.ty ++ (endM p.v ++ r) := by
    unfold bodyM
    rw [← List.append_assoc, ← List.length_append, List.append_assoc (p.v ++ p.tg), List.drop_left, List.append_assoc]
  rw [ed, ty]
  show TT.told _ _ = _
  congr 1
  unfold bodyM
  simp only [List.length_append]
  omega
theorem behind_half {p : Phr} (h : Valid p) {j : Nat} (hj : j < (bodyM p).length) (hj0 : 0 < j) : behindM p.sh p.ct ((bodyM p).take j) = .half := by
  obtain ⟨k0, r0, e0, _, _, ev⟩ := body_head h
  have hl : (bodyM p).length = p.v.length + (p.tg.length + (p.ty.length + (endM p.v).length)) := by unfold bodyM; simp only [List.length_append]
  rw [behind_ok h (by rw [e0]; cases j with | zero => omega | succ j => exact ev)]
  have typ : ∀ n, n = p.v.length + p.tg.length → n ≤ j → typedM p.v (((bodyM p).take j).drop n) = .half := fun n hn hle => by
    rw [List.drop_take]
    have ed : (bodyM p).drop n = p.ty ++ endM p.v := by
      unfold bodyM
      rw [hn, ← List.append_assoc, ← List.length_append, List.drop_left]
    rw [ed]
    exact typed_half h.ty (by omega)
  rcases h.tg with ⟨e, hm⟩ | ⟨k, hk, e, hm⟩ | ⟨e, hk, et⟩
  · have hty : p.ty = [] ∧ endM p.v = [] := by
      have := h.ty
      unfold TyOk at this
      rw [e, if_neg (by decide), if_neg (by decide), if_pos (by decide)] at this
      exact ⟨this, by rw [e]; rfl⟩
    have eb : bodyM p = p.tg := by unfold bodyM; rw [e, hty.1, ← e, hty.2, e]; simp
    rw [eb] at hj ⊢
    have et : tgtM p.v (p.tg.take j) = .half := by
      unfold tgtM
      rw [e, if_pos rfl]
      exact target_half false (.inl hm) hj
    rw [et]; rfl
  · rw [tgt_of e, if_pos hk]
    have lv : p.v.length = 1 := by rw [e]; rfl
    have etl : ((bodyM p).take j).tail = (p.tg ++ (p.ty ++ endM p.v)).take (j - 1) := by
      unfold bodyM
      rw [e]
      cases j with
      | zero => omega
      | succ j => rfl
    rw [etl]
    by_cases q : j - 1 < p.tg.length
    · rw [List.take_append_of_le_length (by omega), target_half true hm q]; rfl
    · rw [List.take_append, List.take_of_length_le (l := p.tg) (by omega)]
      have tt : targetM true (p.tg ++ (p.ty ++ endM p.v).take (j - 1 - p.tg.length)) = .told p.tg p.tg.length := by
        rcases hm with hm | hm
        · exact target_move true hm _
        · exact target_thing hm _
      rw [tt]
      show (match typedM p.v (((bodyM p).take j).drop (1 + p.tg.length)) with
        | .half => TT.half
        | .non m => .non (1 + p.tg.length + m)
        | .told ty m => TT.told (Phr.mk p.sh p.ct p.v p.tg ty) (1 + p.tg.length + m)) = _
      rw [typ _ (by rw [lv]) (by omega)]
  · rcases h.v with z | ⟨k, _, z⟩
    · exact absurd z e
    · have lv : p.v.length = 1 := by rw [z]; rfl
      rw [tgt_of z, if_neg (fun y => hk k y z)]
      show (match typedM p.v (((bodyM p).take j).drop 1) with
        | .half => TT.half
        | .non m => .non (1 + m)
        | .told ty m => TT.told (Phr.mk p.sh p.ct p.v [] ty) (1 + m)) = _
      rw [typ 1 (by rw [lv, et]; rfl) (by omega)]
theorem figs_app {ct r : List Nat} (h : ∀ d ∈ ct, d ∈ figS) (hr : r = [] ∨ ∃ k s, r = k :: s ∧ k ∉ figS) : figs (ct ++ r) = ct := by
  induction ct with
  | nil =>
    rcases hr with rfl | ⟨k, s, rfl, hk⟩
    · rfl
    · exact List.takeWhile_cons_of_neg (by rw [decide_eq_false hk]; decide)
  | cons c ct ih =>
    have e : figs (c :: (ct ++ r)) = c :: figs (ct ++ r) := List.takeWhile_cons_of_pos (decide_eq_true (h c (List.mem_cons_self ..)))
    show figs (c :: (ct ++ r)) = _
    rw [e, ih fun d hd => h d (List.mem_cons_of_mem _ hd)]
theorem count_told {ct r : List Nat} (h : ct = [] ∨ ∃ c, 1 ≤ c ∧ c < 1000 ∧ ct = dg c) (hr : r = [] ∨ ∃ k s, r = k :: s ∧ k ∉ figS) : countM (ct ++ r) = .told ct ct.length := by
  have hm : ∀ d ∈ ct, d ∈ figS := fun d hd => by
    rcases h with z | ⟨c, _, h2, z⟩
    · rw [z] at hd; cases hd
    · rw [z] at hd
      exact (fig_iff d).mpr (dg_mem h2 hd)
  unfold countM
  rw [figs_app hm hr]
  rcases h with z | ⟨c, h1, h2, z⟩
  · rw [if_pos z, z]; rfl
  · have hl := dg_len c
    rw [← z] at hl
    have hh := dg_head h2 h1
    rw [← z] at hh
    have ne : ct ≠ [] := fun y => by rw [y] at hl; simp at hl
    have hg : (ct ++ r).getD 0 0 = ct.getD 0 0 := by
      rw [List.getD_eq_getElem?_getD, List.getElem?_append_left (by omega), ← List.getD_eq_getElem?_getD]
    rw [if_neg ne, if_neg (by rw [hg]; exact hh), if_neg (by omega)]
theorem Valid.ct' {p : Phr} (h : Valid p) : p.ct = [] ∨ ∃ c, 1 ≤ c ∧ c < 1000 ∧ p.ct = dg c := h.ct.imp id And.left
theorem after_told {p : Phr} (h : Valid p) (r : List Nat) : afterM p.sh (p.ct ++ bodyM p ++ r) = .told p (p.ct ++ bodyM p).length := by
  obtain ⟨k0, r0, e0, _, hf, ev⟩ := body_head h
  unfold afterM
  rw [List.append_assoc, count_told h.ct' (.inr ⟨k0, r0 ++ r, by rw [e0]; rfl, hf⟩)]
  show (if (p.ct ++ (bodyM p ++ r)).drop p.ct.length = [] then TT.half else (behindM p.sh p.ct ((p.ct ++ (bodyM p ++ r)).drop p.ct.length)).sh p.ct.length) = _
  rw [List.drop_left, if_neg (by rw [e0]; exact List.cons_ne_nil _ _), behind_told h, List.length_append]; rfl
theorem after_half {p : Phr} (h : Valid p) {j : Nat} (hj : j < (p.ct ++ bodyM p).length) : afterM p.sh ((p.ct ++ bodyM p).take j) = .half := by
  obtain ⟨k0, r0, e0, _, hf, ev⟩ := body_head h
  rw [List.length_append] at hj
  unfold afterM
  by_cases q : j ≤ p.ct.length
  · rw [List.take_append_of_le_length q]
    have ht : p.ct.take j = [] ∨ ∃ c, 1 ≤ c ∧ c < 1000 ∧ p.ct.take j = dg c := by
      by_cases z : j = 0
      · left; rw [z]; rfl
      · rcases h.ct' with y | ⟨c, h1, h2, y⟩
        · left; rw [y]; simp
        · obtain ⟨c', g1, g2, g3⟩ := dg_take (k := j) h2 h1 (by omega) (by rw [← y]; exact q)
          exact .inr ⟨c', g1, g2, by rw [y]; exact g3⟩
    have := count_told ht (.inl rfl)
    rw [List.append_nil] at this
    rw [this]
    show (if (p.ct.take j).drop (p.ct.take j).length = [] then TT.half else _) = _
    rw [List.drop_length, if_pos rfl]
  · have e : (p.ct ++ bodyM p).take j = p.ct ++ (bodyM p).take (j - p.ct.length) := by
      rw [List.take_append, List.take_of_length_le (by omega)]
    have eb : ∃ s, (bodyM p).take (j - p.ct.length) = k0 :: s := by
      rw [e0]
      cases hh : j - p.ct.length with
      | zero => omega
      | succ m => exact ⟨_, rfl⟩
    obtain ⟨s, es⟩ := eb
    rw [e, count_told h.ct' (.inr ⟨k0, s, es, hf⟩)]
    show (if (p.ct ++ (bodyM p).take (j - p.ct.length)).drop p.ct.length = [] then TT.half else (behindM p.sh p.ct ((p.ct ++ (bodyM p).take (j - p.ct.length)).drop p.ct.length)).sh p.ct.length) = _
    rw [List.drop_left, if_neg (by rw [es]; exact List.cons_ne_nil _ _), behind_half h (by omega) (by omega)]; rfl
theorem head_ne {p : Phr} (h : Valid p) : ∃ k r, p.ct ++ bodyM p = k :: r ∧ k ≠ 34 := by
  obtain ⟨k0, r0, e0, h34, hf, ev⟩ := body_head h
  rcases h.ct' with z | ⟨c, h1, h2, z⟩
  · exact ⟨k0, r0, by rw [z, e0]; rfl, h34⟩
  · cases hd : dg c with
    | nil => have := (dg_len c).1; rw [hd] at this; simp at this
    | cons d ds =>
      have := dg_mem h2 (show d ∈ dg c by rw [hd]; exact List.mem_cons_self ..)
      exact ⟨d, ds ++ bodyM p, by rw [z, hd]; rfl, by omega⟩
theorem shelf_no {k : Nat} {r : List Nat} (h : k ≠ 34) : shelfM (k :: r) = .told [] 0 := if_neg h
theorem shelf_yes {l : Nat} {r : List Nat} (h : l ∈ letS) : shelfM (34 :: l :: r) = .told [l] 2 := by
  show (if 34 = 34 then (if l ∈ letS then TT.told [l] 2 else .non 2) else .told [] 0) = _
  rw [if_pos rfl, if_pos h]
theorem sh0 {α : Type} (T : TT α) : T.sh 0 = T := by
  cases T with
  | half => rfl
  | non n => show TT.non (0 + n) = _; rw [Nat.zero_add]
  | told a n => show TT.told a (0 + n) = _; rw [Nat.zero_add]
theorem first_told {p : Phr} (h : Valid p) (r : List Nat) : firstM (keysM p ++ r) = .told p (keysM p).length := by
  unfold firstM keysM
  rcases h.sh with z | ⟨l, hl, z, _⟩
  · obtain ⟨k, s, e, hk⟩ := head_ne h
    have a := after_told h r
    rw [z] at a
    rw [if_pos z, List.nil_append]
    have es : shelfM (p.ct ++ bodyM p ++ r) = .told [] 0 := by rw [e]; exact shelf_no hk
    rw [es]
    show (afterM [] ((p.ct ++ bodyM p ++ r).drop 0)).sh 0 = _
    rw [sh0, List.drop_zero, a]
  · have a := after_told h r
    rw [if_neg (by rw [z]; exact List.cons_ne_nil _ _)]
    have e : 34 :: p.sh ++ (p.ct ++ bodyM p) ++ r = 34 :: l :: (p.ct ++ bodyM p ++ r) := by rw [z]; rfl
    rw [e, shelf_yes hl]
    show (afterM [l] ((34 :: l :: (p.ct ++ bodyM p ++ r)).drop 2)).sh 2 = _
    rw [z] at a
    show (afterM [l] (p.ct ++ bodyM p ++ r)).sh 2 = _
    rw [a]
    show TT.told p (2 + _) = _
    rw [z]
    congr 1
    show 2 + _ = (34 :: l :: (p.ct ++ bodyM p)).length
    rw [List.length_cons, List.length_cons]
    omega
theorem first_half {p : Phr} (h : Valid p) {j : Nat} (hj : j < (keysM p).length) : firstM ((keysM p).take j) = .half := by
  unfold keysM at hj ⊢
  rcases h.sh with z | ⟨l, hl, z, _⟩
  · obtain ⟨k, s, e, hk⟩ := head_ne h
    rw [if_pos z, List.nil_append] at hj ⊢
    have a := after_half h hj
    rw [z] at a
    have es : shelfM ((p.ct ++ bodyM p).take j) = .told [] 0 := by
      rw [e]
      cases j with
      | zero => rfl
      | succ j => exact shelf_no hk
    unfold firstM
    rw [es]
    show (afterM [] (((p.ct ++ bodyM p).take j).drop 0)).sh 0 = _
    rw [sh0, List.drop_zero, a]
  · rw [if_neg (by rw [z]; exact List.cons_ne_nil _ _)] at hj ⊢
    have e : 34 :: p.sh ++ (p.ct ++ bodyM p) = 34 :: l :: (p.ct ++ bodyM p) := by rw [z]; rfl
    rw [e] at hj ⊢
    match j, hj with
    | 0, _ => rfl
    | 1, _ => rfl
    | j + 2, hj =>
      have a := after_half h (j := j) (by rw [List.length_cons, List.length_cons] at hj; omega)
      rw [z] at a
      unfold firstM
      show (match shelfM (34 :: l :: (p.ct ++ bodyM p).take j) with
        | .half => TT.half
        | .non n => .non n
        | .told sh n => (afterM sh ((34 :: l :: (p.ct ++ bodyM p).take j).drop n)).sh n) = _
      rw [shelf_yes hl]
      show (afterM [l] ((p.ct ++ bodyM p).take j)).sh 2 = _
      rw [a]; rfl

theorem mul_cell (c k : Int) (h : c.natAbs < 2 ^ 1048576) (hk : k.natAbs < 18446744073709551616) : D.mul (.int c) (.int k) = .ok (.int (c * k)) :=
  mul_big c k (Nat.lt_of_lt_of_le h (Nat.pow_le_pow_right (by decide) (by decide))) (big_pow hk (by decide))
theorem div_cell (c d : Int) (hd : 0 < d) (h : c.natAbs < 2 ^ 1048576) : (c / d).natAbs < 2 ^ 1048576 := Nat.lt_of_le_of_lt (ediv_abs c d hd) h
theorem cell_bd {ns : List Int} (hb : ∀ k ∈ ns, k.natAbs < 2 ^ 1048576) (i : Nat) : (ns.getD i 0).natAbs < 2 ^ 1048576 := by
  by_cases z : i < ns.length
  · rw [List.getD_eq_getElem?_getD, List.getElem?_eq_getElem z]; exact hb _ (List.getElem_mem z)
  · rw [List.getD_eq_getElem?_getD, List.getElem?_eq_none (by omega)]; exact Nat.pow_pos (by decide)
theorem big_sum {a b : Nat} (h : a < 2 ^ 1048576) (h' : b < 18446744073709551616) : a + b < 2 ^ 40000000 := by
  have hb : b < 2 ^ 1048576 := big_pow h' (by decide)
  have e : a + b < 2 ^ (1048576 + 1) := by
    rw [Nat.two_pow_succ]
    exact Nat.add_lt_add h hb
  exact Nat.lt_of_lt_of_le e (Nat.pow_le_pow_right (by decide) (by decide))
theorem mul_sum (c d k : Int) (h : c.natAbs < 2 ^ 1048576) (h' : d.natAbs < 18446744073709551616) (hk : k.natAbs < 18446744073709551616) : D.mul (.int (c + d)) (.int k) = .ok (.int ((c + d) * k)) :=
  mul_big (c + d) k (Nat.lt_of_le_of_lt (Int.natAbs_add_le c d) (big_sum h h')) (big_pow hk (by decide))

/-! ### the law's phrases -/
def someS : List Nat := ks_7109b8 ++ ks_006d57
theorem someS_sg : ∀ s ∈ someS, isSg s = true := by decide +kernel
theorem getD_mem {l : List Nat} {i : Nat} (h : i < l.length) : l.getD i 0 ∈ l := by
  rw [List.getD_eq_getElem?_getD, List.getElem?_eq_getElem h]; exact List.getElem_mem h
theorem e_sign_by (c : Int) : ∃ s, isSg s = true ∧ p__law_sign_by [.int c] = .ok (.str [s]) := by
  rw [u__law_sign_by]; unfold b__law_sign_by
  have h := mod_bd c (b := 93) (by omega)
  have z1 : ks_7109b8.length = 64 := rfl
  have z2 : ks_006d57.length = 29 := rfl
  refine ⟨someS.getD (c % 93).toNat 0, someS_sg _ (getD_mem (by show _ < 93; omega)), ?_⟩
  simp -implicitDefEqProofs (disch := first | omega | (simp only [List.length_map, List.length_append, List.length_cons, List.length_nil, List.length_take, List.length_drop, repS_len, rngL_len, List.length_range, List.length_reverse]; done) | (simp only [List.length_map, List.length_append, List.length_cons, List.length_nil, List.length_take, List.length_drop, repS_len, rngL_len, List.length_range, List.length_reverse]; omega)) only [mVar_ev, mVarR_ev, getV_val, getR_val, getR_own, mC_ev, mOp_ev, mOpL_ev, mT_ev, asB_bl, mAnd_ev, mOr_ev, mNot_ev, mAndV_ev, mOrV_ev, mNotV_ev, mIf_ev, mNil_ev, mCons_ev, mTup_ev, mLst_ev, mCall_ev, mPn_ev, mPs_ev, asI_int, mSl_ev, mSlL_ev, asL_lst, asL_scr, asTp_tup, asSt_str, R_ite, mWalk_ev, mLe_ev, mNeg_ev, mSeq_ev, mSkip_ev, bind_rt, bind_rtL, bind_bk, bind_ct, bind_ex, bind_ite, lift_ok, lift_exc, lift_ite, mAsg_ev, mAsgL_ev, mDrop_ev, mRet_ev, mRetL_ev, mRetN_ev, mRetOwn_ev, getO_own, mIfS_ev, mSet1_ev, onO_own, onO_val, mAppend_ev, putO_own, mAsgG_ev, optSO_some, gSet_ev, gsNil_ev, gsCons_ev, obind_some, gTupM_1, gTupM_2, gTupM_3, gTupM_4, gTupM_5, gTupM_6, mFor_ev, retD_nx, retD_rt, retD_rtL, retD_ex, retD_ite, retLs_rtL, retLs_ex, retLs_ite, nth_zero, nth_succ, set_zero, set_succ, add_int, add_str, add_lst, lcat_lst, sub_int', neg_int', lt_int', le_int', gt_int', ge_int', mod_int', fdiv_int, mul_int', mul_str', isN_non, isN_int, notN_non, notN_int, eq_int', ne_int', eq_str', ne_str', eq_bl', ne_bl', len_str', len_lst, len_tup, len_scr, max_int, min_int, sl_str', sl_lst, sl_scr, lsl_lst, lsl_scr, ix_str', ix_lst, ix_tup', ix_scr, range1_ok, range2_ok, range3_ok, mMeth_ev, onStr_str, mComp_ev, mCh_ev, wipeE_nil, wipeE_cons, mYes_ev, int_int, int_bl, asW_lst, asW_tup, asW_scr, asW_str, lt_str', le_str', gt_str', ge_str', mRaise_ev, sum_ints, all_bls, any_bls, list_lst, list_tup, list_scr, sorted_ints', g_find_ev, g_find3_ev, g_find4_ev, g_rfind_ev, g_rfind4_ev, g_count_ev, g_count3_ev, g_count4_ev, g_startswith_ev, g_endswith_ev, Int.reduceToNat, List.getD_cons_zero, List.getD_cons_succ, List.length_map, List.length_reverse, Int.zero_mul, Int.mul_zero, Int.add_zero, Int.mul_one, nc0, nc1, nc2, nc3, nc4, nc5, nc6, nc7, nc8, nc9, nc10, nc11, nc12, nc13, List.cons_append, List.nil_append, decide_true, decide_false, not_false_eq_true, not_true_eq_false, mCallR_ev, retLE_rtL, retDE_rt, flatR_bl, flatR_int, flatR_str, flatR_non, flatR_exc, getOwn_own, mMut0_ev, mSetIx_ev, putIx_ok, rev_lst, lrep_ev, if_small, if_small', rngL_len, endS_nx, endS_rt, in_sign, notIn_sign, isN_str, notN_str, isN_tup, notN_tup, isi_int_int, isi_int_bool, isi_bl_bool, isi_bl_int, isi_str_str, isi_tup_tup, isi_lst_lst, isi_non_int, isi_non_tup, _root_.FL.R.ok_bind, _root_.FL.R.exc_bind, _root_.FL.R.stuck_bind, _root_.FL.R.pure_eq, List.append_nil, List.length_cons, List.length_nil, Nat.zero_add, Nat.reduceAdd, Nat.reduceLeDiff, Nat.reduceLT, decide_eq_true_eq, if_true, if_false, ite_true, ite_false, Bool.true_eq_false, Bool.false_eq_true, Bool.not_true, Bool.not_false, reduceIte, Bool.not_eq_true', decide_eq_false_iff_not]
  rw [bind_nx]
  simp -implicitDefEqProofs (disch := first | omega | (simp only [List.length_map, List.length_append, List.length_cons, List.length_nil, List.length_take, List.length_drop, repS_len, rngL_len, List.length_range, List.length_reverse]; done) | (simp only [List.length_map, List.length_append, List.length_cons, List.length_nil, List.length_take, List.length_drop, repS_len, rngL_len, List.length_range, List.length_reverse]; omega)) only [mVar_ev, mVarR_ev, getV_val, getR_val, getR_own, mC_ev, mOp_ev, mOpL_ev, mT_ev, asB_bl, mAnd_ev, mOr_ev, mNot_ev, mAndV_ev, mOrV_ev, mNotV_ev, mIf_ev, mNil_ev, mCons_ev, mTup_ev, mLst_ev, mCall_ev, mPn_ev, mPs_ev, asI_int, mSl_ev, mSlL_ev, asL_lst, asL_scr, asTp_tup, asSt_str, R_ite, mWalk_ev, mLe_ev, mNeg_ev, mSeq_ev, mSkip_ev, bind_rt, bind_rtL, bind_bk, bind_ct, bind_ex, bind_ite, lift_ok, lift_exc, lift_ite, mAsg_ev, mAsgL_ev, mDrop_ev, mRet_ev, mRetL_ev, mRetN_ev, mRetOwn_ev, getO_own, mIfS_ev, mSet1_ev, onO_own, onO_val, mAppend_ev, putO_own, mAsgG_ev, optSO_some, gSet_ev, gsNil_ev, gsCons_ev, obind_some, gTupM_1, gTupM_2, gTupM_3, gTupM_4, gTupM_5, gTupM_6, mFor_ev, retD_nx, retD_rt, retD_rtL, retD_ex, retD_ite, retLs_rtL, retLs_ex, retLs_ite, nth_zero, nth_succ, set_zero, set_succ, add_int, add_str, add_lst, lcat_lst, sub_int', neg_int', lt_int', le_int', gt_int', ge_int', mod_int', fdiv_int, mul_int', mul_str', isN_non, isN_int, notN_non, notN_int, eq_int', ne_int', eq_str', ne_str', eq_bl', ne_bl', len_str', len_lst, len_tup, len_scr, max_int, min_int, sl_str', sl_lst, sl_scr, lsl_lst, lsl_scr, ix_str', ix_lst, ix_tup', ix_scr, range1_ok, range2_ok, range3_ok, mMeth_ev, onStr_str, mComp_ev, mCh_ev, wipeE_nil, wipeE_cons, mYes_ev, int_int, int_bl, asW_lst, asW_tup, asW_scr, asW_str, lt_str', le_str', gt_str', ge_str', mRaise_ev, sum_ints, all_bls, any_bls, list_lst, list_tup, list_scr, sorted_ints', g_find_ev, g_find3_ev, g_find4_ev, g_rfind_ev, g_rfind4_ev, g_count_ev, g_count3_ev, g_count4_ev, g_startswith_ev, g_endswith_ev, Int.reduceToNat, List.getD_cons_zero, List.getD_cons_succ, List.length_map, List.length_reverse, Int.zero_mul, Int.mul_zero, Int.add_zero, Int.mul_one, nc0, nc1, nc2, nc3, nc4, nc5, nc6, nc7, nc8, nc9, nc10, nc11, nc12, nc13, List.cons_append, List.nil_append, decide_true, decide_false, not_false_eq_true, not_true_eq_false, mCallR_ev, retLE_rtL, retDE_rt, flatR_bl, flatR_int, flatR_str, flatR_non, flatR_exc, getOwn_own, mMut0_ev, mSetIx_ev, putIx_ok, rev_lst, lrep_ev, if_small, if_small', rngL_len, endS_nx, endS_rt, in_sign, notIn_sign, isN_str, notN_str, isN_tup, notN_tup, isi_int_int, isi_int_bool, isi_bl_bool, isi_bl_int, isi_str_str, isi_tup_tup, isi_lst_lst, isi_non_int, isi_non_tup, _root_.FL.R.ok_bind, _root_.FL.R.exc_bind, _root_.FL.R.stuck_bind, _root_.FL.R.pure_eq, List.append_nil, List.length_cons, List.length_nil, Nat.zero_add, Nat.reduceAdd, Nat.reduceLeDiff, Nat.reduceLT, decide_eq_true_eq, if_true, if_false, ite_true, ite_false, Bool.true_eq_false, Bool.false_eq_true, Bool.not_true, Bool.not_false, reduceIte, Bool.not_eq_true', decide_eq_false_iff_not]
  rw [show ks_7109b8 ++ ks_006d57 = someS from rfl]
  rw [bind_nx]
  have z3 : someS.length = 93 := rfl
  simp -implicitDefEqProofs (disch := first | omega | (simp only [List.length_map, List.length_append, List.length_cons, List.length_nil, List.length_take, List.length_drop, repS_len, rngL_len, List.length_range, List.length_reverse]; done) | (simp only [List.length_map, List.length_append, List.length_cons, List.length_nil, List.length_take, List.length_drop, repS_len, rngL_len, List.length_range, List.length_reverse]; omega)) only [mVar_ev, mVarR_ev, getV_val, getR_val, getR_own, mC_ev, mOp_ev, mOpL_ev, mT_ev, asB_bl, mAnd_ev, mOr_ev, mNot_ev, mAndV_ev, mOrV_ev, mNotV_ev, mIf_ev, mNil_ev, mCons_ev, mTup_ev, mLst_ev, mCall_ev, mPn_ev, mPs_ev, asI_int, mSl_ev, mSlL_ev, asL_lst, asL_scr, asTp_tup, asSt_str, R_ite, mWalk_ev, mLe_ev, mNeg_ev, mSeq_ev, mSkip_ev, bind_nx, bind_rt, bind_rtL, bind_bk, bind_ct, bind_ex, bind_ite, lift_ok, lift_exc, lift_ite, mAsg_ev, mAsgL_ev, mDrop_ev, mRet_ev, mRetL_ev, mRetN_ev, mRetOwn_ev, getO_own, mIfS_ev, mSet1_ev, onO_own, onO_val, mAppend_ev, putO_own, mAsgG_ev, optSO_some, gSet_ev, gsNil_ev, gsCons_ev, obind_some, gTupM_1, gTupM_2, gTupM_3, gTupM_4, gTupM_5, gTupM_6, mFor_ev, retD_nx, retD_rt, retD_rtL, retD_ex, retD_ite, retLs_rtL, retLs_ex, retLs_ite, nth_zero, nth_succ, set_zero, set_succ, add_int, add_str, add_lst, lcat_lst, sub_int', neg_int', lt_int', le_int', gt_int', ge_int', mod_int', fdiv_int, mul_int', mul_str', isN_non, isN_int, notN_non, notN_int, eq_int', ne_int', eq_str', ne_str', eq_bl', ne_bl', len_str', len_lst, len_tup, len_scr, max_int, min_int, sl_str', sl_lst, sl_scr, lsl_lst, lsl_scr, ix_str', ix_lst, ix_tup', ix_scr, range1_ok, range2_ok, range3_ok, mMeth_ev, onStr_str, mComp_ev, mCh_ev, wipeE_nil, wipeE_cons, mYes_ev, int_int, int_bl, asW_lst, asW_tup, asW_scr, asW_str, lt_str', le_str', gt_str', ge_str', mRaise_ev, sum_ints, all_bls, any_bls, list_lst, list_tup, list_scr, sorted_ints', g_find_ev, g_find3_ev, g_find4_ev, g_rfind_ev, g_rfind4_ev, g_count_ev, g_count3_ev, g_count4_ev, g_startswith_ev, g_endswith_ev, Int.reduceToNat, List.getD_cons_zero, List.getD_cons_succ, List.length_map, List.length_reverse, Int.zero_mul, Int.mul_zero, Int.add_zero, Int.mul_one, nc0, nc1, nc2, nc3, nc4, nc5, nc6, nc7, nc8, nc9, nc10, nc11, nc12, nc13, List.cons_append, List.nil_append, decide_true, decide_false, not_false_eq_true, not_true_eq_false, mCallR_ev, retLE_rtL, retDE_rt, flatR_bl, flatR_int, flatR_str, flatR_non, flatR_exc, getOwn_own, mMut0_ev, mSetIx_ev, putIx_ok, rev_lst, lrep_ev, if_small, if_small', rngL_len, endS_nx, endS_rt, in_sign, notIn_sign, isN_str, notN_str, isN_tup, notN_tup, isi_int_int, isi_int_bool, isi_bl_bool, isi_bl_int, isi_str_str, isi_tup_tup, isi_lst_lst, isi_non_int, isi_non_tup, _root_.FL.R.ok_bind, _root_.FL.R.exc_bind, _root_.FL.R.stuck_bind, _root_.FL.R.pure_eq, List.append_nil, List.length_cons, List.length_nil, Nat.zero_add, Nat.reduceAdd, Nat.reduceLeDiff, Nat.reduceLT, decide_eq_true_eq, if_true, if_false, ite_true, ite_false, Bool.true_eq_false, Bool.false_eq_true, Bool.not_true, Bool.not_false, reduceIte, Bool.not_eq_true', decide_eq_false_iff_not, z3]
theorem e_letter (c : Int) : ∃ l ∈ letS, p__law_letter_by [.int c] = .ok (.str [l]) := by
  rw [u__law_letter_by]; unfold b__law_letter_by
  have h := mod_bd c (b := 26) (by omega)
  have z1 : ks_c3fcd3.length = 26 := rfl
  refine ⟨ks_c3fcd3.getD (c % 26).toNat 0, getD_mem (by show _ < 26; omega), ?_⟩
  simp -implicitDefEqProofs (disch := first | omega | (simp only [List.length_map, List.length_append, List.length_cons, List.length_nil, List.length_take, List.length_drop, repS_len, rngL_len, List.length_range, List.length_reverse]; done) | (simp only [List.length_map, List.length_append, List.length_cons, List.length_nil, List.length_take, List.length_drop, repS_len, rngL_len, List.length_range, List.length_reverse]; omega)) only [mVar_ev, mVarR_ev, getV_val, getR_val, getR_own, mC_ev, mOp_ev, mOpL_ev, mT_ev, asB_bl, mAnd_ev, mOr_ev, mNot_ev, mAndV_ev, mOrV_ev, mNotV_ev, mIf_ev, mNil_ev, mCons_ev, mTup_ev, mLst_ev, mCall_ev, mPn_ev, mPs_ev, asI_int, mSl_ev, mSlL_ev, asL_lst, asL_scr, asTp_tup, asSt_str, R_ite, mWalk_ev, mLe_ev, mNeg_ev, mSeq_ev, mSkip_ev, bind_nx, bind_rt, bind_rtL, bind_bk, bind_ct, bind_ex, bind_ite, lift_ok, lift_exc, lift_ite, mAsg_ev, mAsgL_ev, mDrop_ev, mRet_ev, mRetL_ev, mRetN_ev, mRetOwn_ev, getO_own, mIfS_ev, mSet1_ev, onO_own, onO_val, mAppend_ev, putO_own, mAsgG_ev, optSO_some, gSet_ev, gsNil_ev, gsCons_ev, obind_some, gTupM_1, gTupM_2, gTupM_3, gTupM_4, gTupM_5, gTupM_6, mFor_ev, retD_nx, retD_rt, retD_rtL, retD_ex, retD_ite, retLs_rtL, retLs_ex, retLs_ite, nth_zero, nth_succ, set_zero, set_succ, add_int, add_str, add_lst, lcat_lst, sub_int', neg_int', lt_int', le_int', gt_int', ge_int', mod_int', fdiv_int, mul_int', mul_str', isN_non, isN_int, notN_non, notN_int, eq_int', ne_int', eq_str', ne_str', eq_bl', ne_bl', len_str', len_lst, len_tup, len_scr, max_int, min_int, sl_str', sl_lst, sl_scr, lsl_lst, lsl_scr, ix_str', ix_lst, ix_tup', ix_scr, range1_ok, range2_ok, range3_ok, mMeth_ev, onStr_str, mComp_ev, mCh_ev, wipeE_nil, wipeE_cons, mYes_ev, int_int, int_bl, asW_lst, asW_tup, asW_scr, asW_str, lt_str', le_str', gt_str', ge_str', mRaise_ev, sum_ints, all_bls, any_bls, list_lst, list_tup, list_scr, sorted_ints', g_find_ev, g_find3_ev, g_find4_ev, g_rfind_ev, g_rfind4_ev, g_count_ev, g_count3_ev, g_count4_ev, g_startswith_ev, g_endswith_ev, Int.reduceToNat, List.getD_cons_zero, List.getD_cons_succ, List.length_map, List.length_reverse, Int.zero_mul, Int.mul_zero, Int.add_zero, Int.mul_one, nc0, nc1, nc2, nc3, nc4, nc5, nc6, nc7, nc8, nc9, nc10, nc11, nc12, nc13, List.cons_append, List.nil_append, decide_true, decide_false, not_false_eq_true, not_true_eq_false, mCallR_ev, retLE_rtL, retDE_rt, flatR_bl, flatR_int, flatR_str, flatR_non, flatR_exc, getOwn_own, mMut0_ev, mSetIx_ev, putIx_ok, rev_lst, lrep_ev, if_small, if_small', rngL_len, endS_nx, endS_rt, in_sign, notIn_sign, isN_str, notN_str, isN_tup, notN_tup, isi_int_int, isi_int_bool, isi_bl_bool, isi_bl_int, isi_str_str, isi_tup_tup, isi_lst_lst, isi_non_int, isi_non_tup, _root_.FL.R.ok_bind, _root_.FL.R.exc_bind, _root_.FL.R.stuck_bind, _root_.FL.R.pure_eq, List.append_nil, List.length_cons, List.length_nil, Nat.zero_add, Nat.reduceAdd, Nat.reduceLeDiff, Nat.reduceLT, decide_eq_true_eq, if_true, if_false, ite_true, ite_false, Bool.true_eq_false, Bool.false_eq_true, Bool.not_true, Bool.not_false, reduceIte, Bool.not_eq_true', decide_eq_false_iff_not, z1]
def CtOk (ct : List Nat) : Prop := ct = [] ∨ ∃ c, 1 ≤ c ∧ c < 1000 ∧ ct = dg c
theorem ct_of {i : Int} (h : 1 ≤ i) (h' : i ≤ 999) : ∃ ct, (∃ c, 1 ≤ c ∧ c < 1000 ∧ ct = dg c) ∧ (D.int i) = ctD ct :=
  ⟨dg i.toNat, ⟨i.toNat, by omega, by omega, rfl⟩, by rw [ctD_dg (by omega) (by omega)]; congr 1; omega⟩
theorem e_count_by (c : Int) : ∃ ct, CtOk ct ∧ p__law_count_by [.int c] = .ok (ctD ct) := by
  rw [u__law_count_by]; unfold b__law_count_by
  have m1 := mod_bd (c / 3) (b := 12) (by omega)
  have m2 := mod_bd (c / 3) (b := 999) (by omega)
  by_cases q0 : c % 3 = 0
  · exact ⟨[], .inl rfl, by simp -implicitDefEqProofs (disch := first | omega | (simp only [List.length_map, List.length_append, List.length_cons, List.length_nil, List.length_take, List.length_drop, repS_len, rngL_len, List.length_range, List.length_reverse]; done) | (simp only [List.length_map, List.length_append, List.length_cons, List.length_nil, List.length_take, List.length_drop, repS_len, rngL_len, List.length_range, List.length_reverse]; omega)) only [mVar_ev, mVarR_ev, getV_val, getR_val, getR_own, mC_ev, mOp_ev, mOpL_ev, mT_ev, asB_bl, mAnd_ev, mOr_ev, mNot_ev, mAndV_ev, mOrV_ev, mNotV_ev, mIf_ev, mNil_ev, mCons_ev, mTup_ev, mLst_ev, mCall_ev, mPn_ev, mPs_ev, asI_int, mSl_ev, mSlL_ev, asL_lst, asL_scr, asTp_tup, asSt_str, R_ite, mWalk_ev, mLe_ev, mNeg_ev, mSeq_ev, mSkip_ev, bind_nx, bind_rt, bind_rtL, bind_bk, bind_ct, bind_ex, bind_ite, lift_ok, lift_exc, lift_ite, mAsg_ev, mAsgL_ev, mDrop_ev, mRet_ev, mRetL_ev, mRetN_ev, mRetOwn_ev, getO_own, mIfS_ev, mSet1_ev, onO_own, onO_val, mAppend_ev, putO_own, mAsgG_ev, optSO_some, gSet_ev, gsNil_ev, gsCons_ev, obind_some, gTupM_1, gTupM_2, gTupM_3, gTupM_4, gTupM_5, gTupM_6, mFor_ev, retD_nx, retD_rt, retD_rtL, retD_ex, retD_ite, retLs_rtL, retLs_ex, retLs_ite, nth_zero, nth_succ, set_zero, set_succ, add_int, add_str, add_lst, lcat_lst, sub_int', neg_int', lt_int', le_int', gt_int', ge_int', mod_int', fdiv_int, mul_int', mul_str', isN_non, isN_int, notN_non, notN_int, eq_int', ne_int', eq_str', ne_str', eq_bl', ne_bl', len_str', len_lst, len_tup, len_scr, max_int, min_int, sl_str', sl_lst, sl_scr, lsl_lst, lsl_scr, ix_str', ix_lst, ix_tup', ix_scr, range1_ok, range2_ok, range3_ok, mMeth_ev, onStr_str, mComp_ev, mCh_ev, wipeE_nil, wipeE_cons, mYes_ev, int_int, int_bl, asW_lst, asW_tup, asW_scr, asW_str, lt_str', le_str', gt_str', ge_str', mRaise_ev, sum_ints, all_bls, any_bls, list_lst, list_tup, list_scr, sorted_ints', g_find_ev, g_find3_ev, g_find4_ev, g_rfind_ev, g_rfind4_ev, g_count_ev, g_count3_ev, g_count4_ev, g_startswith_ev, g_endswith_ev, Int.reduceToNat, List.getD_cons_zero, List.getD_cons_succ, List.length_map, List.length_reverse, Int.zero_mul, Int.mul_zero, Int.add_zero, Int.mul_one, nc0, nc1, nc2, nc3, nc4, nc5, nc6, nc7, nc8, nc9, nc10, nc11, nc12, nc13, List.cons_append, List.nil_append, decide_true, decide_false, not_false_eq_true, not_true_eq_false, mCallR_ev, retLE_rtL, retDE_rt, flatR_bl, flatR_int, flatR_str, flatR_non, flatR_exc, getOwn_own, mMut0_ev, mSetIx_ev, putIx_ok, rev_lst, lrep_ev, if_small, if_small', rngL_len, endS_nx, endS_rt, in_sign, notIn_sign, isN_str, notN_str, isN_tup, notN_tup, isi_int_int, isi_int_bool, isi_bl_bool, isi_bl_int, isi_str_str, isi_tup_tup, isi_lst_lst, isi_non_int, isi_non_tup, _root_.FL.R.ok_bind, _root_.FL.R.exc_bind, _root_.FL.R.stuck_bind, _root_.FL.R.pure_eq, List.append_nil, List.length_cons, List.length_nil, Nat.zero_add, Nat.reduceAdd, Nat.reduceLeDiff, Nat.reduceLT, decide_eq_true_eq, if_true, if_false, ite_true, ite_false, Bool.true_eq_false, Bool.false_eq_true, Bool.not_true, Bool.not_false, reduceIte, Bool.not_eq_true', decide_eq_false_iff_not, q0]; rfl⟩
  · by_cases q1 : c % 3 = 1
    · obtain ⟨ct, h1, h2⟩ := ct_of (i := 1 + c / 3 % 12) (by omega) (by omega)
      have z : ¬ (1 : Int) = 0 := by omega
      exact ⟨ct, .inr h1, by simp -implicitDefEqProofs (disch := first | omega | (simp only [List.length_map, List.length_append, List.length_cons, List.length_nil, List.length_take, List.length_drop, repS_len, rngL_len, List.length_range, List.length_reverse]; done) | (simp only [List.length_map, List.length_append, List.length_cons, List.length_nil, List.length_take, List.length_drop, repS_len, rngL_len, List.length_range, List.length_reverse]; omega)) only [mVar_ev, mVarR_ev, getV_val, getR_val, getR_own, mC_ev, mOp_ev, mOpL_ev, mT_ev, asB_bl, mAnd_ev, mOr_ev, mNot_ev, mAndV_ev, mOrV_ev, mNotV_ev, mIf_ev, mNil_ev, mCons_ev, mTup_ev, mLst_ev, mCall_ev, mPn_ev, mPs_ev, asI_int, mSl_ev, mSlL_ev, asL_lst, asL_scr, asTp_tup, asSt_str, R_ite, mWalk_ev, mLe_ev, mNeg_ev, mSeq_ev, mSkip_ev, bind_nx, bind_rt, bind_rtL, bind_bk, bind_ct, bind_ex, bind_ite, lift_ok, lift_exc, lift_ite, mAsg_ev, mAsgL_ev, mDrop_ev, mRet_ev, mRetL_ev, mRetN_ev, mRetOwn_ev, getO_own, mIfS_ev, mSet1_ev, onO_own, onO_val, mAppend_ev, putO_own, mAsgG_ev, optSO_some, gSet_ev, gsNil_ev, gsCons_ev, obind_some, gTupM_1, gTupM_2, gTupM_3, gTupM_4, gTupM_5, gTupM_6, mFor_ev, retD_nx, retD_rt, retD_rtL, retD_ex, retD_ite, retLs_rtL, retLs_ex, retLs_ite, nth_zero, nth_succ, set_zero, set_succ, add_int, add_str, add_lst, lcat_lst, sub_int', neg_int', lt_int', le_int', gt_int', ge_int', mod_int', fdiv_int, mul_int', mul_str', isN_non, isN_int, notN_non, notN_int, eq_int', ne_int', eq_str', ne_str', eq_bl', ne_bl', len_str', len_lst, len_tup, len_scr, max_int, min_int, sl_str', sl_lst, sl_scr, lsl_lst, lsl_scr, ix_str', ix_lst, ix_tup', ix_scr, range1_ok, range2_ok, range3_ok, mMeth_ev, onStr_str, mComp_ev, mCh_ev, wipeE_nil, wipeE_cons, mYes_ev, int_int, int_bl, asW_lst, asW_tup, asW_scr, asW_str, lt_str', le_str', gt_str', ge_str', mRaise_ev, sum_ints, all_bls, any_bls, list_lst, list_tup, list_scr, sorted_ints', g_find_ev, g_find3_ev, g_find4_ev, g_rfind_ev, g_rfind4_ev, g_count_ev, g_count3_ev, g_count4_ev, g_startswith_ev, g_endswith_ev, Int.reduceToNat, List.getD_cons_zero, List.getD_cons_succ, List.length_map, List.length_reverse, Int.zero_mul, Int.mul_zero, Int.add_zero, Int.mul_one, nc0, nc1, nc2, nc3, nc4, nc5, nc6, nc7, nc8, nc9, nc10, nc11, nc12, nc13, List.cons_append, List.nil_append, decide_true, decide_false, not_false_eq_true, not_true_eq_false, mCallR_ev, retLE_rtL, retDE_rt, flatR_bl, flatR_int, flatR_str, flatR_non, flatR_exc, getOwn_own, mMut0_ev, mSetIx_ev, putIx_ok, rev_lst, lrep_ev, if_small, if_small', rngL_len, endS_nx, endS_rt, in_sign, notIn_sign, isN_str, notN_str, isN_tup, notN_tup, isi_int_int, isi_int_bool, isi_bl_bool, isi_bl_int, isi_str_str, isi_tup_tup, isi_lst_lst, isi_non_int, isi_non_tup, _root_.FL.R.ok_bind, _root_.FL.R.exc_bind, _root_.FL.R.stuck_bind, _root_.FL.R.pure_eq, List.append_nil, List.length_cons, List.length_nil, Nat.zero_add, Nat.reduceAdd, Nat.reduceLeDiff, Nat.reduceLT, decide_eq_true_eq, if_true, if_false, ite_true, ite_false, Bool.true_eq_false, Bool.false_eq_true, Bool.not_true, Bool.not_false, reduceIte, Bool.not_eq_true', decide_eq_false_iff_not, q1, z, h2]⟩
    · obtain ⟨ct, h1, h2⟩ := ct_of (i := 1 + c / 3 % 999) (by omega) (by omega)
      exact ⟨ct, .inr h1, by simp -implicitDefEqProofs (disch := first | omega | (simp only [List.length_map, List.length_append, List.length_cons, List.length_nil, List.length_take, List.length_drop, repS_len, rngL_len, List.length_range, List.length_reverse]; done) | (simp only [List.length_map, List.length_append, List.length_cons, List.length_nil, List.length_take, List.length_drop, repS_len, rngL_len, List.length_range, List.length_reverse]; omega)) only [mVar_ev, mVarR_ev, getV_val, getR_val, getR_own, mC_ev, mOp_ev, mOpL_ev, mT_ev, asB_bl, mAnd_ev, mOr_ev, mNot_ev, mAndV_ev, mOrV_ev, mNotV_ev, mIf_ev, mNil_ev, mCons_ev, mTup_ev, mLst_ev, mCall_ev, mPn_ev, mPs_ev, asI_int, mSl_ev, mSlL_ev, asL_lst, asL_scr, asTp_tup, asSt_str, R_ite, mWalk_ev, mLe_ev, mNeg_ev, mSeq_ev, mSkip_ev, bind_nx, bind_rt, bind_rtL, bind_bk, bind_ct, bind_ex, bind_ite, lift_ok, lift_exc, lift_ite, mAsg_ev, mAsgL_ev, mDrop_ev, mRet_ev, mRetL_ev, mRetN_ev, mRetOwn_ev, getO_own, mIfS_ev, mSet1_ev, onO_own, onO_val, mAppend_ev, putO_own, mAsgG_ev, optSO_some, gSet_ev, gsNil_ev, gsCons_ev, obind_some, gTupM_1, gTupM_2, gTupM_3, gTupM_4, gTupM_5, gTupM_6, mFor_ev, retD_nx, retD_rt, retD_rtL, retD_ex, retD_ite, retLs_rtL, retLs_ex, retLs_ite, nth_zero, nth_succ, set_zero, set_succ, add_int, add_str, add_lst, lcat_lst, sub_int', neg_int', lt_int', le_int', gt_int', ge_int', mod_int', fdiv_int, mul_int', mul_str', isN_non, isN_int, notN_non, notN_int, eq_int', ne_int', eq_str', ne_str', eq_bl', ne_bl', len_str', len_lst, len_tup, len_scr, max_int, min_int, sl_str', sl_lst, sl_scr, lsl_lst, lsl_scr, ix_str', ix_lst, ix_tup', ix_scr, range1_ok, range2_ok, range3_ok, mMeth_ev, onStr_str, mComp_ev, mCh_ev, wipeE_nil, wipeE_cons, mYes_ev, int_int, int_bl, asW_lst, asW_tup, asW_scr, asW_str, lt_str', le_str', gt_str', ge_str', mRaise_ev, sum_ints, all_bls, any_bls, list_lst, list_tup, list_scr, sorted_ints', g_find_ev, g_find3_ev, g_find4_ev, g_rfind_ev, g_rfind4_ev, g_count_ev, g_count3_ev, g_count4_ev, g_startswith_ev, g_endswith_ev, Int.reduceToNat, List.getD_cons_zero, List.getD_cons_succ, List.length_map, List.length_reverse, Int.zero_mul, Int.mul_zero, Int.add_zero, Int.mul_one, nc0, nc1, nc2, nc3, nc4, nc5, nc6, nc7, nc8, nc9, nc10, nc11, nc12, nc13, List.cons_append, List.nil_append, decide_true, decide_false, not_false_eq_true, not_true_eq_false, mCallR_ev, retLE_rtL, retDE_rt, flatR_bl, flatR_int, flatR_str, flatR_non, flatR_exc, getOwn_own, mMut0_ev, mSetIx_ev, putIx_ok, rev_lst, lrep_ev, if_small, if_small', rngL_len, endS_nx, endS_rt, in_sign, notIn_sign, isN_str, notN_str, isN_tup, notN_tup, isi_int_int, isi_int_bool, isi_bl_bool, isi_bl_int, isi_str_str, isi_tup_tup, isi_lst_lst, isi_non_int, isi_non_tup, _root_.FL.R.ok_bind, _root_.FL.R.exc_bind, _root_.FL.R.stuck_bind, _root_.FL.R.pure_eq, List.append_nil, List.length_cons, List.length_nil, Nat.zero_add, Nat.reduceAdd, Nat.reduceLeDiff, Nat.reduceLT, decide_eq_true_eq, if_true, if_false, ite_true, ite_false, Bool.true_eq_false, Bool.false_eq_true, Bool.not_true, Bool.not_false, reduceIte, Bool.not_eq_true', decide_eq_false_iff_not, q0, q1, h2]⟩
def mvS : List Nat := [104, 108, 106, 107, 98, 101, 119, 118, 111, 103, 122, 112, 102, 116, 109]
theorem mvS_of : ∀ k ∈ mvS, k = 109 ∨ k ∈ [102, 116] ∨ (k ≠ 109 ∧ k ∉ [102, 116] ∧ k ∈ moveS) := by decide
theorem e_move_by (c : Int) : ∃ t, IsMove t ∧ t.length ≤ 2 ∧ p__law_move_by [.int c] = .ok (.str t) := by
  rw [u__law_move_by]; unfold b__law_move_by
  have h := mod_bd c (b := 15) (by omega)
  have hk := getD_mem (l := mvS) (i := (c % 15).toNat) (by show _ < 15; omega)
  simp -implicitDefEqProofs (disch := first | omega | (simp only [List.length_map, List.length_append, List.length_cons, List.length_nil, List.length_take, List.length_drop, repS_len, rngL_len, List.length_range, List.length_reverse]; done) | (simp only [List.length_map, List.length_append, List.length_cons, List.length_nil, List.length_take, List.length_drop, repS_len, rngL_len, List.length_range, List.length_reverse]; omega)) only [mVar_ev, mVarR_ev, getV_val, getR_val, getR_own, mC_ev, mOp_ev, mOpL_ev, mT_ev, asB_bl, mAnd_ev, mOr_ev, mNot_ev, mAndV_ev, mOrV_ev, mNotV_ev, mIf_ev, mNil_ev, mCons_ev, mTup_ev, mLst_ev, mCall_ev, mPn_ev, mPs_ev, asI_int, mSl_ev, mSlL_ev, asL_lst, asL_scr, asTp_tup, asSt_str, R_ite, mWalk_ev, mLe_ev, mNeg_ev, mSeq_ev, mSkip_ev, bind_rt, bind_rtL, bind_bk, bind_ct, bind_ex, bind_ite, lift_ok, lift_exc, lift_ite, mAsg_ev, mAsgL_ev, mDrop_ev, mRet_ev, mRetL_ev, mRetN_ev, mRetOwn_ev, getO_own, mIfS_ev, mSet1_ev, onO_own, onO_val, mAppend_ev, putO_own, mAsgG_ev, optSO_some, gSet_ev, gsNil_ev, gsCons_ev, obind_some, gTupM_1, gTupM_2, gTupM_3, gTupM_4, gTupM_5, gTupM_6, mFor_ev, retD_nx, retD_rt, retD_rtL, retD_ex, retD_ite, retLs_rtL, retLs_ex, retLs_ite, nth_zero, nth_succ, set_zero, set_succ, add_int, add_str, add_lst, lcat_lst, sub_int', neg_int', lt_int', le_int', gt_int', ge_int', mod_int', fdiv_int, mul_int', mul_str', isN_non, isN_int, notN_non, notN_int, eq_int', ne_int', eq_str', ne_str', eq_bl', ne_bl', len_str', len_lst, len_tup, len_scr, max_int, min_int, sl_str', sl_lst, sl_scr, lsl_lst, lsl_scr, ix_str', ix_lst, ix_tup', ix_scr, range1_ok, range2_ok, range3_ok, mMeth_ev, onStr_str, mComp_ev, mCh_ev, wipeE_nil, wipeE_cons, mYes_ev, int_int, int_bl, asW_lst, asW_tup, asW_scr, asW_str, lt_str', le_str', gt_str', ge_str', mRaise_ev, sum_ints, all_bls, any_bls, list_lst, list_tup, list_scr, sorted_ints', g_find_ev, g_find3_ev, g_find4_ev, g_rfind_ev, g_rfind4_ev, g_count_ev, g_count3_ev, g_count4_ev, g_startswith_ev, g_endswith_ev, Int.reduceToNat, List.getD_cons_zero, List.getD_cons_succ, List.length_map, List.length_reverse, Int.zero_mul, Int.mul_zero, Int.add_zero, Int.mul_one, nc0, nc1, nc2, nc3, nc4, nc5, nc6, nc7, nc8, nc9, nc10, nc11, nc12, nc13, List.cons_append, List.nil_append, decide_true, decide_false, not_false_eq_true, not_true_eq_false, mCallR_ev, retLE_rtL, retDE_rt, flatR_bl, flatR_int, flatR_str, flatR_non, flatR_exc, getOwn_own, mMut0_ev, mSetIx_ev, putIx_ok, rev_lst, lrep_ev, if_small, if_small', rngL_len, endS_nx, endS_rt, in_sign, notIn_sign, isN_str, notN_str, isN_tup, notN_tup, isi_int_int, isi_int_bool, isi_bl_bool, isi_bl_int, isi_str_str, isi_tup_tup, isi_lst_lst, isi_non_int, isi_non_tup, _root_.FL.R.ok_bind, _root_.FL.R.exc_bind, _root_.FL.R.stuck_bind, _root_.FL.R.pure_eq, List.append_nil, List.length_cons, List.length_nil, Nat.zero_add, Nat.reduceAdd, Nat.reduceLeDiff, Nat.reduceLT, decide_eq_true_eq, if_true, if_false, ite_true, ite_false, Bool.true_eq_false, Bool.false_eq_true, Bool.not_true, Bool.not_false, reduceIte, Bool.not_eq_true', decide_eq_false_iff_not]
  rw [bind_nx]
  rw [show ([104, 108, 106, 107, 98, 101, 119, 118, 111, 103, 122, 112, 102, 116, 109] : List Nat).getD (c % 15).toNat 0 = mvS.getD (c % 15).toNat 0 from rfl]
  generalize mvS.getD (c % 15).toNat 0 = k at *
  rcases mvS_of k hk with rfl | q | ⟨q1, q2, q3⟩
  · obtain ⟨l, hl, e⟩ := e_letter (c / 15)
    exact ⟨[109, l], .inr (.inl ⟨l, hl, rfl⟩), by simp, by simp -implicitDefEqProofs (disch := first | omega | (simp only [List.length_map, List.length_append, List.length_cons, List.length_nil, List.length_take, List.length_drop, repS_len, rngL_len, List.length_range, List.length_reverse]; done) | (simp only [List.length_map, List.length_append, List.length_cons, List.length_nil, List.length_take, List.length_drop, repS_len, rngL_len, List.length_range, List.length_reverse]; omega)) only [mVar_ev, mVarR_ev, getV_val, getR_val, getR_own, mC_ev, mOp_ev, mOpL_ev, mT_ev, asB_bl, mAnd_ev, mOr_ev, mNot_ev, mAndV_ev, mOrV_ev, mNotV_ev, mIf_ev, mNil_ev, mCons_ev, mTup_ev, mLst_ev, mCall_ev, mPn_ev, mPs_ev, asI_int, mSl_ev, mSlL_ev, asL_lst, asL_scr, asTp_tup, asSt_str, R_ite, mWalk_ev, mLe_ev, mNeg_ev, mSeq_ev, mSkip_ev, bind_nx, bind_rt, bind_rtL, bind_bk, bind_ct, bind_ex, bind_ite, lift_ok, lift_exc, lift_ite, mAsg_ev, mAsgL_ev, mDrop_ev, mRet_ev, mRetL_ev, mRetN_ev, mRetOwn_ev, getO_own, mIfS_ev, mSet1_ev, onO_own, onO_val, mAppend_ev, putO_own, mAsgG_ev, optSO_some, gSet_ev, gsNil_ev, gsCons_ev, obind_some, gTupM_1, gTupM_2, gTupM_3, gTupM_4, gTupM_5, gTupM_6, mFor_ev, retD_nx, retD_rt, retD_rtL, retD_ex, retD_ite, retLs_rtL, retLs_ex, retLs_ite, nth_zero, nth_succ, set_zero, set_succ, add_int, add_str, add_lst, lcat_lst, sub_int', neg_int', lt_int', le_int', gt_int', ge_int', mod_int', fdiv_int, mul_int', mul_str', isN_non, isN_int, notN_non, notN_int, eq_int', ne_int', eq_str', ne_str', eq_bl', ne_bl', len_str', len_lst, len_tup, len_scr, max_int, min_int, sl_str', sl_lst, sl_scr, lsl_lst, lsl_scr, ix_str', ix_lst, ix_tup', ix_scr, range1_ok, range2_ok, range3_ok, mMeth_ev, onStr_str, mComp_ev, mCh_ev, wipeE_nil, wipeE_cons, mYes_ev, int_int, int_bl, asW_lst, asW_tup, asW_scr, asW_str, lt_str', le_str', gt_str', ge_str', mRaise_ev, sum_ints, all_bls, any_bls, list_lst, list_tup, list_scr, sorted_ints', g_find_ev, g_find3_ev, g_find4_ev, g_rfind_ev, g_rfind4_ev, g_count_ev, g_count3_ev, g_count4_ev, g_startswith_ev, g_endswith_ev, Int.reduceToNat, List.getD_cons_zero, List.getD_cons_succ, List.length_map, List.length_reverse, Int.zero_mul, Int.mul_zero, Int.add_zero, Int.mul_one, nc0, nc1, nc2, nc3, nc4, nc5, nc6, nc7, nc8, nc9, nc10, nc11, nc12, nc13, List.cons_append, List.nil_append, decide_true, decide_false, not_false_eq_true, not_true_eq_false, mCallR_ev, retLE_rtL, retDE_rt, flatR_bl, flatR_int, flatR_str, flatR_non, flatR_exc, getOwn_own, mMut0_ev, mSetIx_ev, putIx_ok, rev_lst, lrep_ev, if_small, if_small', rngL_len, endS_nx, endS_rt, in_sign, notIn_sign, isN_str, notN_str, isN_tup, notN_tup, isi_int_int, isi_int_bool, isi_bl_bool, isi_bl_int, isi_str_str, isi_tup_tup, isi_lst_lst, isi_non_int, isi_non_tup, _root_.FL.R.ok_bind, _root_.FL.R.exc_bind, _root_.FL.R.stuck_bind, _root_.FL.R.pure_eq, List.append_nil, List.length_cons, List.length_nil, Nat.zero_add, Nat.reduceAdd, Nat.reduceLeDiff, Nat.reduceLT, decide_eq_true_eq, if_true, if_false, ite_true, ite_false, Bool.true_eq_false, Bool.false_eq_true, Bool.not_true, Bool.not_false, reduceIte, Bool.not_eq_true', decide_eq_false_iff_not, e]⟩
  · obtain ⟨s, hs, e⟩ := e_sign_by (c / 15)
    have q1 : ¬ k = 109 := fun z => by rw [z] at q; exact absurd q (by decide)
    have q1' := one_ne q1
    refine ⟨[k, s], .inr (.inr ⟨s, hs, ?_⟩), by simp, by simp -implicitDefEqProofs (disch := first | omega | (simp only [List.length_map, List.length_append, List.length_cons, List.length_nil, List.length_take, List.length_drop, repS_len, rngL_len, List.length_range, List.length_reverse]; done) | (simp only [List.length_map, List.length_append, List.length_cons, List.length_nil, List.length_take, List.length_drop, repS_len, rngL_len, List.length_range, List.length_reverse]; omega)) only [mVar_ev, mVarR_ev, getV_val, getR_val, getR_own, mC_ev, mOp_ev, mOpL_ev, mT_ev, asB_bl, mAnd_ev, mOr_ev, mNot_ev, mAndV_ev, mOrV_ev, mNotV_ev, mIf_ev, mNil_ev, mCons_ev, mTup_ev, mLst_ev, mCall_ev, mPn_ev, mPs_ev, asI_int, mSl_ev, mSlL_ev, asL_lst, asL_scr, asTp_tup, asSt_str, R_ite, mWalk_ev, mLe_ev, mNeg_ev, mSeq_ev, mSkip_ev, bind_nx, bind_rt, bind_rtL, bind_bk, bind_ct, bind_ex, bind_ite, lift_ok, lift_exc, lift_ite, mAsg_ev, mAsgL_ev, mDrop_ev, mRet_ev, mRetL_ev, mRetN_ev, mRetOwn_ev, getO_own, mIfS_ev, mSet1_ev, onO_own, onO_val, mAppend_ev, putO_own, mAsgG_ev, optSO_some, gSet_ev, gsNil_ev, gsCons_ev, obind_some, gTupM_1, gTupM_2, gTupM_3, gTupM_4, gTupM_5, gTupM_6, mFor_ev, retD_nx, retD_rt, retD_rtL, retD_ex, retD_ite, retLs_rtL, retLs_ex, retLs_ite, nth_zero, nth_succ, set_zero, set_succ, add_int, add_str, add_lst, lcat_lst, sub_int', neg_int', lt_int', le_int', gt_int', ge_int', mod_int', fdiv_int, mul_int', mul_str', isN_non, isN_int, notN_non, notN_int, eq_int', ne_int', eq_str', ne_str', eq_bl', ne_bl', len_str', len_lst, len_tup, len_scr, max_int, min_int, sl_str', sl_lst, sl_scr, lsl_lst, lsl_scr, ix_str', ix_lst, ix_tup', ix_scr, range1_ok, range2_ok, range3_ok, mMeth_ev, onStr_str, mComp_ev, mCh_ev, wipeE_nil, wipeE_cons, mYes_ev, int_int, int_bl, asW_lst, asW_tup, asW_scr, asW_str, lt_str', le_str', gt_str', ge_str', mRaise_ev, sum_ints, all_bls, any_bls, list_lst, list_tup, list_scr, sorted_ints', g_find_ev, g_find3_ev, g_find4_ev, g_rfind_ev, g_rfind4_ev, g_count_ev, g_count3_ev, g_count4_ev, g_startswith_ev, g_endswith_ev, Int.reduceToNat, List.getD_cons_zero, List.getD_cons_succ, List.length_map, List.length_reverse, Int.zero_mul, Int.mul_zero, Int.add_zero, Int.mul_one, nc0, nc1, nc2, nc3, nc4, nc5, nc6, nc7, nc8, nc9, nc10, nc11, nc12, nc13, List.cons_append, List.nil_append, decide_true, decide_false, not_false_eq_true, not_true_eq_false, mCallR_ev, retLE_rtL, retDE_rt, flatR_bl, flatR_int, flatR_str, flatR_non, flatR_exc, getOwn_own, mMut0_ev, mSetIx_ev, putIx_ok, rev_lst, lrep_ev, if_small, if_small', rngL_len, endS_nx, endS_rt, in_sign, notIn_sign, isN_str, notN_str, isN_tup, notN_tup, isi_int_int, isi_int_bool, isi_bl_bool, isi_bl_int, isi_str_str, isi_tup_tup, isi_lst_lst, isi_non_int, isi_non_tup, _root_.FL.R.ok_bind, _root_.FL.R.exc_bind, _root_.FL.R.stuck_bind, _root_.FL.R.pure_eq, List.append_nil, List.length_cons, List.length_nil, Nat.zero_add, Nat.reduceAdd, Nat.reduceLeDiff, Nat.reduceLT, decide_eq_true_eq, if_true, if_false, ite_true, ite_false, Bool.true_eq_false, Bool.false_eq_true, Bool.not_true, Bool.not_false, reduceIte, Bool.not_eq_true', decide_eq_false_iff_not, q1', q, e]⟩
    simp only [List.mem_cons, List.not_mem_nil, or_false] at q
    rcases q with rfl | rfl
    · exact .inl rfl
    · exact .inr rfl
  · have q1' := one_ne q1
    exact ⟨[k], .inl ⟨k, q3, rfl⟩, by simp, by simp -implicitDefEqProofs (disch := first | omega | (simp only [List.length_map, List.length_append, List.length_cons, List.length_nil, List.length_take, List.length_drop, repS_len, rngL_len, List.length_range, List.length_reverse]; done) | (simp only [List.length_map, List.length_append, List.length_cons, List.length_nil, List.length_take, List.length_drop, repS_len, rngL_len, List.length_range, List.length_reverse]; omega)) only [mVar_ev, mVarR_ev, getV_val, getR_val, getR_own, mC_ev, mOp_ev, mOpL_ev, mT_ev, asB_bl, mAnd_ev, mOr_ev, mNot_ev, mAndV_ev, mOrV_ev, mNotV_ev, mIf_ev, mNil_ev, mCons_ev, mTup_ev, mLst_ev, mCall_ev, mPn_ev, mPs_ev, asI_int, mSl_ev, mSlL_ev, asL_lst, asL_scr, asTp_tup, asSt_str, R_ite, mWalk_ev, mLe_ev, mNeg_ev, mSeq_ev, mSkip_ev, bind_nx, bind_rt, bind_rtL, bind_bk, bind_ct, bind_ex, bind_ite, lift_ok, lift_exc, lift_ite, mAsg_ev, mAsgL_ev, mDrop_ev, mRet_ev, mRetL_ev, mRetN_ev, mRetOwn_ev, getO_own, mIfS_ev, mSet1_ev, onO_own, onO_val, mAppend_ev, putO_own, mAsgG_ev, optSO_some, gSet_ev, gsNil_ev, gsCons_ev, obind_some, gTupM_1, gTupM_2, gTupM_3, gTupM_4, gTupM_5, gTupM_6, mFor_ev, retD_nx, retD_rt, retD_rtL, retD_ex, retD_ite, retLs_rtL, retLs_ex, retLs_ite, nth_zero, nth_succ, set_zero, set_succ, add_int, add_str, add_lst, lcat_lst, sub_int', neg_int', lt_int', le_int', gt_int', ge_int', mod_int', fdiv_int, mul_int', mul_str', isN_non, isN_int, notN_non, notN_int, eq_int', ne_int', eq_str', ne_str', eq_bl', ne_bl', len_str', len_lst, len_tup, len_scr, max_int, min_int, sl_str', sl_lst, sl_scr, lsl_lst, lsl_scr, ix_str', ix_lst, ix_tup', ix_scr, range1_ok, range2_ok, range3_ok, mMeth_ev, onStr_str, mComp_ev, mCh_ev, wipeE_nil, wipeE_cons, mYes_ev, int_int, int_bl, asW_lst, asW_tup, asW_scr, asW_str, lt_str', le_str', gt_str', ge_str', mRaise_ev, sum_ints, all_bls, any_bls, list_lst, list_tup, list_scr, sorted_ints', g_find_ev, g_find3_ev, g_find4_ev, g_rfind_ev, g_rfind4_ev, g_count_ev, g_count3_ev, g_count4_ev, g_startswith_ev, g_endswith_ev, Int.reduceToNat, List.getD_cons_zero, List.getD_cons_succ, List.length_map, List.length_reverse, Int.zero_mul, Int.mul_zero, Int.add_zero, Int.mul_one, nc0, nc1, nc2, nc3, nc4, nc5, nc6, nc7, nc8, nc9, nc10, nc11, nc12, nc13, List.cons_append, List.nil_append, decide_true, decide_false, not_false_eq_true, not_true_eq_false, mCallR_ev, retLE_rtL, retDE_rt, flatR_bl, flatR_int, flatR_str, flatR_non, flatR_exc, getOwn_own, mMut0_ev, mSetIx_ev, putIx_ok, rev_lst, lrep_ev, if_small, if_small', rngL_len, endS_nx, endS_rt, in_sign, notIn_sign, isN_str, notN_str, isN_tup, notN_tup, isi_int_int, isi_int_bool, isi_bl_bool, isi_bl_int, isi_str_str, isi_tup_tup, isi_lst_lst, isi_non_int, isi_non_tup, _root_.FL.R.ok_bind, _root_.FL.R.exc_bind, _root_.FL.R.stuck_bind, _root_.FL.R.pure_eq, List.append_nil, List.length_cons, List.length_nil, Nat.zero_add, Nat.reduceAdd, Nat.reduceLeDiff, Nat.reduceLT, decide_eq_true_eq, if_true, if_false, ite_true, ite_false, Bool.true_eq_false, Bool.false_eq_true, Bool.not_true, Bool.not_false, reduceIte, Bool.not_eq_true', decide_eq_false_iff_not, q1', q2]⟩
theorem e_target_by (c : Int) : ∃ t, (IsMove t ∨ IsThing t) ∧ t.length ≤ 2 ∧ p__law_target_by [.int c] = .ok (.str t) := by
  rw [u__law_target_by]; unfold b__law_target_by
  by_cases q : c % 2 = 0
  · obtain ⟨t, h1, h2, h3⟩ := e_move_by (c / 2)
    exact ⟨t, .inl h1, h2, by simp -implicitDefEqProofs (disch := first | omega | (simp only [List.length_map, List.length_append, List.length_cons, List.length_nil, List.length_take, List.length_drop, repS_len, rngL_len, List.length_range, List.length_reverse]; done) | (simp only [List.length_map, List.length_append, List.length_cons, List.length_nil, List.length_take, List.length_drop, repS_len, rngL_len, List.length_range, List.length_reverse]; omega)) only [mVar_ev, mVarR_ev, getV_val, getR_val, getR_own, mC_ev, mOp_ev, mOpL_ev, mT_ev, asB_bl, mAnd_ev, mOr_ev, mNot_ev, mAndV_ev, mOrV_ev, mNotV_ev, mIf_ev, mNil_ev, mCons_ev, mTup_ev, mLst_ev, mCall_ev, mPn_ev, mPs_ev, asI_int, mSl_ev, mSlL_ev, asL_lst, asL_scr, asTp_tup, asSt_str, R_ite, mWalk_ev, mLe_ev, mNeg_ev, mSeq_ev, mSkip_ev, bind_nx, bind_rt, bind_rtL, bind_bk, bind_ct, bind_ex, bind_ite, lift_ok, lift_exc, lift_ite, mAsg_ev, mAsgL_ev, mDrop_ev, mRet_ev, mRetL_ev, mRetN_ev, mRetOwn_ev, getO_own, mIfS_ev, mSet1_ev, onO_own, onO_val, mAppend_ev, putO_own, mAsgG_ev, optSO_some, gSet_ev, gsNil_ev, gsCons_ev, obind_some, gTupM_1, gTupM_2, gTupM_3, gTupM_4, gTupM_5, gTupM_6, mFor_ev, retD_nx, retD_rt, retD_rtL, retD_ex, retD_ite, retLs_rtL, retLs_ex, retLs_ite, nth_zero, nth_succ, set_zero, set_succ, add_int, add_str, add_lst, lcat_lst, sub_int', neg_int', lt_int', le_int', gt_int', ge_int', mod_int', fdiv_int, mul_int', mul_str', isN_non, isN_int, notN_non, notN_int, eq_int', ne_int', eq_str', ne_str', eq_bl', ne_bl', len_str', len_lst, len_tup, len_scr, max_int, min_int, sl_str', sl_lst, sl_scr, lsl_lst, lsl_scr, ix_str', ix_lst, ix_tup', ix_scr, range1_ok, range2_ok, range3_ok, mMeth_ev, onStr_str, mComp_ev, mCh_ev, wipeE_nil, wipeE_cons, mYes_ev, int_int, int_bl, asW_lst, asW_tup, asW_scr, asW_str, lt_str', le_str', gt_str', ge_str', mRaise_ev, sum_ints, all_bls, any_bls, list_lst, list_tup, list_scr, sorted_ints', g_find_ev, g_find3_ev, g_find4_ev, g_rfind_ev, g_rfind4_ev, g_count_ev, g_count3_ev, g_count4_ev, g_startswith_ev, g_endswith_ev, Int.reduceToNat, List.getD_cons_zero, List.getD_cons_succ, List.length_map, List.length_reverse, Int.zero_mul, Int.mul_zero, Int.add_zero, Int.mul_one, nc0, nc1, nc2, nc3, nc4, nc5, nc6, nc7, nc8, nc9, nc10, nc11, nc12, nc13, List.cons_append, List.nil_append, decide_true, decide_false, not_false_eq_true, not_true_eq_false, mCallR_ev, retLE_rtL, retDE_rt, flatR_bl, flatR_int, flatR_str, flatR_non, flatR_exc, getOwn_own, mMut0_ev, mSetIx_ev, putIx_ok, rev_lst, lrep_ev, if_small, if_small', rngL_len, endS_nx, endS_rt, in_sign, notIn_sign, isN_str, notN_str, isN_tup, notN_tup, isi_int_int, isi_int_bool, isi_bl_bool, isi_bl_int, isi_str_str, isi_tup_tup, isi_lst_lst, isi_non_int, isi_non_tup, _root_.FL.R.ok_bind, _root_.FL.R.exc_bind, _root_.FL.R.stuck_bind, _root_.FL.R.pure_eq, List.append_nil, List.length_cons, List.length_nil, Nat.zero_add, Nat.reduceAdd, Nat.reduceLeDiff, Nat.reduceLT, decide_eq_true_eq, if_true, if_false, ite_true, ite_false, Bool.true_eq_false, Bool.false_eq_true, Bool.not_true, Bool.not_false, reduceIte, Bool.not_eq_true', decide_eq_false_iff_not, q, h3]⟩
  · have h := mod_bd (c / 2) (b := 13) (by omega)
    have hk := getD_mem (l := thingS) (i := (c / 2 % 13).toNat) (by show _ < 13; omega)
    exact ⟨_, .inr ⟨_, hk, rfl⟩, by simp, by simp -implicitDefEqProofs (disch := first | omega | (simp only [List.length_map, List.length_append, List.length_cons, List.length_nil, List.length_take, List.length_drop, repS_len, rngL_len, List.length_range, List.length_reverse]; done) | (simp only [List.length_map, List.length_append, List.length_cons, List.length_nil, List.length_take, List.length_drop, repS_len, rngL_len, List.length_range, List.length_reverse]; omega)) only [mVar_ev, mVarR_ev, getV_val, getR_val, getR_own, mC_ev, mOp_ev, mOpL_ev, mT_ev, asB_bl, mAnd_ev, mOr_ev, mNot_ev, mAndV_ev, mOrV_ev, mNotV_ev, mIf_ev, mNil_ev, mCons_ev, mTup_ev, mLst_ev, mCall_ev, mPn_ev, mPs_ev, asI_int, mSl_ev, mSlL_ev, asL_lst, asL_scr, asTp_tup, asSt_str, R_ite, mWalk_ev, mLe_ev, mNeg_ev, mSeq_ev, mSkip_ev, bind_nx, bind_rt, bind_rtL, bind_bk, bind_ct, bind_ex, bind_ite, lift_ok, lift_exc, lift_ite, mAsg_ev, mAsgL_ev, mDrop_ev, mRet_ev, mRetL_ev, mRetN_ev, mRetOwn_ev, getO_own, mIfS_ev, mSet1_ev, onO_own, onO_val, mAppend_ev, putO_own, mAsgG_ev, optSO_some, gSet_ev, gsNil_ev, gsCons_ev, obind_some, gTupM_1, gTupM_2, gTupM_3, gTupM_4, gTupM_5, gTupM_6, mFor_ev, retD_nx, retD_rt, retD_rtL, retD_ex, retD_ite, retLs_rtL, retLs_ex, retLs_ite, nth_zero, nth_succ, set_zero, set_succ, add_int, add_str, add_lst, lcat_lst, sub_int', neg_int', lt_int', le_int', gt_int', ge_int', mod_int', fdiv_int, mul_int', mul_str', isN_non, isN_int, notN_non, notN_int, eq_int', ne_int', eq_str', ne_str', eq_bl', ne_bl', len_str', len_lst, len_tup, len_scr, max_int, min_int, sl_str', sl_lst, sl_scr, lsl_lst, lsl_scr, ix_str', ix_lst, ix_tup', ix_scr, range1_ok, range2_ok, range3_ok, mMeth_ev, onStr_str, mComp_ev, mCh_ev, wipeE_nil, wipeE_cons, mYes_ev, int_int, int_bl, asW_lst, asW_tup, asW_scr, asW_str, lt_str', le_str', gt_str', ge_str', mRaise_ev, sum_ints, all_bls, any_bls, list_lst, list_tup, list_scr, sorted_ints', g_find_ev, g_find3_ev, g_find4_ev, g_rfind_ev, g_rfind4_ev, g_count_ev, g_count3_ev, g_count4_ev, g_startswith_ev, g_endswith_ev, Int.reduceToNat, List.getD_cons_zero, List.getD_cons_succ, List.length_map, List.length_reverse, Int.zero_mul, Int.mul_zero, Int.add_zero, Int.mul_one, nc0, nc1, nc2, nc3, nc4, nc5, nc6, nc7, nc8, nc9, nc10, nc11, nc12, nc13, List.cons_append, List.nil_append, decide_true, decide_false, not_false_eq_true, not_true_eq_false, mCallR_ev, retLE_rtL, retDE_rt, flatR_bl, flatR_int, flatR_str, flatR_non, flatR_exc, getOwn_own, mMut0_ev, mSetIx_ev, putIx_ok, rev_lst, lrep_ev, if_small, if_small', rngL_len, endS_nx, endS_rt, in_sign, notIn_sign, isN_str, notN_str, isN_tup, notN_tup, isi_int_int, isi_int_bool, isi_bl_bool, isi_bl_int, isi_str_str, isi_tup_tup, isi_lst_lst, isi_non_int, isi_non_tup, _root_.FL.R.ok_bind, _root_.FL.R.exc_bind, _root_.FL.R.stuck_bind, _root_.FL.R.pure_eq, List.append_nil, List.length_cons, List.length_nil, Nat.zero_add, Nat.reduceAdd, Nat.reduceLeDiff, Nat.reduceLT, decide_eq_true_eq, if_true, if_false, ite_true, ite_false, Bool.true_eq_false, Bool.false_eq_true, Bool.not_true, Bool.not_false, reduceIte, Bool.not_eq_true', decide_eq_false_iff_not, q]; rfl⟩

theorem e_run (c : Int) (b : Nat) (hc : c.natAbs < 2 ^ 1048576) : ∃ s : List Nat, (∀ x ∈ s, x = b ∨ isSg x = true) ∧ s.length ≤ 49 ∧ p__law_run_by [.int c, .str [b]] = .ok (.str s) := by
  rw [u__law_run_by]; unfold b__law_run_by
  have m1 := mod_bd c (b := 7) (by omega)
  have m2 := mod_bd (c / 56) (b := 30) (by omega)
  have m3 := mod_bd c (b := 2147483647) (by omega)
  simp -implicitDefEqProofs (disch := first | omega | (simp only [List.length_map, List.length_append, List.length_cons, List.length_nil, List.length_take, List.length_drop, repS_len, rngL_len, List.length_range, List.length_reverse]; done) | (simp only [List.length_map, List.length_append, List.length_cons, List.length_nil, List.length_take, List.length_drop, repS_len, rngL_len, List.length_range, List.length_reverse]; omega)) only [mVar_ev, mVarR_ev, getV_val, getR_val, getR_own, mC_ev, mOp_ev, mOpL_ev, mT_ev, asB_bl, mAnd_ev, mOr_ev, mNot_ev, mAndV_ev, mOrV_ev, mNotV_ev, mIf_ev, mNil_ev, mCons_ev, mTup_ev, mLst_ev, mCall_ev, mPn_ev, mPs_ev, asI_int, mSl_ev, mSlL_ev, asL_lst, asL_scr, asTp_tup, asSt_str, R_ite, mWalk_ev, mLe_ev, mNeg_ev, mSeq_ev, mSkip_ev, bind_rt, bind_rtL, bind_bk, bind_ct, bind_ex, bind_ite, lift_ok, lift_exc, lift_ite, mAsg_ev, mAsgL_ev, mDrop_ev, mRet_ev, mRetL_ev, mRetN_ev, mRetOwn_ev, getO_own, mIfS_ev, mSet1_ev, onO_own, onO_val, mAppend_ev, putO_own, mAsgG_ev, optSO_some, gSet_ev, gsNil_ev, gsCons_ev, obind_some, gTupM_1, gTupM_2, gTupM_3, gTupM_4, gTupM_5, gTupM_6, mFor_ev, retD_nx, retD_rt, retD_rtL, retD_ex, retD_ite, retLs_rtL, retLs_ex, retLs_ite, nth_zero, nth_succ, set_zero, set_succ, add_int, add_str, add_lst, lcat_lst, sub_int', neg_int', lt_int', le_int', gt_int', ge_int', mod_int', fdiv_int, mul_int', mul_str', isN_non, isN_int, notN_non, notN_int, eq_int', ne_int', eq_str', ne_str', eq_bl', ne_bl', len_str', len_lst, len_tup, len_scr, max_int, min_int, sl_str', sl_lst, sl_scr, lsl_lst, lsl_scr, ix_str', ix_lst, ix_tup', ix_scr, range1_ok, range2_ok, range3_ok, mMeth_ev, onStr_str, mComp_ev, mCh_ev, wipeE_nil, wipeE_cons, mYes_ev, int_int, int_bl, asW_lst, asW_tup, asW_scr, asW_str, lt_str', le_str', gt_str', ge_str', mRaise_ev, sum_ints, all_bls, any_bls, list_lst, list_tup, list_scr, sorted_ints', g_find_ev, g_find3_ev, g_find4_ev, g_rfind_ev, g_rfind4_ev, g_count_ev, g_count3_ev, g_count4_ev, g_startswith_ev, g_endswith_ev, Int.reduceToNat, List.getD_cons_zero, List.getD_cons_succ, List.length_map, List.length_reverse, Int.zero_mul, Int.mul_zero, Int.add_zero, Int.mul_one, nc0, nc1, nc2, nc3, nc4, nc5, nc6, nc7, nc8, nc9, nc10, nc11, nc12, nc13, List.cons_append, List.nil_append, decide_true, decide_false, not_false_eq_true, not_true_eq_false, mCallR_ev, retLE_rtL, retDE_rt, flatR_bl, flatR_int, flatR_str, flatR_non, flatR_exc, getOwn_own, mMut0_ev, mSetIx_ev, putIx_ok, rev_lst, lrep_ev, if_small, if_small', rngL_len, endS_nx, endS_rt, in_sign, notIn_sign, isN_str, notN_str, isN_tup, notN_tup, isi_int_int, isi_int_bool, isi_bl_bool, isi_bl_int, isi_str_str, isi_tup_tup, isi_lst_lst, isi_non_int, isi_non_tup, _root_.FL.R.ok_bind, _root_.FL.R.exc_bind, _root_.FL.R.stuck_bind, _root_.FL.R.pure_eq, List.append_nil, List.length_cons, List.length_nil, Nat.zero_add, Nat.reduceAdd, Nat.reduceLeDiff, Nat.reduceLT, decide_eq_true_eq, if_true, if_false, ite_true, ite_false, Bool.true_eq_false, Bool.false_eq_true, Bool.not_true, Bool.not_false, reduceIte, Bool.not_eq_true', decide_eq_false_iff_not]
  rw [bind_nx]
  have st : ∃ n : Nat, n ≤ 49 ∧ mIfS (mT (mOp D.eq (mOp D.mod (mOp D.fdiv (mVar 0) (mC (.int 7))) (mC (.int 8))) (mC (.int 1))))
      (mAsg 2 (mOp D.add (mC (.int 20)) (mOp D.mod (mOp D.fdiv (mVar 0) (mC (.int 56))) (mC (.int 30)))))
      mSkip [.val (.int c), .val (.str [b]), .val (.int (c % 7)), .no, .no, .no] = .nx [.val (.int c), .val (.str [b]), .val (.int n), .no, .no, .no] := by
    by_cases q : c / 7 % 8 = 1
    · refine ⟨(20 + c / 56 % 30).toNat, by omega, ?_⟩
      have e : (((20 + c / 56 % 30).toNat : Nat) : Int) = 20 + c / 56 % 30 := by omega
      rw [e]
      simp -implicitDefEqProofs (disch := first | omega | (simp only [List.length_map, List.length_append, List.length_cons, List.length_nil, List.length_take, List.length_drop, repS_len, rngL_len, List.length_range, List.length_reverse]; done) | (simp only [List.length_map, List.length_append, List.length_cons, List.length_nil, List.length_take, List.length_drop, repS_len, rngL_len, List.length_range, List.length_reverse]; omega)) only [mVar_ev, mVarR_ev, getV_val, getR_val, getR_own, mC_ev, mOp_ev, mOpL_ev, mT_ev, asB_bl, mAnd_ev, mOr_ev, mNot_ev, mAndV_ev, mOrV_ev, mNotV_ev, mIf_ev, mNil_ev, mCons_ev, mTup_ev, mLst_ev, mCall_ev, mPn_ev, mPs_ev, asI_int, mSl_ev, mSlL_ev, asL_lst, asL_scr, asTp_tup, asSt_str, R_ite, mWalk_ev, mLe_ev, mNeg_ev, mSeq_ev, mSkip_ev, bind_nx, bind_rt, bind_rtL, bind_bk, bind_ct, bind_ex, bind_ite, lift_ok, lift_exc, lift_ite, mAsg_ev, mAsgL_ev, mDrop_ev, mRet_ev, mRetL_ev, mRetN_ev, mRetOwn_ev, getO_own, mIfS_ev, mSet1_ev, onO_own, onO_val, mAppend_ev, putO_own, mAsgG_ev, optSO_some, gSet_ev, gsNil_ev, gsCons_ev, obind_some, gTupM_1, gTupM_2, gTupM_3, gTupM_4, gTupM_5, gTupM_6, mFor_ev, retD_nx, retD_rt, retD_rtL, retD_ex, retD_ite, retLs_rtL, retLs_ex, retLs_ite, nth_zero, nth_succ, set_zero, set_succ, add_int, add_str, add_lst, lcat_lst, sub_int', neg_int', lt_int', le_int', gt_int', ge_int', mod_int', fdiv_int, mul_int', mul_str', isN_non, isN_int, notN_non, notN_int, eq_int', ne_int', eq_str', ne_str', eq_bl', ne_bl', len_str', len_lst, len_tup, len_scr, max_int, min_int, sl_str', sl_lst, sl_scr, lsl_lst, lsl_scr, ix_str', ix_lst, ix_tup', ix_scr, range1_ok, range2_ok, range3_ok, mMeth_ev, onStr_str, mComp_ev, mCh_ev, wipeE_nil, wipeE_cons, mYes_ev, int_int, int_bl, asW_lst, asW_tup, asW_scr, asW_str, lt_str', le_str', gt_str', ge_str', mRaise_ev, sum_ints, all_bls, any_bls, list_lst, list_tup, list_scr, sorted_ints', g_find_ev, g_find3_ev, g_find4_ev, g_rfind_ev, g_rfind4_ev, g_count_ev, g_count3_ev, g_count4_ev, g_startswith_ev, g_endswith_ev, Int.reduceToNat, List.getD_cons_zero, List.getD_cons_succ, List.length_map, List.length_reverse, Int.zero_mul, Int.mul_zero, Int.add_zero, Int.mul_one, nc0, nc1, nc2, nc3, nc4, nc5, nc6, nc7, nc8, nc9, nc10, nc11, nc12, nc13, List.cons_append, List.nil_append, decide_true, decide_false, not_false_eq_true, not_true_eq_false, mCallR_ev, retLE_rtL, retDE_rt, flatR_bl, flatR_int, flatR_str, flatR_non, flatR_exc, getOwn_own, mMut0_ev, mSetIx_ev, putIx_ok, rev_lst, lrep_ev, if_small, if_small', rngL_len, endS_nx, endS_rt, in_sign, notIn_sign, isN_str, notN_str, isN_tup, notN_tup, isi_int_int, isi_int_bool, isi_bl_bool, isi_bl_int, isi_str_str, isi_tup_tup, isi_lst_lst, isi_non_int, isi_non_tup, _root_.FL.R.ok_bind, _root_.FL.R.exc_bind, _root_.FL.R.stuck_bind, _root_.FL.R.pure_eq, List.append_nil, List.length_cons, List.length_nil, Nat.zero_add, Nat.reduceAdd, Nat.reduceLeDiff, Nat.reduceLT, decide_eq_true_eq, if_true, if_false, ite_true, ite_false, Bool.true_eq_false, Bool.false_eq_true, Bool.not_true, Bool.not_false, reduceIte, Bool.not_eq_true', decide_eq_false_iff_not, q]
    · refine ⟨(c % 7).toNat, by omega, ?_⟩
      have e : (((c % 7).toNat : Nat) : Int) = c % 7 := by omega
      rw [e]
      simp -implicitDefEqProofs (disch := first | omega | (simp only [List.length_map, List.length_append, List.length_cons, List.length_nil, List.length_take, List.length_drop, repS_len, rngL_len, List.length_range, List.length_reverse]; done) | (simp only [List.length_map, List.length_append, List.length_cons, List.length_nil, List.length_take, List.length_drop, repS_len, rngL_len, List.length_range, List.length_reverse]; omega)) only [mVar_ev, mVarR_ev, getV_val, getR_val, getR_own, mC_ev, mOp_ev, mOpL_ev, mT_ev, asB_bl, mAnd_ev, mOr_ev, mNot_ev, mAndV_ev, mOrV_ev, mNotV_ev, mIf_ev, mNil_ev, mCons_ev, mTup_ev, mLst_ev, mCall_ev, mPn_ev, mPs_ev, asI_int, mSl_ev, mSlL_ev, asL_lst, asL_scr, asTp_tup, asSt_str, R_ite, mWalk_ev, mLe_ev, mNeg_ev, mSeq_ev, mSkip_ev, bind_nx, bind_rt, bind_rtL, bind_bk, bind_ct, bind_ex, bind_ite, lift_ok, lift_exc, lift_ite, mAsg_ev, mAsgL_ev, mDrop_ev, mRet_ev, mRetL_ev, mRetN_ev, mRetOwn_ev, getO_own, mIfS_ev, mSet1_ev, onO_own, onO_val, mAppend_ev, putO_own, mAsgG_ev, optSO_some, gSet_ev, gsNil_ev, gsCons_ev, obind_some, gTupM_1, gTupM_2, gTupM_3, gTupM_4, gTupM_5, gTupM_6, mFor_ev, retD_nx, retD_rt, retD_rtL, retD_ex, retD_ite, retLs_rtL, retLs_ex, retLs_ite, nth_zero, nth_succ, set_zero, set_succ, add_int, add_str, add_lst, lcat_lst, sub_int', neg_int', lt_int', le_int', gt_int', ge_int', mod_int', fdiv_int, mul_int', mul_str', isN_non, isN_int, notN_non, notN_int, eq_int', ne_int', eq_str', ne_str', eq_bl', ne_bl', len_str', len_lst, len_tup, len_scr, max_int, min_int, sl_str', sl_lst, sl_scr, lsl_lst, lsl_scr, ix_str', ix_lst, ix_tup', ix_scr, range1_ok, range2_ok, range3_ok, mMeth_ev, onStr_str, mComp_ev, mCh_ev, wipeE_nil, wipeE_cons, mYes_ev, int_int, int_bl, asW_lst, asW_tup, asW_scr, asW_str, lt_str', le_str', gt_str', ge_str', mRaise_ev, sum_ints, all_bls, any_bls, list_lst, list_tup, list_scr, sorted_ints', g_find_ev, g_find3_ev, g_find4_ev, g_rfind_ev, g_rfind4_ev, g_count_ev, g_count3_ev, g_count4_ev, g_startswith_ev, g_endswith_ev, Int.reduceToNat, List.getD_cons_zero, List.getD_cons_succ, List.length_map, List.length_reverse, Int.zero_mul, Int.mul_zero, Int.add_zero, Int.mul_one, nc0, nc1, nc2, nc3, nc4, nc5, nc6, nc7, nc8, nc9, nc10, nc11, nc12, nc13, List.cons_append, List.nil_append, decide_true, decide_false, not_false_eq_true, not_true_eq_false, mCallR_ev, retLE_rtL, retDE_rt, flatR_bl, flatR_int, flatR_str, flatR_non, flatR_exc, getOwn_own, mMut0_ev, mSetIx_ev, putIx_ok, rev_lst, lrep_ev, if_small, if_small', rngL_len, endS_nx, endS_rt, in_sign, notIn_sign, isN_str, notN_str, isN_tup, notN_tup, isi_int_int, isi_int_bool, isi_bl_bool, isi_bl_int, isi_str_str, isi_tup_tup, isi_lst_lst, isi_non_int, isi_non_tup, _root_.FL.R.ok_bind, _root_.FL.R.exc_bind, _root_.FL.R.stuck_bind, _root_.FL.R.pure_eq, List.append_nil, List.length_cons, List.length_nil, Nat.zero_add, Nat.reduceAdd, Nat.reduceLeDiff, Nat.reduceLT, decide_eq_true_eq, if_true, if_false, ite_true, ite_false, Bool.true_eq_false, Bool.false_eq_true, Bool.not_true, Bool.not_false, reduceIte, Bool.not_eq_true', decide_eq_false_iff_not, q]
  obtain ⟨n, hn, st⟩ := st
  rw [mSeq_ev, st, bind_nx]
  clear st
  simp -implicitDefEqProofs (disch := first | omega | (simp only [List.length_map, List.length_append, List.length_cons, List.length_nil, List.length_take, List.length_drop, repS_len, rngL_len, List.length_range, List.length_reverse]; done) | (simp only [List.length_map, List.length_append, List.length_cons, List.length_nil, List.length_take, List.length_drop, repS_len, rngL_len, List.length_range, List.length_reverse]; omega)) only [mVar_ev, mVarR_ev, getV_val, getR_val, getR_own, mC_ev, mOp_ev, mOpL_ev, mT_ev, asB_bl, mAnd_ev, mOr_ev, mNot_ev, mAndV_ev, mOrV_ev, mNotV_ev, mIf_ev, mNil_ev, mCons_ev, mTup_ev, mLst_ev, mCall_ev, mPn_ev, mPs_ev, asI_int, mSl_ev, mSlL_ev, asL_lst, asL_scr, asTp_tup, asSt_str, R_ite, mWalk_ev, mLe_ev, mNeg_ev, mSeq_ev, mSkip_ev, bind_rt, bind_rtL, bind_bk, bind_ct, bind_ex, bind_ite, lift_ok, lift_exc, lift_ite, mAsg_ev, mAsgL_ev, mDrop_ev, mRet_ev, mRetL_ev, mRetN_ev, mRetOwn_ev, getO_own, mIfS_ev, mSet1_ev, onO_own, onO_val, mAppend_ev, putO_own, mAsgG_ev, optSO_some, gSet_ev, gsNil_ev, gsCons_ev, obind_some, gTupM_1, gTupM_2, gTupM_3, gTupM_4, gTupM_5, gTupM_6, mFor_ev, retD_nx, retD_rt, retD_rtL, retD_ex, retD_ite, retLs_rtL, retLs_ex, retLs_ite, nth_zero, nth_succ, set_zero, set_succ, add_int, add_str, add_lst, lcat_lst, sub_int', neg_int', lt_int', le_int', gt_int', ge_int', mod_int', fdiv_int, mul_int', mul_str', isN_non, isN_int, notN_non, notN_int, eq_int', ne_int', eq_str', ne_str', eq_bl', ne_bl', len_str', len_lst, len_tup, len_scr, max_int, min_int, sl_str', sl_lst, sl_scr, lsl_lst, lsl_scr, ix_str', ix_lst, ix_tup', ix_scr, range1_ok, range2_ok, range3_ok, mMeth_ev, onStr_str, mComp_ev, mCh_ev, wipeE_nil, wipeE_cons, mYes_ev, int_int, int_bl, asW_lst, asW_tup, asW_scr, asW_str, lt_str', le_str', gt_str', ge_str', mRaise_ev, sum_ints, all_bls, any_bls, list_lst, list_tup, list_scr, sorted_ints', g_find_ev, g_find3_ev, g_find4_ev, g_rfind_ev, g_rfind4_ev, g_count_ev, g_count3_ev, g_count4_ev, g_startswith_ev, g_endswith_ev, Int.reduceToNat, List.getD_cons_zero, List.getD_cons_succ, List.length_map, List.length_reverse, Int.zero_mul, Int.mul_zero, Int.add_zero, Int.mul_one, nc0, nc1, nc2, nc3, nc4, nc5, nc6, nc7, nc8, nc9, nc10, nc11, nc12, nc13, List.cons_append, List.nil_append, decide_true, decide_false, not_false_eq_true, not_true_eq_false, mCallR_ev, retLE_rtL, retDE_rt, flatR_bl, flatR_int, flatR_str, flatR_non, flatR_exc, getOwn_own, mMut0_ev, mSetIx_ev, putIx_ok, rev_lst, lrep_ev, if_small, if_small', rngL_len, endS_nx, endS_rt, in_sign, notIn_sign, isN_str, notN_str, isN_tup, notN_tup, isi_int_int, isi_int_bool, isi_bl_bool, isi_bl_int, isi_str_str, isi_tup_tup, isi_lst_lst, isi_non_int, isi_non_tup, _root_.FL.R.ok_bind, _root_.FL.R.exc_bind, _root_.FL.R.stuck_bind, _root_.FL.R.pure_eq, List.append_nil, List.length_cons, List.length_nil, Nat.zero_add, Nat.reduceAdd, Nat.reduceLeDiff, Nat.reduceLT, decide_eq_true_eq, if_true, if_false, ite_true, ite_false, Bool.true_eq_false, Bool.false_eq_true, Bool.not_true, Bool.not_false, reduceIte, Bool.not_eq_true', decide_eq_false_iff_not]
  rw [bind_nx]
  simp -implicitDefEqProofs (disch := first | omega | (simp only [List.length_map, List.length_append, List.length_cons, List.length_nil, List.length_take, List.length_drop, repS_len, rngL_len, List.length_range, List.length_reverse]; done) | (simp only [List.length_map, List.length_append, List.length_cons, List.length_nil, List.length_take, List.length_drop, repS_len, rngL_len, List.length_range, List.length_reverse]; omega)) only [mVar_ev, mVarR_ev, getV_val, getR_val, getR_own, mC_ev, mOp_ev, mOpL_ev, mT_ev, asB_bl, mAnd_ev, mOr_ev, mNot_ev, mAndV_ev, mOrV_ev, mNotV_ev, mIf_ev, mNil_ev, mCons_ev, mTup_ev, mLst_ev, mCall_ev, mPn_ev, mPs_ev, asI_int, mSl_ev, mSlL_ev, asL_lst, asL_scr, asTp_tup, asSt_str, R_ite, mWalk_ev, mLe_ev, mNeg_ev, mSeq_ev, mSkip_ev, bind_rt, bind_rtL, bind_bk, bind_ct, bind_ex, bind_ite, lift_ok, lift_exc, lift_ite, mAsg_ev, mAsgL_ev, mDrop_ev, mRet_ev, mRetL_ev, mRetN_ev, mRetOwn_ev, getO_own, mIfS_ev, mSet1_ev, onO_own, onO_val, mAppend_ev, putO_own, mAsgG_ev, optSO_some, gSet_ev, gsNil_ev, gsCons_ev, obind_some, gTupM_1, gTupM_2, gTupM_3, gTupM_4, gTupM_5, gTupM_6, mFor_ev, retD_nx, retD_rt, retD_rtL, retD_ex, retD_ite, retLs_rtL, retLs_ex, retLs_ite, nth_zero, nth_succ, set_zero, set_succ, add_int, add_str, add_lst, lcat_lst, sub_int', neg_int', lt_int', le_int', gt_int', ge_int', mod_int', fdiv_int, mul_int', mul_str', isN_non, isN_int, notN_non, notN_int, eq_int', ne_int', eq_str', ne_str', eq_bl', ne_bl', len_str', len_lst, len_tup, len_scr, max_int, min_int, sl_str', sl_lst, sl_scr, lsl_lst, lsl_scr, ix_str', ix_lst, ix_tup', ix_scr, range1_ok, range2_ok, range3_ok, mMeth_ev, onStr_str, mComp_ev, mCh_ev, wipeE_nil, wipeE_cons, mYes_ev, int_int, int_bl, asW_lst, asW_tup, asW_scr, asW_str, lt_str', le_str', gt_str', ge_str', mRaise_ev, sum_ints, all_bls, any_bls, list_lst, list_tup, list_scr, sorted_ints', g_find_ev, g_find3_ev, g_find4_ev, g_rfind_ev, g_rfind4_ev, g_count_ev, g_count3_ev, g_count4_ev, g_startswith_ev, g_endswith_ev, Int.reduceToNat, List.getD_cons_zero, List.getD_cons_succ, List.length_map, List.length_reverse, Int.zero_mul, Int.mul_zero, Int.add_zero, Int.mul_one, nc0, nc1, nc2, nc3, nc4, nc5, nc6, nc7, nc8, nc9, nc10, nc11, nc12, nc13, List.cons_append, List.nil_append, decide_true, decide_false, not_false_eq_true, not_true_eq_false, mCallR_ev, retLE_rtL, retDE_rt, flatR_bl, flatR_int, flatR_str, flatR_non, flatR_exc, getOwn_own, mMut0_ev, mSetIx_ev, putIx_ok, rev_lst, lrep_ev, if_small, if_small', rngL_len, endS_nx, endS_rt, in_sign, notIn_sign, isN_str, notN_str, isN_tup, notN_tup, isi_int_int, isi_int_bool, isi_bl_bool, isi_bl_int, isi_str_str, isi_tup_tup, isi_lst_lst, isi_non_int, isi_non_tup, _root_.FL.R.ok_bind, _root_.FL.R.exc_bind, _root_.FL.R.stuck_bind, _root_.FL.R.pure_eq, List.append_nil, List.length_cons, List.length_nil, Nat.zero_add, Nat.reduceAdd, Nat.reduceLeDiff, Nat.reduceLT, decide_eq_true_eq, if_true, if_false, ite_true, ite_false, Bool.true_eq_false, Bool.false_eq_true, Bool.not_true, Bool.not_false, reduceIte, Bool.not_eq_true', decide_eq_false_iff_not]
  obtain ⟨Γ', e, s, x, y, rfl, h1, h2⟩ := forL_end (g := gSet 4) (body := b__law_run_by_l1) (ds := rngL 0 1 ((n : Int)).toNat) (Γ := [.val (.int c), .val (.str [b]), .val (.int n), .val (.str []), .no, .no])
    (fun i Γ => ∃ s : List Nat, ∃ x y, Γ = [.val (.int c), .val (.str [b]), .val (.int n), .val (.str s), x, y] ∧ (∀ z ∈ s, z = b ∨ isSg z = true) ∧ s.length = i) ⟨[], .no, .no, rfl, (fun z h => by cases h), rfl⟩ (fun i d Γ hd ⟨s, x, y, hΓ, h1, h2⟩ => by
      obtain ⟨hi, rfl⟩ := rngL_get hd
      subst hΓ
      refine ⟨_, gSet_ev _, ?_⟩
      unfold b__law_run_by_l1
      have e0 : (0 : Int) + (i : Int) * 1 = i := by omega
      rw [e0]
      have hi2 : i ≤ 49 := by omega
      have k1 : i * i ≤ 49 * 49 := Nat.mul_le_mul hi2 hi2
      have k2 : (69621 : Int) * i * i = 69621 * ((i * i : Nat) : Int) := by rw [Int.natCast_mul, Int.mul_assoc]
      have k3 : 0 ≤ (69621 : Int) * i * i ∧ (69621 : Int) * i * i ≤ 200000000 := by rw [k2]; omega
      simp -implicitDefEqProofs (disch := first | omega | (simp only [List.length_map, List.length_append, List.length_cons, List.length_nil, List.length_take, List.length_drop, repS_len, rngL_len, List.length_range, List.length_reverse]; done) | (simp only [List.length_map, List.length_append, List.length_cons, List.length_nil, List.length_take, List.length_drop, repS_len, rngL_len, List.length_range, List.length_reverse]; omega)) only [mVar_ev, mVarR_ev, getV_val, getR_val, getR_own, mC_ev, mOp_ev, mOpL_ev, mT_ev, asB_bl, mAnd_ev, mOr_ev, mNot_ev, mAndV_ev, mOrV_ev, mNotV_ev, mIf_ev, mNil_ev, mCons_ev, mTup_ev, mLst_ev, mCall_ev, mPn_ev, mPs_ev, asI_int, mSl_ev, mSlL_ev, asL_lst, asL_scr, asTp_tup, asSt_str, R_ite, mWalk_ev, mLe_ev, mNeg_ev, mSeq_ev, mSkip_ev, bind_rt, bind_rtL, bind_bk, bind_ct, bind_ex, bind_ite, lift_ok, lift_exc, lift_ite, mAsg_ev, mAsgL_ev, mDrop_ev, mRet_ev, mRetL_ev, mRetN_ev, mRetOwn_ev, getO_own, mIfS_ev, mSet1_ev, onO_own, onO_val, mAppend_ev, putO_own, mAsgG_ev, optSO_some, gSet_ev, gsNil_ev, gsCons_ev, obind_some, gTupM_1, gTupM_2, gTupM_3, gTupM_4, gTupM_5, gTupM_6, mFor_ev, retD_nx, retD_rt, retD_rtL, retD_ex, retD_ite, retLs_rtL, retLs_ex, retLs_ite, nth_zero, nth_succ, set_zero, set_succ, add_int, add_str, add_lst, lcat_lst, sub_int', neg_int', lt_int', le_int', gt_int', ge_int', mod_int', fdiv_int, mul_int', mul_str', isN_non, isN_int, notN_non, notN_int, eq_int', ne_int', eq_str', ne_str', eq_bl', ne_bl', len_str', len_lst, len_tup, len_scr, max_int, min_int, sl_str', sl_lst, sl_scr, lsl_lst, lsl_scr, ix_str', ix_lst, ix_tup', ix_scr, range1_ok, range2_ok, range3_ok, mMeth_ev, onStr_str, mComp_ev, mCh_ev, wipeE_nil, wipeE_cons, mYes_ev, int_int, int_bl, asW_lst, asW_tup, asW_scr, asW_str, lt_str', le_str', gt_str', ge_str', mRaise_ev, sum_ints, all_bls, any_bls, list_lst, list_tup, list_scr, sorted_ints', g_find_ev, g_find3_ev, g_find4_ev, g_rfind_ev, g_rfind4_ev, g_count_ev, g_count3_ev, g_count4_ev, g_startswith_ev, g_endswith_ev, Int.reduceToNat, List.getD_cons_zero, List.getD_cons_succ, List.length_map, List.length_reverse, Int.zero_mul, Int.mul_zero, Int.add_zero, Int.mul_one, nc0, nc1, nc2, nc3, nc4, nc5, nc6, nc7, nc8, nc9, nc10, nc11, nc12, nc13, List.cons_append, List.nil_append, decide_true, decide_false, not_false_eq_true, not_true_eq_false, mCallR_ev, retLE_rtL, retDE_rt, flatR_bl, flatR_int, flatR_str, flatR_non, flatR_exc, getOwn_own, mMut0_ev, mSetIx_ev, putIx_ok, rev_lst, lrep_ev, if_small, if_small', rngL_len, endS_nx, endS_rt, in_sign, notIn_sign, isN_str, notN_str, isN_tup, notN_tup, isi_int_int, isi_int_bool, isi_bl_bool, isi_bl_int, isi_str_str, isi_tup_tup, isi_lst_lst, isi_non_int, isi_non_tup, _root_.FL.R.ok_bind, _root_.FL.R.exc_bind, _root_.FL.R.stuck_bind, _root_.FL.R.pure_eq, List.append_nil, List.length_cons, List.length_nil, Nat.zero_add, Nat.reduceAdd, Nat.reduceLeDiff, Nat.reduceLT, decide_eq_true_eq, if_true, if_false, ite_true, ite_false, Bool.true_eq_false, Bool.false_eq_true, Bool.not_true, Bool.not_false, reduceIte, Bool.not_eq_true', decide_eq_false_iff_not]
      generalize (c % 2147483647 + 7919) * (48271 + 69621 * (i : Int) * i) % 2147483629 = m
      rw [bind_nx]
      by_cases q : m % 9 = 4
      · simp -implicitDefEqProofs (disch := first | omega | (simp only [List.length_map, List.length_append, List.length_cons, List.length_nil, List.length_take, List.length_drop, repS_len, rngL_len, List.length_range, List.length_reverse]; done) | (simp only [List.length_map, List.length_append, List.length_cons, List.length_nil, List.length_take, List.length_drop, repS_len, rngL_len, List.length_range, List.length_reverse]; omega)) only [mVar_ev, mVarR_ev, getV_val, getR_val, getR_own, mC_ev, mOp_ev, mOpL_ev, mT_ev, asB_bl, mAnd_ev, mOr_ev, mNot_ev, mAndV_ev, mOrV_ev, mNotV_ev, mIf_ev, mNil_ev, mCons_ev, mTup_ev, mLst_ev, mCall_ev, mPn_ev, mPs_ev, asI_int, mSl_ev, mSlL_ev, asL_lst, asL_scr, asTp_tup, asSt_str, R_ite, mWalk_ev, mLe_ev, mNeg_ev, mSeq_ev, mSkip_ev, bind_nx, bind_rt, bind_rtL, bind_bk, bind_ct, bind_ex, bind_ite, lift_ok, lift_exc, lift_ite, mAsg_ev, mAsgL_ev, mDrop_ev, mRet_ev, mRetL_ev, mRetN_ev, mRetOwn_ev, getO_own, mIfS_ev, mSet1_ev, onO_own, onO_val, mAppend_ev, putO_own, mAsgG_ev, optSO_some, gSet_ev, gsNil_ev, gsCons_ev, obind_some, gTupM_1, gTupM_2, gTupM_3, gTupM_4, gTupM_5, gTupM_6, mFor_ev, retD_nx, retD_rt, retD_rtL, retD_ex, retD_ite, retLs_rtL, retLs_ex, retLs_ite, nth_zero, nth_succ, set_zero, set_succ, add_int, add_str, add_lst, lcat_lst, sub_int', neg_int', lt_int', le_int', gt_int', ge_int', mod_int', fdiv_int, mul_int', mul_str', isN_non, isN_int, notN_non, notN_int, eq_int', ne_int', eq_str', ne_str', eq_bl', ne_bl', len_str', len_lst, len_tup, len_scr, max_int, min_int, sl_str', sl_lst, sl_scr, lsl_lst, lsl_scr, ix_str', ix_lst, ix_tup', ix_scr, range1_ok, range2_ok, range3_ok, mMeth_ev, onStr_str, mComp_ev, mCh_ev, wipeE_nil, wipeE_cons, mYes_ev, int_int, int_bl, asW_lst, asW_tup, asW_scr, asW_str, lt_str', le_str', gt_str', ge_str', mRaise_ev, sum_ints, all_bls, any_bls, list_lst, list_tup, list_scr, sorted_ints', g_find_ev, g_find3_ev, g_find4_ev, g_rfind_ev, g_rfind4_ev, g_count_ev, g_count3_ev, g_count4_ev, g_startswith_ev, g_endswith_ev, Int.reduceToNat, List.getD_cons_zero, List.getD_cons_succ, List.length_map, List.length_reverse, Int.zero_mul, Int.mul_zero, Int.add_zero, Int.mul_one, nc0, nc1, nc2, nc3, nc4, nc5, nc6, nc7, nc8, nc9, nc10, nc11, nc12, nc13, List.cons_append, List.nil_append, decide_true, decide_false, not_false_eq_true, not_true_eq_false, mCallR_ev, retLE_rtL, retDE_rt, flatR_bl, flatR_int, flatR_str, flatR_non, flatR_exc, getOwn_own, mMut0_ev, mSetIx_ev, putIx_ok, rev_lst, lrep_ev, if_small, if_small', rngL_len, endS_nx, endS_rt, in_sign, notIn_sign, isN_str, notN_str, isN_tup, notN_tup, isi_int_int, isi_int_bool, isi_bl_bool, isi_bl_int, isi_str_str, isi_tup_tup, isi_lst_lst, isi_non_int, isi_non_tup, _root_.FL.R.ok_bind, _root_.FL.R.exc_bind, _root_.FL.R.stuck_bind, _root_.FL.R.pure_eq, List.append_nil, List.length_cons, List.length_nil, Nat.zero_add, Nat.reduceAdd, Nat.reduceLeDiff, Nat.reduceLT, decide_eq_true_eq, if_true, if_false, ite_true, ite_false, Bool.true_eq_false, Bool.false_eq_true, Bool.not_true, Bool.not_false, reduceIte, Bool.not_eq_true', decide_eq_false_iff_not, q]
        refine ⟨_, .inl rfl, s ++ [b], _, _, rfl, fun z hz => ?_, by rw [List.length_append, h2]; rfl⟩
        rcases List.mem_append.mp hz with y | y
        · exact h1 z y
        · exact .inl (List.mem_singleton.mp y)
      · obtain ⟨t, ht, e⟩ := e_sign_by (m / 9)
        simp -implicitDefEqProofs (disch := first | omega | (simp only [List.length_map, List.length_append, List.length_cons, List.length_nil, List.length_take, List.length_drop, repS_len, rngL_len, List.length_range, List.length_reverse]; done) | (simp only [List.length_map, List.length_append, List.length_cons, List.length_nil, List.length_take, List.length_drop, repS_len, rngL_len, List.length_range, List.length_reverse]; omega)) only [mVar_ev, mVarR_ev, getV_val, getR_val, getR_own, mC_ev, mOp_ev, mOpL_ev, mT_ev, asB_bl, mAnd_ev, mOr_ev, mNot_ev, mAndV_ev, mOrV_ev, mNotV_ev, mIf_ev, mNil_ev, mCons_ev, mTup_ev, mLst_ev, mCall_ev, mPn_ev, mPs_ev, asI_int, mSl_ev, mSlL_ev, asL_lst, asL_scr, asTp_tup, asSt_str, R_ite, mWalk_ev, mLe_ev, mNeg_ev, mSeq_ev, mSkip_ev, bind_nx, bind_rt, bind_rtL, bind_bk, bind_ct, bind_ex, bind_ite, lift_ok, lift_exc, lift_ite, mAsg_ev, mAsgL_ev, mDrop_ev, mRet_ev, mRetL_ev, mRetN_ev, mRetOwn_ev, getO_own, mIfS_ev, mSet1_ev, onO_own, onO_val, mAppend_ev, putO_own, mAsgG_ev, optSO_some, gSet_ev, gsNil_ev, gsCons_ev, obind_some, gTupM_1, gTupM_2, gTupM_3, gTupM_4, gTupM_5, gTupM_6, mFor_ev, retD_nx, retD_rt, retD_rtL, retD_ex, retD_ite, retLs_rtL, retLs_ex, retLs_ite, nth_zero, nth_succ, set_zero, set_succ, add_int, add_str, add_lst, lcat_lst, sub_int', neg_int', lt_int', le_int', gt_int', ge_int', mod_int', fdiv_int, mul_int', mul_str', isN_non, isN_int, notN_non, notN_int, eq_int', ne_int', eq_str', ne_str', eq_bl', ne_bl', len_str', len_lst, len_tup, len_scr, max_int, min_int, sl_str', sl_lst, sl_scr, lsl_lst, lsl_scr, ix_str', ix_lst, ix_tup', ix_scr, range1_ok, range2_ok, range3_ok, mMeth_ev, onStr_str, mComp_ev, mCh_ev, wipeE_nil, wipeE_cons, mYes_ev, int_int, int_bl, asW_lst, asW_tup, asW_scr, asW_str, lt_str', le_str', gt_str', ge_str', mRaise_ev, sum_ints, all_bls, any_bls, list_lst, list_tup, list_scr, sorted_ints', g_find_ev, g_find3_ev, g_find4_ev, g_rfind_ev, g_rfind4_ev, g_count_ev, g_count3_ev, g_count4_ev, g_startswith_ev, g_endswith_ev, Int.reduceToNat, List.getD_cons_zero, List.getD_cons_succ, List.length_map, List.length_reverse, Int.zero_mul, Int.mul_zero, Int.add_zero, Int.mul_one, nc0, nc1, nc2, nc3, nc4, nc5, nc6, nc7, nc8, nc9, nc10, nc11, nc12, nc13, List.cons_append, List.nil_append, decide_true, decide_false, not_false_eq_true, not_true_eq_false, mCallR_ev, retLE_rtL, retDE_rt, flatR_bl, flatR_int, flatR_str, flatR_non, flatR_exc, getOwn_own, mMut0_ev, mSetIx_ev, putIx_ok, rev_lst, lrep_ev, if_small, if_small', rngL_len, endS_nx, endS_rt, in_sign, notIn_sign, isN_str, notN_str, isN_tup, notN_tup, isi_int_int, isi_int_bool, isi_bl_bool, isi_bl_int, isi_str_str, isi_tup_tup, isi_lst_lst, isi_non_int, isi_non_tup, _root_.FL.R.ok_bind, _root_.FL.R.exc_bind, _root_.FL.R.stuck_bind, _root_.FL.R.pure_eq, List.append_nil, List.length_cons, List.length_nil, Nat.zero_add, Nat.reduceAdd, Nat.reduceLeDiff, Nat.reduceLT, decide_eq_true_eq, if_true, if_false, ite_true, ite_false, Bool.true_eq_false, Bool.false_eq_true, Bool.not_true, Bool.not_false, reduceIte, Bool.not_eq_true', decide_eq_false_iff_not, q, e]
        refine ⟨_, .inl rfl, s ++ [t], _, _, rfl, fun z hz => ?_, by rw [List.length_append, h2]; rfl⟩
        rcases List.mem_append.mp hz with y | y
        · exact h1 z y
        · rw [List.mem_singleton.mp y]; exact .inr ht)
  rw [e]
  rw [rngL_len] at h2
  exact ⟨s, h1, by omega, by simp -implicitDefEqProofs (disch := first | omega | (simp only [List.length_map, List.length_append, List.length_cons, List.length_nil, List.length_take, List.length_drop, repS_len, rngL_len, List.length_range, List.length_reverse]; done) | (simp only [List.length_map, List.length_append, List.length_cons, List.length_nil, List.length_take, List.length_drop, repS_len, rngL_len, List.length_range, List.length_reverse]; omega)) only [mVar_ev, mVarR_ev, getV_val, getR_val, getR_own, mC_ev, mOp_ev, mOpL_ev, mT_ev, asB_bl, mAnd_ev, mOr_ev, mNot_ev, mAndV_ev, mOrV_ev, mNotV_ev, mIf_ev, mNil_ev, mCons_ev, mTup_ev, mLst_ev, mCall_ev, mPn_ev, mPs_ev, asI_int, mSl_ev, mSlL_ev, asL_lst, asL_scr, asTp_tup, asSt_str, R_ite, mWalk_ev, mLe_ev, mNeg_ev, mSeq_ev, mSkip_ev, bind_nx, bind_rt, bind_rtL, bind_bk, bind_ct, bind_ex, bind_ite, lift_ok, lift_exc, lift_ite, mAsg_ev, mAsgL_ev, mDrop_ev, mRet_ev, mRetL_ev, mRetN_ev, mRetOwn_ev, getO_own, mIfS_ev, mSet1_ev, onO_own, onO_val, mAppend_ev, putO_own, mAsgG_ev, optSO_some, gSet_ev, gsNil_ev, gsCons_ev, obind_some, gTupM_1, gTupM_2, gTupM_3, gTupM_4, gTupM_5, gTupM_6, mFor_ev, retD_nx, retD_rt, retD_rtL, retD_ex, retD_ite, retLs_rtL, retLs_ex, retLs_ite, nth_zero, nth_succ, set_zero, set_succ, add_int, add_str, add_lst, lcat_lst, sub_int', neg_int', lt_int', le_int', gt_int', ge_int', mod_int', fdiv_int, mul_int', mul_str', isN_non, isN_int, notN_non, notN_int, eq_int', ne_int', eq_str', ne_str', eq_bl', ne_bl', len_str', len_lst, len_tup, len_scr, max_int, min_int, sl_str', sl_lst, sl_scr, lsl_lst, lsl_scr, ix_str', ix_lst, ix_tup', ix_scr, range1_ok, range2_ok, range3_ok, mMeth_ev, onStr_str, mComp_ev, mCh_ev, wipeE_nil, wipeE_cons, mYes_ev, int_int, int_bl, asW_lst, asW_tup, asW_scr, asW_str, lt_str', le_str', gt_str', ge_str', mRaise_ev, sum_ints, all_bls, any_bls, list_lst, list_tup, list_scr, sorted_ints', g_find_ev, g_find3_ev, g_find4_ev, g_rfind_ev, g_rfind4_ev, g_count_ev, g_count3_ev, g_count4_ev, g_startswith_ev, g_endswith_ev, Int.reduceToNat, List.getD_cons_zero, List.getD_cons_succ, List.length_map, List.length_reverse, Int.zero_mul, Int.mul_zero, Int.add_zero, Int.mul_one, nc0, nc1, nc2, nc3, nc4, nc5, nc6, nc7, nc8, nc9, nc10, nc11, nc12, nc13, List.cons_append, List.nil_append, decide_true, decide_false, not_false_eq_true, not_true_eq_false, mCallR_ev, retLE_rtL, retDE_rt, flatR_bl, flatR_int, flatR_str, flatR_non, flatR_exc, getOwn_own, mMut0_ev, mSetIx_ev, putIx_ok, rev_lst, lrep_ev, if_small, if_small', rngL_len, endS_nx, endS_rt, in_sign, notIn_sign, isN_str, notN_str, isN_tup, notN_tup, isi_int_int, isi_int_bool, isi_bl_bool, isi_bl_int, isi_str_str, isi_tup_tup, isi_lst_lst, isi_non_int, isi_non_tup, _root_.FL.R.ok_bind, _root_.FL.R.exc_bind, _root_.FL.R.stuck_bind, _root_.FL.R.pure_eq, List.append_nil, List.length_cons, List.length_nil, Nat.zero_add, Nat.reduceAdd, Nat.reduceLeDiff, Nat.reduceLT, decide_eq_true_eq, if_true, if_false, ite_true, ite_false, Bool.true_eq_false, Bool.false_eq_true, Bool.not_true, Bool.not_false, reduceIte, Bool.not_eq_true', decide_eq_false_iff_not]⟩
theorem e_typed_by (v : List Nat) (c : Int) (hc : c.natAbs < 2 ^ 1048576) : ∃ ty, TyOk v ty ∧ ty.length ≤ 49 ∧ p__law_typed_by [.str v, .int c] = .ok (.str ty) := by
  rw [u__law_typed_by]; unfold b__law_typed_by TyOk
  have i1 : D.in_ (.str v) (.lst [.str [88], .str [84]]) = .ok (.bl (decide (v ∈ [[88], [84]]))) := in_lstS v [[88], [84]]
  have i2 : D.in_ (.str v) (.lst [.str [77], .str [75], .str [64]]) = .ok (.bl (decide (v ∈ [[77], [75], [64]]))) := in_lstS v [[77], [75], [64]]
  by_cases q1 : v = [88] ∨ v = [84]
  · obtain ⟨s, h1, h2, h3⟩ := e_run c 10 hc
    have q1' : v ∈ [[88], [84]] := by simpa using q1
    exact ⟨s, by rw [if_pos q1]; exact h1, h2, by simp -implicitDefEqProofs (disch := first | omega | (simp only [List.length_map, List.length_append, List.length_cons, List.length_nil, List.length_take, List.length_drop, repS_len, rngL_len, List.length_range, List.length_reverse]; done) | (simp only [List.length_map, List.length_append, List.length_cons, List.length_nil, List.length_take, List.length_drop, repS_len, rngL_len, List.length_range, List.length_reverse]; omega)) only [mVar_ev, mVarR_ev, getV_val, getR_val, getR_own, mC_ev, mOp_ev, mOpL_ev, mT_ev, asB_bl, mAnd_ev, mOr_ev, mNot_ev, mAndV_ev, mOrV_ev, mNotV_ev, mIf_ev, mNil_ev, mCons_ev, mTup_ev, mLst_ev, mCall_ev, mPn_ev, mPs_ev, asI_int, mSl_ev, mSlL_ev, asL_lst, asL_scr, asTp_tup, asSt_str, R_ite, mWalk_ev, mLe_ev, mNeg_ev, mSeq_ev, mSkip_ev, bind_nx, bind_rt, bind_rtL, bind_bk, bind_ct, bind_ex, bind_ite, lift_ok, lift_exc, lift_ite, mAsg_ev, mAsgL_ev, mDrop_ev, mRet_ev, mRetL_ev, mRetN_ev, mRetOwn_ev, getO_own, mIfS_ev, mSet1_ev, onO_own, onO_val, mAppend_ev, putO_own, mAsgG_ev, optSO_some, gSet_ev, gsNil_ev, gsCons_ev, obind_some, gTupM_1, gTupM_2, gTupM_3, gTupM_4, gTupM_5, gTupM_6, mFor_ev, retD_nx, retD_rt, retD_rtL, retD_ex, retD_ite, retLs_rtL, retLs_ex, retLs_ite, nth_zero, nth_succ, set_zero, set_succ, add_int, add_str, add_lst, lcat_lst, sub_int', neg_int', lt_int', le_int', gt_int', ge_int', mod_int', fdiv_int, mul_int', mul_str', isN_non, isN_int, notN_non, notN_int, eq_int', ne_int', eq_str', ne_str', eq_bl', ne_bl', len_str', len_lst, len_tup, len_scr, max_int, min_int, sl_str', sl_lst, sl_scr, lsl_lst, lsl_scr, ix_str', ix_lst, ix_tup', ix_scr, range1_ok, range2_ok, range3_ok, mMeth_ev, onStr_str, mComp_ev, mCh_ev, wipeE_nil, wipeE_cons, mYes_ev, int_int, int_bl, asW_lst, asW_tup, asW_scr, asW_str, lt_str', le_str', gt_str', ge_str', mRaise_ev, sum_ints, all_bls, any_bls, list_lst, list_tup, list_scr, sorted_ints', g_find_ev, g_find3_ev, g_find4_ev, g_rfind_ev, g_rfind4_ev, g_count_ev, g_count3_ev, g_count4_ev, g_startswith_ev, g_endswith_ev, Int.reduceToNat, List.getD_cons_zero, List.getD_cons_succ, List.length_map, List.length_reverse, Int.zero_mul, Int.mul_zero, Int.add_zero, Int.mul_one, nc0, nc1, nc2, nc3, nc4, nc5, nc6, nc7, nc8, nc9, nc10, nc11, nc12, nc13, List.cons_append, List.nil_append, decide_true, decide_false, not_false_eq_true, not_true_eq_false, mCallR_ev, retLE_rtL, retDE_rt, flatR_bl, flatR_int, flatR_str, flatR_non, flatR_exc, getOwn_own, mMut0_ev, mSetIx_ev, putIx_ok, rev_lst, lrep_ev, if_small, if_small', rngL_len, endS_nx, endS_rt, in_sign, notIn_sign, isN_str, notN_str, isN_tup, notN_tup, isi_int_int, isi_int_bool, isi_bl_bool, isi_bl_int, isi_str_str, isi_tup_tup, isi_lst_lst, isi_non_int, isi_non_tup, _root_.FL.R.ok_bind, _root_.FL.R.exc_bind, _root_.FL.R.stuck_bind, _root_.FL.R.pure_eq, List.append_nil, List.length_cons, List.length_nil, Nat.zero_add, Nat.reduceAdd, Nat.reduceLeDiff, Nat.reduceLT, decide_eq_true_eq, if_true, if_false, ite_true, ite_false, Bool.true_eq_false, Bool.false_eq_true, Bool.not_true, Bool.not_false, reduceIte, Bool.not_eq_true', decide_eq_false_iff_not, i1, q1', h3]⟩
  have q1' : ¬ v ∈ [[88], [84]] := by simpa using q1
  by_cases q2 : v = [58]
  · obtain ⟨s, h1, h2, h3⟩ := e_run c 126 hc
    have z : ¬ ([58] : List Nat) ∈ [[88], [84]] := by decide
    subst q2
    exact ⟨s, by rw [if_neg q1, if_pos rfl]; exact h1, h2, by simp -implicitDefEqProofs (disch := first | omega | (simp only [List.length_map, List.length_append, List.length_cons, List.length_nil, List.length_take, List.length_drop, repS_len, rngL_len, List.length_range, List.length_reverse]; done) | (simp only [List.length_map, List.length_append, List.length_cons, List.length_nil, List.length_take, List.length_drop, repS_len, rngL_len, List.length_range, List.length_reverse]; omega)) only [mVar_ev, mVarR_ev, getV_val, getR_val, getR_own, mC_ev, mOp_ev, mOpL_ev, mT_ev, asB_bl, mAnd_ev, mOr_ev, mNot_ev, mAndV_ev, mOrV_ev, mNotV_ev, mIf_ev, mNil_ev, mCons_ev, mTup_ev, mLst_ev, mCall_ev, mPn_ev, mPs_ev, asI_int, mSl_ev, mSlL_ev, asL_lst, asL_scr, asTp_tup, asSt_str, R_ite, mWalk_ev, mLe_ev, mNeg_ev, mSeq_ev, mSkip_ev, bind_nx, bind_rt, bind_rtL, bind_bk, bind_ct, bind_ex, bind_ite, lift_ok, lift_exc, lift_ite, mAsg_ev, mAsgL_ev, mDrop_ev, mRet_ev, mRetL_ev, mRetN_ev, mRetOwn_ev, getO_own, mIfS_ev, mSet1_ev, onO_own, onO_val, mAppend_ev, putO_own, mAsgG_ev, optSO_some, gSet_ev, gsNil_ev, gsCons_ev, obind_some, gTupM_1, gTupM_2, gTupM_3, gTupM_4, gTupM_5, gTupM_6, mFor_ev, retD_nx, retD_rt, retD_rtL, retD_ex, retD_ite, retLs_rtL, retLs_ex, retLs_ite, nth_zero, nth_succ, set_zero, set_succ, add_int, add_str, add_lst, lcat_lst, sub_int', neg_int', lt_int', le_int', gt_int', ge_int', mod_int', fdiv_int, mul_int', mul_str', isN_non, isN_int, notN_non, notN_int, eq_int', ne_int', eq_str', ne_str', eq_bl', ne_bl', len_str', len_lst, len_tup, len_scr, max_int, min_int, sl_str', sl_lst, sl_scr, lsl_lst, lsl_scr, ix_str', ix_lst, ix_tup', ix_scr, range1_ok, range2_ok, range3_ok, mMeth_ev, onStr_str, mComp_ev, mCh_ev, wipeE_nil, wipeE_cons, mYes_ev, int_int, int_bl, asW_lst, asW_tup, asW_scr, asW_str, lt_str', le_str', gt_str', ge_str', mRaise_ev, sum_ints, all_bls, any_bls, list_lst, list_tup, list_scr, sorted_ints', g_find_ev, g_find3_ev, g_find4_ev, g_rfind_ev, g_rfind4_ev, g_count_ev, g_count3_ev, g_count4_ev, g_startswith_ev, g_endswith_ev, Int.reduceToNat, List.getD_cons_zero, List.getD_cons_succ, List.length_map, List.length_reverse, Int.zero_mul, Int.mul_zero, Int.add_zero, Int.mul_one, nc0, nc1, nc2, nc3, nc4, nc5, nc6, nc7, nc8, nc9, nc10, nc11, nc12, nc13, List.cons_append, List.nil_append, decide_true, decide_false, not_false_eq_true, not_true_eq_false, mCallR_ev, retLE_rtL, retDE_rt, flatR_bl, flatR_int, flatR_str, flatR_non, flatR_exc, getOwn_own, mMut0_ev, mSetIx_ev, putIx_ok, rev_lst, lrep_ev, if_small, if_small', rngL_len, endS_nx, endS_rt, in_sign, notIn_sign, isN_str, notN_str, isN_tup, notN_tup, isi_int_int, isi_int_bool, isi_bl_bool, isi_bl_int, isi_str_str, isi_tup_tup, isi_lst_lst, isi_non_int, isi_non_tup, _root_.FL.R.ok_bind, _root_.FL.R.exc_bind, _root_.FL.R.stuck_bind, _root_.FL.R.pure_eq, List.append_nil, List.length_cons, List.length_nil, Nat.zero_add, Nat.reduceAdd, Nat.reduceLeDiff, Nat.reduceLT, decide_eq_true_eq, if_true, if_false, ite_true, ite_false, Bool.true_eq_false, Bool.false_eq_true, Bool.not_true, Bool.not_false, reduceIte, Bool.not_eq_true', decide_eq_false_iff_not, i1, z, h3]⟩
  by_cases q3 : v = [82]
  · obtain ⟨s, h1, h2⟩ := e_sign_by c
    subst q3
    have z : ¬ ([82] : List Nat) ∈ [[88], [84]] := by decide
    have z2 : ¬ ([82] : List Nat) = [58] := by decide
    exact ⟨[s], by rw [if_neg q1, if_neg q2, if_neg (by decide)]; exact ⟨s, rfl, h1⟩, by simp, by simp -implicitDefEqProofs (disch := first | omega | (simp only [List.length_map, List.length_append, List.length_cons, List.length_nil, List.length_take, List.length_drop, repS_len, rngL_len, List.length_range, List.length_reverse]; done) | (simp only [List.length_map, List.length_append, List.length_cons, List.length_nil, List.length_take, List.length_drop, repS_len, rngL_len, List.length_range, List.length_reverse]; omega)) only [mVar_ev, mVarR_ev, getV_val, getR_val, getR_own, mC_ev, mOp_ev, mOpL_ev, mT_ev, asB_bl, mAnd_ev, mOr_ev, mNot_ev, mAndV_ev, mOrV_ev, mNotV_ev, mIf_ev, mNil_ev, mCons_ev, mTup_ev, mLst_ev, mCall_ev, mPn_ev, mPs_ev, asI_int, mSl_ev, mSlL_ev, asL_lst, asL_scr, asTp_tup, asSt_str, R_ite, mWalk_ev, mLe_ev, mNeg_ev, mSeq_ev, mSkip_ev, bind_nx, bind_rt, bind_rtL, bind_bk, bind_ct, bind_ex, bind_ite, lift_ok, lift_exc, lift_ite, mAsg_ev, mAsgL_ev, mDrop_ev, mRet_ev, mRetL_ev, mRetN_ev, mRetOwn_ev, getO_own, mIfS_ev, mSet1_ev, onO_own, onO_val, mAppend_ev, putO_own, mAsgG_ev, optSO_some, gSet_ev, gsNil_ev, gsCons_ev, obind_some, gTupM_1, gTupM_2, gTupM_3, gTupM_4, gTupM_5, gTupM_6, mFor_ev, retD_nx, retD_rt, retD_rtL, retD_ex, retD_ite, retLs_rtL, retLs_ex, retLs_ite, nth_zero, nth_succ, set_zero, set_succ, add_int, add_str, add_lst, lcat_lst, sub_int', neg_int', lt_int', le_int', gt_int', ge_int', mod_int', fdiv_int, mul_int', mul_str', isN_non, isN_int, notN_non, notN_int, eq_int', ne_int', eq_str', ne_str', eq_bl', ne_bl', len_str', len_lst, len_tup, len_scr, max_int, min_int, sl_str', sl_lst, sl_scr, lsl_lst, lsl_scr, ix_str', ix_lst, ix_tup', ix_scr, range1_ok, range2_ok, range3_ok, mMeth_ev, onStr_str, mComp_ev, mCh_ev, wipeE_nil, wipeE_cons, mYes_ev, int_int, int_bl, asW_lst, asW_tup, asW_scr, asW_str, lt_str', le_str', gt_str', ge_str', mRaise_ev, sum_ints, all_bls, any_bls, list_lst, list_tup, list_scr, sorted_ints', g_find_ev, g_find3_ev, g_find4_ev, g_rfind_ev, g_rfind4_ev, g_count_ev, g_count3_ev, g_count4_ev, g_startswith_ev, g_endswith_ev, Int.reduceToNat, List.getD_cons_zero, List.getD_cons_succ, List.length_map, List.length_reverse, Int.zero_mul, Int.mul_zero, Int.add_zero, Int.mul_one, nc0, nc1, nc2, nc3, nc4, nc5, nc6, nc7, nc8, nc9, nc10, nc11, nc12, nc13, List.cons_append, List.nil_append, decide_true, decide_false, not_false_eq_true, not_true_eq_false, mCallR_ev, retLE_rtL, retDE_rt, flatR_bl, flatR_int, flatR_str, flatR_non, flatR_exc, getOwn_own, mMut0_ev, mSetIx_ev, putIx_ok, rev_lst, lrep_ev, if_small, if_small', rngL_len, endS_nx, endS_rt, in_sign, notIn_sign, isN_str, notN_str, isN_tup, notN_tup, isi_int_int, isi_int_bool, isi_bl_bool, isi_bl_int, isi_str_str, isi_tup_tup, isi_lst_lst, isi_non_int, isi_non_tup, _root_.FL.R.ok_bind, _root_.FL.R.exc_bind, _root_.FL.R.stuck_bind, _root_.FL.R.pure_eq, List.append_nil, List.length_cons, List.length_nil, Nat.zero_add, Nat.reduceAdd, Nat.reduceLeDiff, Nat.reduceLT, decide_eq_true_eq, if_true, if_false, ite_true, ite_false, Bool.true_eq_false, Bool.false_eq_true, Bool.not_true, Bool.not_false, reduceIte, Bool.not_eq_true', decide_eq_false_iff_not, i1, z, z2, h2]⟩
  by_cases q4 : v = [86]
  · subst q4
    have z : ¬ ([86] : List Nat) ∈ [[88], [84]] := by decide
    have z2 : ¬ ([86] : List Nat) = [58] := by decide
    have z3 : ¬ ([86] : List Nat) = [82] := by decide
    have h := mod_bd c (b := 3) (by omega)
    have hk := getD_mem (l := [115, 114, 98]) (i := (c % 3).toNat) (by show _ < 3; omega)
    exact ⟨_, by rw [if_neg q1, if_neg q2, if_neg (by decide)]; exact ⟨_, rfl, decide_eq_true hk⟩, by simp, by simp -implicitDefEqProofs (disch := first | omega | (simp only [List.length_map, List.length_append, List.length_cons, List.length_nil, List.length_take, List.length_drop, repS_len, rngL_len, List.length_range, List.length_reverse]; done) | (simp only [List.length_map, List.length_append, List.length_cons, List.length_nil, List.length_take, List.length_drop, repS_len, rngL_len, List.length_range, List.length_reverse]; omega)) only [mVar_ev, mVarR_ev, getV_val, getR_val, getR_own, mC_ev, mOp_ev, mOpL_ev, mT_ev, asB_bl, mAnd_ev, mOr_ev, mNot_ev, mAndV_ev, mOrV_ev, mNotV_ev, mIf_ev, mNil_ev, mCons_ev, mTup_ev, mLst_ev, mCall_ev, mPn_ev, mPs_ev, asI_int, mSl_ev, mSlL_ev, asL_lst, asL_scr, asTp_tup, asSt_str, R_ite, mWalk_ev, mLe_ev, mNeg_ev, mSeq_ev, mSkip_ev, bind_nx, bind_rt, bind_rtL, bind_bk, bind_ct, bind_ex, bind_ite, lift_ok, lift_exc, lift_ite, mAsg_ev, mAsgL_ev, mDrop_ev, mRet_ev, mRetL_ev, mRetN_ev, mRetOwn_ev, getO_own, mIfS_ev, mSet1_ev, onO_own, onO_val, mAppend_ev, putO_own, mAsgG_ev, optSO_some, gSet_ev, gsNil_ev, gsCons_ev, obind_some, gTupM_1, gTupM_2, gTupM_3, gTupM_4, gTupM_5, gTupM_6, mFor_ev, retD_nx, retD_rt, retD_rtL, retD_ex, retD_ite, retLs_rtL, retLs_ex, retLs_ite, nth_zero, nth_succ, set_zero, set_succ, add_int, add_str, add_lst, lcat_lst, sub_int', neg_int', lt_int', le_int', gt_int', ge_int', mod_int', fdiv_int, mul_int', mul_str', isN_non, isN_int, notN_non, notN_int, eq_int', ne_int', eq_str', ne_str', eq_bl', ne_bl', len_str', len_lst, len_tup, len_scr, max_int, min_int, sl_str', sl_lst, sl_scr, lsl_lst, lsl_scr, ix_str', ix_lst, ix_tup', ix_scr, range1_ok, range2_ok, range3_ok, mMeth_ev, onStr_str, mComp_ev, mCh_ev, wipeE_nil, wipeE_cons, mYes_ev, int_int, int_bl, asW_lst, asW_tup, asW_scr, asW_str, lt_str', le_str', gt_str', ge_str', mRaise_ev, sum_ints, all_bls, any_bls, list_lst, list_tup, list_scr, sorted_ints', g_find_ev, g_find3_ev, g_find4_ev, g_rfind_ev, g_rfind4_ev, g_count_ev, g_count3_ev, g_count4_ev, g_startswith_ev, g_endswith_ev, Int.reduceToNat, List.getD_cons_zero, List.getD_cons_succ, List.length_map, List.length_reverse, Int.zero_mul, Int.mul_zero, Int.add_zero, Int.mul_one, nc0, nc1, nc2, nc3, nc4, nc5, nc6, nc7, nc8, nc9, nc10, nc11, nc12, nc13, List.cons_append, List.nil_append, decide_true, decide_false, not_false_eq_true, not_true_eq_false, mCallR_ev, retLE_rtL, retDE_rt, flatR_bl, flatR_int, flatR_str, flatR_non, flatR_exc, getOwn_own, mMut0_ev, mSetIx_ev, putIx_ok, rev_lst, lrep_ev, if_small, if_small', rngL_len, endS_nx, endS_rt, in_sign, notIn_sign, isN_str, notN_str, isN_tup, notN_tup, isi_int_int, isi_int_bool, isi_bl_bool, isi_bl_int, isi_str_str, isi_tup_tup, isi_lst_lst, isi_non_int, isi_non_tup, _root_.FL.R.ok_bind, _root_.FL.R.exc_bind, _root_.FL.R.stuck_bind, _root_.FL.R.pure_eq, List.append_nil, List.length_cons, List.length_nil, Nat.zero_add, Nat.reduceAdd, Nat.reduceLeDiff, Nat.reduceLT, decide_eq_true_eq, if_true, if_false, ite_true, ite_false, Bool.true_eq_false, Bool.false_eq_true, Bool.not_true, Bool.not_false, reduceIte, Bool.not_eq_true', decide_eq_false_iff_not, i1, z, z2, z3]⟩
  by_cases q5 : v ∈ [[77], [75], [64]]
  · obtain ⟨l, h1, h2⟩ := e_letter c
    refine ⟨[l], ?_, by simp, by simp -implicitDefEqProofs (disch := first | omega | (simp only [List.length_map, List.length_append, List.length_cons, List.length_nil, List.length_take, List.length_drop, repS_len, rngL_len, List.length_range, List.length_reverse]; done) | (simp only [List.length_map, List.length_append, List.length_cons, List.length_nil, List.length_take, List.length_drop, repS_len, rngL_len, List.length_range, List.length_reverse]; omega)) only [mVar_ev, mVarR_ev, getV_val, getR_val, getR_own, mC_ev, mOp_ev, mOpL_ev, mT_ev, asB_bl, mAnd_ev, mOr_ev, mNot_ev, mAndV_ev, mOrV_ev, mNotV_ev, mIf_ev, mNil_ev, mCons_ev, mTup_ev, mLst_ev, mCall_ev, mPn_ev, mPs_ev, asI_int, mSl_ev, mSlL_ev, asL_lst, asL_scr, asTp_tup, asSt_str, R_ite, mWalk_ev, mLe_ev, mNeg_ev, mSeq_ev, mSkip_ev, bind_nx, bind_rt, bind_rtL, bind_bk, bind_ct, bind_ex, bind_ite, lift_ok, lift_exc, lift_ite, mAsg_ev, mAsgL_ev, mDrop_ev, mRet_ev, mRetL_ev, mRetN_ev, mRetOwn_ev, getO_own, mIfS_ev, mSet1_ev, onO_own, onO_val, mAppend_ev, putO_own, mAsgG_ev, optSO_some, gSet_ev, gsNil_ev, gsCons_ev, obind_some, gTupM_1, gTupM_2, gTupM_3, gTupM_4, gTupM_5, gTupM_6, mFor_ev, retD_nx, retD_rt, retD_rtL, retD_ex, retD_ite, retLs_rtL, retLs_ex, retLs_ite, nth_zero, nth_succ, set_zero, set_succ, add_int, add_str, add_lst, lcat_lst, sub_int', neg_int', lt_int', le_int', gt_int', ge_int', mod_int', fdiv_int, mul_int', mul_str', isN_non, isN_int, notN_non, notN_int, eq_int', ne_int', eq_str', ne_str', eq_bl', ne_bl', len_str', len_lst, len_tup, len_scr, max_int, min_int, sl_str', sl_lst, sl_scr, lsl_lst, lsl_scr, ix_str', ix_lst, ix_tup', ix_scr, range1_ok, range2_ok, range3_ok, mMeth_ev, onStr_str, mComp_ev, mCh_ev, wipeE_nil, wipeE_cons, mYes_ev, int_int, int_bl, asW_lst, asW_tup, asW_scr, asW_str, lt_str', le_str', gt_str', ge_str', mRaise_ev, sum_ints, all_bls, any_bls, list_lst, list_tup, list_scr, sorted_ints', g_find_ev, g_find3_ev, g_find4_ev, g_rfind_ev, g_rfind4_ev, g_count_ev, g_count3_ev, g_count4_ev, g_startswith_ev, g_endswith_ev, Int.reduceToNat, List.getD_cons_zero, List.getD_cons_succ, List.length_map, List.length_reverse, Int.zero_mul, Int.mul_zero, Int.add_zero, Int.mul_one, nc0, nc1, nc2, nc3, nc4, nc5, nc6, nc7, nc8, nc9, nc10, nc11, nc12, nc13, List.cons_append, List.nil_append, decide_true, decide_false, not_false_eq_true, not_true_eq_false, mCallR_ev, retLE_rtL, retDE_rt, flatR_bl, flatR_int, flatR_str, flatR_non, flatR_exc, getOwn_own, mMut0_ev, mSetIx_ev, putIx_ok, rev_lst, lrep_ev, if_small, if_small', rngL_len, endS_nx, endS_rt, in_sign, notIn_sign, isN_str, notN_str, isN_tup, notN_tup, isi_int_int, isi_int_bool, isi_bl_bool, isi_bl_int, isi_str_str, isi_tup_tup, isi_lst_lst, isi_non_int, isi_non_tup, _root_.FL.R.ok_bind, _root_.FL.R.exc_bind, _root_.FL.R.stuck_bind, _root_.FL.R.pure_eq, List.append_nil, List.length_cons, List.length_nil, Nat.zero_add, Nat.reduceAdd, Nat.reduceLeDiff, Nat.reduceLT, decide_eq_true_eq, if_true, if_false, ite_true, ite_false, Bool.true_eq_false, Bool.false_eq_true, Bool.not_true, Bool.not_false, reduceIte, Bool.not_eq_true', decide_eq_false_iff_not, i1, q1', q2, q3, q4, i2, q5, h2]⟩
    have q6 : ¬ v ∉ [[82], [86], [77], [75], [64]] := fun z => z (by
      simp only [List.mem_cons, List.not_mem_nil, or_false] at q5 ⊢
      rcases q5 with q | q | q <;> simp [q])
    rw [if_neg q1, if_neg q2, if_neg q6]
    refine ⟨l, rfl, ?_⟩
    unfold fitsM
    rw [if_neg q3, if_neg q4]
    exact decide_eq_true h1
  · refine ⟨[], ?_, by simp, by simp -implicitDefEqProofs (disch := first | omega | (simp only [List.length_map, List.length_append, List.length_cons, List.length_nil, List.length_take, List.length_drop, repS_len, rngL_len, List.length_range, List.length_reverse]; done) | (simp only [List.length_map, List.length_append, List.length_cons, List.length_nil, List.length_take, List.length_drop, repS_len, rngL_len, List.length_range, List.length_reverse]; omega)) only [mVar_ev, mVarR_ev, getV_val, getR_val, getR_own, mC_ev, mOp_ev, mOpL_ev, mT_ev, asB_bl, mAnd_ev, mOr_ev, mNot_ev, mAndV_ev, mOrV_ev, mNotV_ev, mIf_ev, mNil_ev, mCons_ev, mTup_ev, mLst_ev, mCall_ev, mPn_ev, mPs_ev, asI_int, mSl_ev, mSlL_ev, asL_lst, asL_scr, asTp_tup, asSt_str, R_ite, mWalk_ev, mLe_ev, mNeg_ev, mSeq_ev, mSkip_ev, bind_nx, bind_rt, bind_rtL, bind_bk, bind_ct, bind_ex, bind_ite, lift_ok, lift_exc, lift_ite, mAsg_ev, mAsgL_ev, mDrop_ev, mRet_ev, mRetL_ev, mRetN_ev, mRetOwn_ev, getO_own, mIfS_ev, mSet1_ev, onO_own, onO_val, mAppend_ev, putO_own, mAsgG_ev, optSO_some, gSet_ev, gsNil_ev, gsCons_ev, obind_some, gTupM_1, gTupM_2, gTupM_3, gTupM_4, gTupM_5, gTupM_6, mFor_ev, retD_nx, retD_rt, retD_rtL, retD_ex, retD_ite, retLs_rtL, retLs_ex, retLs_ite, nth_zero, nth_succ, set_zero, set_succ, add_int, add_str, add_lst, lcat_lst, sub_int', neg_int', lt_int', le_int', gt_int', ge_int', mod_int', fdiv_int, mul_int', mul_str', isN_non, isN_int, notN_non, notN_int, eq_int', ne_int', eq_str', ne_str', eq_bl', ne_bl', len_str', len_lst, len_tup, len_scr, max_int, min_int, sl_str', sl_lst, sl_scr, lsl_lst, lsl_scr, ix_str', ix_lst, ix_tup', ix_scr, range1_ok, range2_ok, range3_ok, mMeth_ev, onStr_str, mComp_ev, mCh_ev, wipeE_nil, wipeE_cons, mYes_ev, int_int, int_bl, asW_lst, asW_tup, asW_scr, asW_str, lt_str', le_str', gt_str', ge_str', mRaise_ev, sum_ints, all_bls, any_bls, list_lst, list_tup, list_scr, sorted_ints', g_find_ev, g_find3_ev, g_find4_ev, g_rfind_ev, g_rfind4_ev, g_count_ev, g_count3_ev, g_count4_ev, g_startswith_ev, g_endswith_ev, Int.reduceToNat, List.getD_cons_zero, List.getD_cons_succ, List.length_map, List.length_reverse, Int.zero_mul, Int.mul_zero, Int.add_zero, Int.mul_one, nc0, nc1, nc2, nc3, nc4, nc5, nc6, nc7, nc8, nc9, nc10, nc11, nc12, nc13, List.cons_append, List.nil_append, decide_true, decide_false, not_false_eq_true, not_true_eq_false, mCallR_ev, retLE_rtL, retDE_rt, flatR_bl, flatR_int, flatR_str, flatR_non, flatR_exc, getOwn_own, mMut0_ev, mSetIx_ev, putIx_ok, rev_lst, lrep_ev, if_small, if_small', rngL_len, endS_nx, endS_rt, in_sign, notIn_sign, isN_str, notN_str, isN_tup, notN_tup, isi_int_int, isi_int_bool, isi_bl_bool, isi_bl_int, isi_str_str, isi_tup_tup, isi_lst_lst, isi_non_int, isi_non_tup, _root_.FL.R.ok_bind, _root_.FL.R.exc_bind, _root_.FL.R.stuck_bind, _root_.FL.R.pure_eq, List.append_nil, List.length_cons, List.length_nil, Nat.zero_add, Nat.reduceAdd, Nat.reduceLeDiff, Nat.reduceLT, decide_eq_true_eq, if_true, if_false, ite_true, ite_false, Bool.true_eq_false, Bool.false_eq_true, Bool.not_true, Bool.not_false, reduceIte, Bool.not_eq_true', decide_eq_false_iff_not, i1, q1', q2, q3, q4, i2, q5]⟩
    have q6 : v ∉ [[82], [86], [77], [75], [64]] := fun z => by
      simp only [List.mem_cons, List.not_mem_nil, or_false] at q5 z
      rcases z with z | z | z | z | z
      · exact q3 z
      · exact q4 z
      · exact q5 (.inl z)
      · exact q5 (.inr (.inl z))
      · exact q5 (.inr (.inr z))
    rw [if_neg q1, if_neg q2, if_pos q6]

theorem e_phrase (a b c : Int) (hc : c.natAbs < 2 ^ 1048576) : ∃ p, Valid p ∧ p.tg.length ≤ 2 ∧ p.ty.length ≤ 49 ∧ p__law_phrase [.int a, .int b, .int c] = .ok (phD p) := by
  rw [u__law_phrase]; unfold b__law_phrase
  have m1 := mod_bd a (b := 27) (by omega)
  have hm := mul_cell c 48271 hc (by decide)
  have z1 : ks_7958c9.length = 22 := rfl
  have st : ∃ v : List Nat, (v = [] ∨ ∃ k ∈ verbS, v = [k]) ∧ (mSeq (mAsg 3 (mC (.str []))) (mIfS (mT (mOp D.lt (mOp D.mod (mVar 0) (mC (.int 27))) (mC (.int 22))))
      (mAsg 3 (mOp D.ix (mC (.str ks_7958c9)) (mOp D.mod (mVar 0) (mC (.int 27)))))
      mSkip)) [.val (.int a), .val (.int b), .val (.int c), .no, .no, .no, .no] = .nx [.val (.int a), .val (.int b), .val (.int c), .val (.str v), .no, .no, .no] := by
    by_cases q : a % 27 < 22
    · exact ⟨[ks_7958c9.getD (a % 27).toNat 0], .inr ⟨_, getD_mem (l := verbS) (by show _ < 22; omega), rfl⟩, by simp -implicitDefEqProofs (disch := first | omega | (simp only [List.length_map, List.length_append, List.length_cons, List.length_nil, List.length_take, List.length_drop, repS_len, rngL_len, List.length_range, List.length_reverse]; done) | (simp only [List.length_map, List.length_append, List.length_cons, List.length_nil, List.length_take, List.length_drop, repS_len, rngL_len, List.length_range, List.length_reverse]; omega)) only [mVar_ev, mVarR_ev, getV_val, getR_val, getR_own, mC_ev, mOp_ev, mOpL_ev, mT_ev, asB_bl, mAnd_ev, mOr_ev, mNot_ev, mAndV_ev, mOrV_ev, mNotV_ev, mIf_ev, mNil_ev, mCons_ev, mTup_ev, mLst_ev, mCall_ev, mPn_ev, mPs_ev, asI_int, mSl_ev, mSlL_ev, asL_lst, asL_scr, asTp_tup, asSt_str, R_ite, mWalk_ev, mLe_ev, mNeg_ev, mSeq_ev, mSkip_ev, bind_nx, bind_rt, bind_rtL, bind_bk, bind_ct, bind_ex, bind_ite, lift_ok, lift_exc, lift_ite, mAsg_ev, mAsgL_ev, mDrop_ev, mRet_ev, mRetL_ev, mRetN_ev, mRetOwn_ev, getO_own, mIfS_ev, mSet1_ev, onO_own, onO_val, mAppend_ev, putO_own, mAsgG_ev, optSO_some, gSet_ev, gsNil_ev, gsCons_ev, obind_some, gTupM_1, gTupM_2, gTupM_3, gTupM_4, gTupM_5, gTupM_6, mFor_ev, retD_nx, retD_rt, retD_rtL, retD_ex, retD_ite, retLs_rtL, retLs_ex, retLs_ite, nth_zero, nth_succ, set_zero, set_succ, add_int, add_str, add_lst, lcat_lst, sub_int', neg_int', lt_int', le_int', gt_int', ge_int', mod_int', fdiv_int, mul_int', mul_str', isN_non, isN_int, notN_non, notN_int, eq_int', ne_int', eq_str', ne_str', eq_bl', ne_bl', len_str', len_lst, len_tup, len_scr, max_int, min_int, sl_str', sl_lst, sl_scr, lsl_lst, lsl_scr, ix_str', ix_lst, ix_tup', ix_scr, range1_ok, range2_ok, range3_ok, mMeth_ev, onStr_str, mComp_ev, mCh_ev, wipeE_nil, wipeE_cons, mYes_ev, int_int, int_bl, asW_lst, asW_tup, asW_scr, asW_str, lt_str', le_str', gt_str', ge_str', mRaise_ev, sum_ints, all_bls, any_bls, list_lst, list_tup, list_scr, sorted_ints', g_find_ev, g_find3_ev, g_find4_ev, g_rfind_ev, g_rfind4_ev, g_count_ev, g_count3_ev, g_count4_ev, g_startswith_ev, g_endswith_ev, Int.reduceToNat, List.getD_cons_zero, List.getD_cons_succ, List.length_map, List.length_reverse, Int.zero_mul, Int.mul_zero, Int.add_zero, Int.mul_one, nc0, nc1, nc2, nc3, nc4, nc5, nc6, nc7, nc8, nc9, nc10, nc11, nc12, nc13, List.cons_append, List.nil_append, decide_true, decide_false, not_false_eq_true, not_true_eq_false, mCallR_ev, retLE_rtL, retDE_rt, flatR_bl, flatR_int, flatR_str, flatR_non, flatR_exc, getOwn_own, mMut0_ev, mSetIx_ev, putIx_ok, rev_lst, lrep_ev, if_small, if_small', rngL_len, endS_nx, endS_rt, in_sign, notIn_sign, isN_str, notN_str, isN_tup, notN_tup, isi_int_int, isi_int_bool, isi_bl_bool, isi_bl_int, isi_str_str, isi_tup_tup, isi_lst_lst, isi_non_int, isi_non_tup, _root_.FL.R.ok_bind, _root_.FL.R.exc_bind, _root_.FL.R.stuck_bind, _root_.FL.R.pure_eq, List.append_nil, List.length_cons, List.length_nil, Nat.zero_add, Nat.reduceAdd, Nat.reduceLeDiff, Nat.reduceLT, decide_eq_true_eq, if_true, if_false, ite_true, ite_false, Bool.true_eq_false, Bool.false_eq_true, Bool.not_true, Bool.not_false, reduceIte, Bool.not_eq_true', decide_eq_false_iff_not, q, z1]⟩
    · exact ⟨[], .inl rfl, by simp -implicitDefEqProofs (disch := first | omega | (simp only [List.length_map, List.length_append, List.length_cons, List.length_nil, List.length_take, List.length_drop, repS_len, rngL_len, List.length_range, List.length_reverse]; done) | (simp only [List.length_map, List.length_append, List.length_cons, List.length_nil, List.length_take, List.length_drop, repS_len, rngL_len, List.length_range, List.length_reverse]; omega)) only [mVar_ev, mVarR_ev, getV_val, getR_val, getR_own, mC_ev, mOp_ev, mOpL_ev, mT_ev, asB_bl, mAnd_ev, mOr_ev, mNot_ev, mAndV_ev, mOrV_ev, mNotV_ev, mIf_ev, mNil_ev, mCons_ev, mTup_ev, mLst_ev, mCall_ev, mPn_ev, mPs_ev, asI_int, mSl_ev, mSlL_ev, asL_lst, asL_scr, asTp_tup, asSt_str, R_ite, mWalk_ev, mLe_ev, mNeg_ev, mSeq_ev, mSkip_ev, bind_nx, bind_rt, bind_rtL, bind_bk, bind_ct, bind_ex, bind_ite, lift_ok, lift_exc, lift_ite, mAsg_ev, mAsgL_ev, mDrop_ev, mRet_ev, mRetL_ev, mRetN_ev, mRetOwn_ev, getO_own, mIfS_ev, mSet1_ev, onO_own, onO_val, mAppend_ev, putO_own, mAsgG_ev, optSO_some, gSet_ev, gsNil_ev, gsCons_ev, obind_some, gTupM_1, gTupM_2, gTupM_3, gTupM_4, gTupM_5, gTupM_6, mFor_ev, retD_nx, retD_rt, retD_rtL, retD_ex, retD_ite, retLs_rtL, retLs_ex, retLs_ite, nth_zero, nth_succ, set_zero, set_succ, add_int, add_str, add_lst, lcat_lst, sub_int', neg_int', lt_int', le_int', gt_int', ge_int', mod_int', fdiv_int, mul_int', mul_str', isN_non, isN_int, notN_non, notN_int, eq_int', ne_int', eq_str', ne_str', eq_bl', ne_bl', len_str', len_lst, len_tup, len_scr, max_int, min_int, sl_str', sl_lst, sl_scr, lsl_lst, lsl_scr, ix_str', ix_lst, ix_tup', ix_scr, range1_ok, range2_ok, range3_ok, mMeth_ev, onStr_str, mComp_ev, mCh_ev, wipeE_nil, wipeE_cons, mYes_ev, int_int, int_bl, asW_lst, asW_tup, asW_scr, asW_str, lt_str', le_str', gt_str', ge_str', mRaise_ev, sum_ints, all_bls, any_bls, list_lst, list_tup, list_scr, sorted_ints', g_find_ev, g_find3_ev, g_find4_ev, g_rfind_ev, g_rfind4_ev, g_count_ev, g_count3_ev, g_count4_ev, g_startswith_ev, g_endswith_ev, Int.reduceToNat, List.getD_cons_zero, List.getD_cons_succ, List.length_map, List.length_reverse, Int.zero_mul, Int.mul_zero, Int.add_zero, Int.mul_one, nc0, nc1, nc2, nc3, nc4, nc5, nc6, nc7, nc8, nc9, nc10, nc11, nc12, nc13, List.cons_append, List.nil_append, decide_true, decide_false, not_false_eq_true, not_true_eq_false, mCallR_ev, retLE_rtL, retDE_rt, flatR_bl, flatR_int, flatR_str, flatR_non, flatR_exc, getOwn_own, mMut0_ev, mSetIx_ev, putIx_ok, rev_lst, lrep_ev, if_small, if_small', rngL_len, endS_nx, endS_rt, in_sign, notIn_sign, isN_str, notN_str, isN_tup, notN_tup, isi_int_int, isi_int_bool, isi_bl_bool, isi_bl_int, isi_str_str, isi_tup_tup, isi_lst_lst, isi_non_int, isi_non_tup, _root_.FL.R.ok_bind, _root_.FL.R.exc_bind, _root_.FL.R.stuck_bind, _root_.FL.R.pure_eq, List.append_nil, List.length_cons, List.length_nil, Nat.zero_add, Nat.reduceAdd, Nat.reduceLeDiff, Nat.reduceLT, decide_eq_true_eq, if_true, if_false, ite_true, ite_false, Bool.true_eq_false, Bool.false_eq_true, Bool.not_true, Bool.not_false, reduceIte, Bool.not_eq_true', decide_eq_false_iff_not, q]⟩
  obtain ⟨v, hv, st⟩ := st
  rw [← mSeq_assoc, mSeq_ev, st, bind_nx]
  clear st
  simp -implicitDefEqProofs (disch := first | omega | (simp only [List.length_map, List.length_append, List.length_cons, List.length_nil, List.length_take, List.length_drop, repS_len, rngL_len, List.length_range, List.length_reverse]; done) | (simp only [List.length_map, List.length_append, List.length_cons, List.length_nil, List.length_take, List.length_drop, repS_len, rngL_len, List.length_range, List.length_reverse]; omega)) only [mVar_ev, mVarR_ev, getV_val, getR_val, getR_own, mC_ev, mOp_ev, mOpL_ev, mT_ev, asB_bl, mAnd_ev, mOr_ev, mNot_ev, mAndV_ev, mOrV_ev, mNotV_ev, mIf_ev, mNil_ev, mCons_ev, mTup_ev, mLst_ev, mCall_ev, mPn_ev, mPs_ev, asI_int, mSl_ev, mSlL_ev, asL_lst, asL_scr, asTp_tup, asSt_str, R_ite, mWalk_ev, mLe_ev, mNeg_ev, mSeq_ev, mSkip_ev, bind_rt, bind_rtL, bind_bk, bind_ct, bind_ex, bind_ite, lift_ok, lift_exc, lift_ite, mAsg_ev, mAsgL_ev, mDrop_ev, mRet_ev, mRetL_ev, mRetN_ev, mRetOwn_ev, getO_own, mIfS_ev, mSet1_ev, onO_own, onO_val, mAppend_ev, putO_own, mAsgG_ev, optSO_some, gSet_ev, gsNil_ev, gsCons_ev, obind_some, gTupM_1, gTupM_2, gTupM_3, gTupM_4, gTupM_5, gTupM_6, mFor_ev, retD_nx, retD_rt, retD_rtL, retD_ex, retD_ite, retLs_rtL, retLs_ex, retLs_ite, nth_zero, nth_succ, set_zero, set_succ, add_int, add_str, add_lst, lcat_lst, sub_int', neg_int', lt_int', le_int', gt_int', ge_int', mod_int', fdiv_int, mul_int', mul_str', isN_non, isN_int, notN_non, notN_int, eq_int', ne_int', eq_str', ne_str', eq_bl', ne_bl', len_str', len_lst, len_tup, len_scr, max_int, min_int, sl_str', sl_lst, sl_scr, lsl_lst, lsl_scr, ix_str', ix_lst, ix_tup', ix_scr, range1_ok, range2_ok, range3_ok, mMeth_ev, onStr_str, mComp_ev, mCh_ev, wipeE_nil, wipeE_cons, mYes_ev, int_int, int_bl, asW_lst, asW_tup, asW_scr, asW_str, lt_str', le_str', gt_str', ge_str', mRaise_ev, sum_ints, all_bls, any_bls, list_lst, list_tup, list_scr, sorted_ints', g_find_ev, g_find3_ev, g_find4_ev, g_rfind_ev, g_rfind4_ev, g_count_ev, g_count3_ev, g_count4_ev, g_startswith_ev, g_endswith_ev, Int.reduceToNat, List.getD_cons_zero, List.getD_cons_succ, List.length_map, List.length_reverse, Int.zero_mul, Int.mul_zero, Int.add_zero, Int.mul_one, nc0, nc1, nc2, nc3, nc4, nc5, nc6, nc7, nc8, nc9, nc10, nc11, nc12, nc13, List.cons_append, List.nil_append, decide_true, decide_false, not_false_eq_true, not_true_eq_false, mCallR_ev, retLE_rtL, retDE_rt, flatR_bl, flatR_int, flatR_str, flatR_non, flatR_exc, getOwn_own, mMut0_ev, mSetIx_ev, putIx_ok, rev_lst, lrep_ev, if_small, if_small', rngL_len, endS_nx, endS_rt, in_sign, notIn_sign, isN_str, notN_str, isN_tup, notN_tup, isi_int_int, isi_int_bool, isi_bl_bool, isi_bl_int, isi_str_str, isi_tup_tup, isi_lst_lst, isi_non_int, isi_non_tup, _root_.FL.R.ok_bind, _root_.FL.R.exc_bind, _root_.FL.R.stuck_bind, _root_.FL.R.pure_eq, List.append_nil, List.length_cons, List.length_nil, Nat.zero_add, Nat.reduceAdd, Nat.reduceLeDiff, Nat.reduceLT, decide_eq_true_eq, if_true, if_false, ite_true, ite_false, Bool.true_eq_false, Bool.false_eq_true, Bool.not_true, Bool.not_false, reduceIte, Bool.not_eq_true', decide_eq_false_iff_not]
  rw [bind_nx]
  have i1 : D.in_ (.str v) (.lst [.str [67], .str [89], .str [88], .str [80]]) = .ok (.bl (decide (v ∈ [[67], [89], [88], [80]]))) := in_lstS v [[67], [89], [88], [80]]
  have i2 : D.notIn (.str v) (.lst [.str [77], .str [75], .str [86], .str [58]]) = .ok (.bl (!decide (v ∈ [[77], [75], [86], [58]]))) := notIn_lstS v [[77], [75], [86], [58]]
  have st : ∃ sh : List Nat, (sh = [] ∨ ∃ l ∈ letS, sh = [l] ∧ ∃ k ∈ [67, 89, 88, 80], v = [k]) ∧ (mIfS (mAnd (mT (mOp D.in_ (mVar 3) (mLe (mLst (mCons (mC (.str [67])) (mCons (mC (.str [89])) (mCons (mC (.str [88])) (mCons (mC (.str [80])) mNil)))))))) (mT (mOp D.eq (mOp D.mod (mOp D.fdiv (mVar 0) (mC (.int 27))) (mC (.int 2))) (mC (.int 1)))))
      (mAsg 4 (mCall (fun ds => p__law_letter_by ds) (mCons (mOp D.fdiv (mVar 0) (mC (.int 54))) mNil)))
      mSkip) [.val (.int a), .val (.int b), .val (.int c), .val (.str v), .val (.str []), .no, .no] = .nx [.val (.int a), .val (.int b), .val (.int c), .val (.str v), .val (.str sh), .no, .no] := by
    by_cases q1 : v ∈ [[67], [89], [88], [80]]
    · by_cases q2 : a / 27 % 2 = 1
      · obtain ⟨l, h1, h2⟩ := e_letter (a / 54)
        refine ⟨[l], .inr ⟨l, h1, rfl, ?_⟩, by simp -implicitDefEqProofs (disch := first | omega | (simp only [List.length_map, List.length_append, List.length_cons, List.length_nil, List.length_take, List.length_drop, repS_len, rngL_len, List.length_range, List.length_reverse]; done) | (simp only [List.length_map, List.length_append, List.length_cons, List.length_nil, List.length_take, List.length_drop, repS_len, rngL_len, List.length_range, List.length_reverse]; omega)) only [mVar_ev, mVarR_ev, getV_val, getR_val, getR_own, mC_ev, mOp_ev, mOpL_ev, mT_ev, asB_bl, mAnd_ev, mOr_ev, mNot_ev, mAndV_ev, mOrV_ev, mNotV_ev, mIf_ev, mNil_ev, mCons_ev, mTup_ev, mLst_ev, mCall_ev, mPn_ev, mPs_ev, asI_int, mSl_ev, mSlL_ev, asL_lst, asL_scr, asTp_tup, asSt_str, R_ite, mWalk_ev, mLe_ev, mNeg_ev, mSeq_ev, mSkip_ev, bind_nx, bind_rt, bind_rtL, bind_bk, bind_ct, bind_ex, bind_ite, lift_ok, lift_exc, lift_ite, mAsg_ev, mAsgL_ev, mDrop_ev, mRet_ev, mRetL_ev, mRetN_ev, mRetOwn_ev, getO_own, mIfS_ev, mSet1_ev, onO_own, onO_val, mAppend_ev, putO_own, mAsgG_ev, optSO_some, gSet_ev, gsNil_ev, gsCons_ev, obind_some, gTupM_1, gTupM_2, gTupM_3, gTupM_4, gTupM_5, gTupM_6, mFor_ev, retD_nx, retD_rt, retD_rtL, retD_ex, retD_ite, retLs_rtL, retLs_ex, retLs_ite, nth_zero, nth_succ, set_zero, set_succ, add_int, add_str, add_lst, lcat_lst, sub_int', neg_int', lt_int', le_int', gt_int', ge_int', mod_int', fdiv_int, mul_int', mul_str', isN_non, isN_int, notN_non, notN_int, eq_int', ne_int', eq_str', ne_str', eq_bl', ne_bl', len_str', len_lst, len_tup, len_scr, max_int, min_int, sl_str', sl_lst, sl_scr, lsl_lst, lsl_scr, ix_str', ix_lst, ix_tup', ix_scr, range1_ok, range2_ok, range3_ok, mMeth_ev, onStr_str, mComp_ev, mCh_ev, wipeE_nil, wipeE_cons, mYes_ev, int_int, int_bl, asW_lst, asW_tup, asW_scr, asW_str, lt_str', le_str', gt_str', ge_str', mRaise_ev, sum_ints, all_bls, any_bls, list_lst, list_tup, list_scr, sorted_ints', g_find_ev, g_find3_ev, g_find4_ev, g_rfind_ev, g_rfind4_ev, g_count_ev, g_count3_ev, g_count4_ev, g_startswith_ev, g_endswith_ev, Int.reduceToNat, List.getD_cons_zero, List.getD_cons_succ, List.length_map, List.length_reverse, Int.zero_mul, Int.mul_zero, Int.add_zero, Int.mul_one, nc0, nc1, nc2, nc3, nc4, nc5, nc6, nc7, nc8, nc9, nc10, nc11, nc12, nc13, List.cons_append, List.nil_append, decide_true, decide_false, not_false_eq_true, not_true_eq_false, mCallR_ev, retLE_rtL, retDE_rt, flatR_bl, flatR_int, flatR_str, flatR_non, flatR_exc, getOwn_own, mMut0_ev, mSetIx_ev, putIx_ok, rev_lst, lrep_ev, if_small, if_small', rngL_len, endS_nx, endS_rt, in_sign, notIn_sign, isN_str, notN_str, isN_tup, notN_tup, isi_int_int, isi_int_bool, isi_bl_bool, isi_bl_int, isi_str_str, isi_tup_tup, isi_lst_lst, isi_non_int, isi_non_tup, _root_.FL.R.ok_bind, _root_.FL.R.exc_bind, _root_.FL.R.stuck_bind, _root_.FL.R.pure_eq, List.append_nil, List.length_cons, List.length_nil, Nat.zero_add, Nat.reduceAdd, Nat.reduceLeDiff, Nat.reduceLT, decide_eq_true_eq, if_true, if_false, ite_true, ite_false, Bool.true_eq_false, Bool.false_eq_true, Bool.not_true, Bool.not_false, reduceIte, Bool.not_eq_true', decide_eq_false_iff_not, i1, q1, q2, h2]⟩
        simp only [List.mem_cons, List.not_mem_nil, or_false] at q1
        rcases q1 with q | q | q | q <;> exact ⟨_, by simp, q⟩
      · exact ⟨[], .inl rfl, by simp -implicitDefEqProofs (disch := first | omega | (simp only [List.length_map, List.length_append, List.length_cons, List.length_nil, List.length_take, List.length_drop, repS_len, rngL_len, List.length_range, List.length_reverse]; done) | (simp only [List.length_map, List.length_append, List.length_cons, List.length_nil, List.length_take, List.length_drop, repS_len, rngL_len, List.length_range, List.length_reverse]; omega)) only [mVar_ev, mVarR_ev, getV_val, getR_val, getR_own, mC_ev, mOp_ev, mOpL_ev, mT_ev, asB_bl, mAnd_ev, mOr_ev, mNot_ev, mAndV_ev, mOrV_ev, mNotV_ev, mIf_ev, mNil_ev, mCons_ev, mTup_ev, mLst_ev, mCall_ev, mPn_ev, mPs_ev, asI_int, mSl_ev, mSlL_ev, asL_lst, asL_scr, asTp_tup, asSt_str, R_ite, mWalk_ev, mLe_ev, mNeg_ev, mSeq_ev, mSkip_ev, bind_nx, bind_rt, bind_rtL, bind_bk, bind_ct, bind_ex, bind_ite, lift_ok, lift_exc, lift_ite, mAsg_ev, mAsgL_ev, mDrop_ev, mRet_ev, mRetL_ev, mRetN_ev, mRetOwn_ev, getO_own, mIfS_ev, mSet1_ev, onO_own, onO_val, mAppend_ev, putO_own, mAsgG_ev, optSO_some, gSet_ev, gsNil_ev, gsCons_ev, obind_some, gTupM_1, gTupM_2, gTupM_3, gTupM_4, gTupM_5, gTupM_6, mFor_ev, retD_nx, retD_rt, retD_rtL, retD_ex, retD_ite, retLs_rtL, retLs_ex, retLs_ite, nth_zero, nth_succ, set_zero, set_succ, add_int, add_str, add_lst, lcat_lst, sub_int', neg_int', lt_int', le_int', gt_int', ge_int', mod_int', fdiv_int, mul_int', mul_str', isN_non, isN_int, notN_non, notN_int, eq_int', ne_int', eq_str', ne_str', eq_bl', ne_bl', len_str', len_lst, len_tup, len_scr, max_int, min_int, sl_str', sl_lst, sl_scr, lsl_lst, lsl_scr, ix_str', ix_lst, ix_tup', ix_scr, range1_ok, range2_ok, range3_ok, mMeth_ev, onStr_str, mComp_ev, mCh_ev, wipeE_nil, wipeE_cons, mYes_ev, int_int, int_bl, asW_lst, asW_tup, asW_scr, asW_str, lt_str', le_str', gt_str', ge_str', mRaise_ev, sum_ints, all_bls, any_bls, list_lst, list_tup, list_scr, sorted_ints', g_find_ev, g_find3_ev, g_find4_ev, g_rfind_ev, g_rfind4_ev, g_count_ev, g_count3_ev, g_count4_ev, g_startswith_ev, g_endswith_ev, Int.reduceToNat, List.getD_cons_zero, List.getD_cons_succ, List.length_map, List.length_reverse, Int.zero_mul, Int.mul_zero, Int.add_zero, Int.mul_one, nc0, nc1, nc2, nc3, nc4, nc5, nc6, nc7, nc8, nc9, nc10, nc11, nc12, nc13, List.cons_append, List.nil_append, decide_true, decide_false, not_false_eq_true, not_true_eq_false, mCallR_ev, retLE_rtL, retDE_rt, flatR_bl, flatR_int, flatR_str, flatR_non, flatR_exc, getOwn_own, mMut0_ev, mSetIx_ev, putIx_ok, rev_lst, lrep_ev, if_small, if_small', rngL_len, endS_nx, endS_rt, in_sign, notIn_sign, isN_str, notN_str, isN_tup, notN_tup, isi_int_int, isi_int_bool, isi_bl_bool, isi_bl_int, isi_str_str, isi_tup_tup, isi_lst_lst, isi_non_int, isi_non_tup, _root_.FL.R.ok_bind, _root_.FL.R.exc_bind, _root_.FL.R.stuck_bind, _root_.FL.R.pure_eq, List.append_nil, List.length_cons, List.length_nil, Nat.zero_add, Nat.reduceAdd, Nat.reduceLeDiff, Nat.reduceLT, decide_eq_true_eq, if_true, if_false, ite_true, ite_false, Bool.true_eq_false, Bool.false_eq_true, Bool.not_true, Bool.not_false, reduceIte, Bool.not_eq_true', decide_eq_false_iff_not, i1, q1, q2]⟩
    · exact ⟨[], .inl rfl, by simp -implicitDefEqProofs (disch := first | omega | (simp only [List.length_map, List.length_append, List.length_cons, List.length_nil, List.length_take, List.length_drop, repS_len, rngL_len, List.length_range, List.length_reverse]; done) | (simp only [List.length_map, List.length_append, List.length_cons, List.length_nil, List.length_take, List.length_drop, repS_len, rngL_len, List.length_range, List.length_reverse]; omega)) only [mVar_ev, mVarR_ev, getV_val, getR_val, getR_own, mC_ev, mOp_ev, mOpL_ev, mT_ev, asB_bl, mAnd_ev, mOr_ev, mNot_ev, mAndV_ev, mOrV_ev, mNotV_ev, mIf_ev, mNil_ev, mCons_ev, mTup_ev, mLst_ev, mCall_ev, mPn_ev, mPs_ev, asI_int, mSl_ev, mSlL_ev, asL_lst, asL_scr, asTp_tup, asSt_str, R_ite, mWalk_ev, mLe_ev, mNeg_ev, mSeq_ev, mSkip_ev, bind_nx, bind_rt, bind_rtL, bind_bk, bind_ct, bind_ex, bind_ite, lift_ok, lift_exc, lift_ite, mAsg_ev, mAsgL_ev, mDrop_ev, mRet_ev, mRetL_ev, mRetN_ev, mRetOwn_ev, getO_own, mIfS_ev, mSet1_ev, onO_own, onO_val, mAppend_ev, putO_own, mAsgG_ev, optSO_some, gSet_ev, gsNil_ev, gsCons_ev, obind_some, gTupM_1, gTupM_2, gTupM_3, gTupM_4, gTupM_5, gTupM_6, mFor_ev, retD_nx, retD_rt, retD_rtL, retD_ex, retD_ite, retLs_rtL, retLs_ex, retLs_ite, nth_zero, nth_succ, set_zero, set_succ, add_int, add_str, add_lst, lcat_lst, sub_int', neg_int', lt_int', le_int', gt_int', ge_int', mod_int', fdiv_int, mul_int', mul_str', isN_non, isN_int, notN_non, notN_int, eq_int', ne_int', eq_str', ne_str', eq_bl', ne_bl', len_str', len_lst, len_tup, len_scr, max_int, min_int, sl_str', sl_lst, sl_scr, lsl_lst, lsl_scr, ix_str', ix_lst, ix_tup', ix_scr, range1_ok, range2_ok, range3_ok, mMeth_ev, onStr_str, mComp_ev, mCh_ev, wipeE_nil, wipeE_cons, mYes_ev, int_int, int_bl, asW_lst, asW_tup, asW_scr, asW_str, lt_str', le_str', gt_str', ge_str', mRaise_ev, sum_ints, all_bls, any_bls, list_lst, list_tup, list_scr, sorted_ints', g_find_ev, g_find3_ev, g_find4_ev, g_rfind_ev, g_rfind4_ev, g_count_ev, g_count3_ev, g_count4_ev, g_startswith_ev, g_endswith_ev, Int.reduceToNat, List.getD_cons_zero, List.getD_cons_succ, List.length_map, List.length_reverse, Int.zero_mul, Int.mul_zero, Int.add_zero, Int.mul_one, nc0, nc1, nc2, nc3, nc4, nc5, nc6, nc7, nc8, nc9, nc10, nc11, nc12, nc13, List.cons_append, List.nil_append, decide_true, decide_false, not_false_eq_true, not_true_eq_false, mCallR_ev, retLE_rtL, retDE_rt, flatR_bl, flatR_int, flatR_str, flatR_non, flatR_exc, getOwn_own, mMut0_ev, mSetIx_ev, putIx_ok, rev_lst, lrep_ev, if_small, if_small', rngL_len, endS_nx, endS_rt, in_sign, notIn_sign, isN_str, notN_str, isN_tup, notN_tup, isi_int_int, isi_int_bool, isi_bl_bool, isi_bl_int, isi_str_str, isi_tup_tup, isi_lst_lst, isi_non_int, isi_non_tup, _root_.FL.R.ok_bind, _root_.FL.R.exc_bind, _root_.FL.R.stuck_bind, _root_.FL.R.pure_eq, List.append_nil, List.length_cons, List.length_nil, Nat.zero_add, Nat.reduceAdd, Nat.reduceLeDiff, Nat.reduceLT, decide_eq_true_eq, if_true, if_false, ite_true, ite_false, Bool.true_eq_false, Bool.false_eq_true, Bool.not_true, Bool.not_false, reduceIte, Bool.not_eq_true', decide_eq_false_iff_not, i1, q1]⟩
  obtain ⟨sh, hsh, st⟩ := st
  rw [mSeq_ev, st, bind_nx]
  clear st
  simp -implicitDefEqProofs (disch := first | omega | (simp only [List.length_map, List.length_append, List.length_cons, List.length_nil, List.length_take, List.length_drop, repS_len, rngL_len, List.length_range, List.length_reverse]; done) | (simp only [List.length_map, List.length_append, List.length_cons, List.length_nil, List.length_take, List.length_drop, repS_len, rngL_len, List.length_range, List.length_reverse]; omega)) only [mVar_ev, mVarR_ev, getV_val, getR_val, getR_own, mC_ev, mOp_ev, mOpL_ev, mT_ev, asB_bl, mAnd_ev, mOr_ev, mNot_ev, mAndV_ev, mOrV_ev, mNotV_ev, mIf_ev, mNil_ev, mCons_ev, mTup_ev, mLst_ev, mCall_ev, mPn_ev, mPs_ev, asI_int, mSl_ev, mSlL_ev, asL_lst, asL_scr, asTp_tup, asSt_str, R_ite, mWalk_ev, mLe_ev, mNeg_ev, mSeq_ev, mSkip_ev, bind_rt, bind_rtL, bind_bk, bind_ct, bind_ex, bind_ite, lift_ok, lift_exc, lift_ite, mAsg_ev, mAsgL_ev, mDrop_ev, mRet_ev, mRetL_ev, mRetN_ev, mRetOwn_ev, getO_own, mIfS_ev, mSet1_ev, onO_own, onO_val, mAppend_ev, putO_own, mAsgG_ev, optSO_some, gSet_ev, gsNil_ev, gsCons_ev, obind_some, gTupM_1, gTupM_2, gTupM_3, gTupM_4, gTupM_5, gTupM_6, mFor_ev, retD_nx, retD_rt, retD_rtL, retD_ex, retD_ite, retLs_rtL, retLs_ex, retLs_ite, nth_zero, nth_succ, set_zero, set_succ, add_int, add_str, add_lst, lcat_lst, sub_int', neg_int', lt_int', le_int', gt_int', ge_int', mod_int', fdiv_int, mul_int', mul_str', isN_non, isN_int, notN_non, notN_int, eq_int', ne_int', eq_str', ne_str', eq_bl', ne_bl', len_str', len_lst, len_tup, len_scr, max_int, min_int, sl_str', sl_lst, sl_scr, lsl_lst, lsl_scr, ix_str', ix_lst, ix_tup', ix_scr, range1_ok, range2_ok, range3_ok, mMeth_ev, onStr_str, mComp_ev, mCh_ev, wipeE_nil, wipeE_cons, mYes_ev, int_int, int_bl, asW_lst, asW_tup, asW_scr, asW_str, lt_str', le_str', gt_str', ge_str', mRaise_ev, sum_ints, all_bls, any_bls, list_lst, list_tup, list_scr, sorted_ints', g_find_ev, g_find3_ev, g_find4_ev, g_rfind_ev, g_rfind4_ev, g_count_ev, g_count3_ev, g_count4_ev, g_startswith_ev, g_endswith_ev, Int.reduceToNat, List.getD_cons_zero, List.getD_cons_succ, List.length_map, List.length_reverse, Int.zero_mul, Int.mul_zero, Int.add_zero, Int.mul_one, nc0, nc1, nc2, nc3, nc4, nc5, nc6, nc7, nc8, nc9, nc10, nc11, nc12, nc13, List.cons_append, List.nil_append, decide_true, decide_false, not_false_eq_true, not_true_eq_false, mCallR_ev, retLE_rtL, retDE_rt, flatR_bl, flatR_int, flatR_str, flatR_non, flatR_exc, getOwn_own, mMut0_ev, mSetIx_ev, putIx_ok, rev_lst, lrep_ev, if_small, if_small', rngL_len, endS_nx, endS_rt, in_sign, notIn_sign, isN_str, notN_str, isN_tup, notN_tup, isi_int_int, isi_int_bool, isi_bl_bool, isi_bl_int, isi_str_str, isi_tup_tup, isi_lst_lst, isi_non_int, isi_non_tup, _root_.FL.R.ok_bind, _root_.FL.R.exc_bind, _root_.FL.R.stuck_bind, _root_.FL.R.pure_eq, List.append_nil, List.length_cons, List.length_nil, Nat.zero_add, Nat.reduceAdd, Nat.reduceLeDiff, Nat.reduceLT, decide_eq_true_eq, if_true, if_false, ite_true, ite_false, Bool.true_eq_false, Bool.false_eq_true, Bool.not_true, Bool.not_false, reduceIte, Bool.not_eq_true', decide_eq_false_iff_not]
  rw [bind_nx]
  have st : ∃ ct : List Nat, (ct = [] ∨ ((∃ c, 1 ≤ c ∧ c < 1000 ∧ ct = dg c) ∧ ∀ k ∈ [77, 75, 86, 58], v ≠ [k])) ∧ (mIfS (mT (mOp D.notIn (mVar 3) (mLe (mLst (mCons (mC (.str [77])) (mCons (mC (.str [75])) (mCons (mC (.str [86])) (mCons (mC (.str [58])) mNil))))))))
      (mAsg 5 (mCall (fun ds => p__law_count_by ds) (mCons (mVar 1) mNil)))
      mSkip) [.val (.int a), .val (.int b), .val (.int c), .val (.str v), .val (.str sh), .val .non, .no] = .nx [.val (.int a), .val (.int b), .val (.int c), .val (.str v), .val (.str sh), .val (ctD ct), .no] := by
    by_cases q1 : v ∈ [[77], [75], [86], [58]]
    · exact ⟨[], .inl rfl, by simp -implicitDefEqProofs (disch := first | omega | (simp only [List.length_map, List.length_append, List.length_cons, List.length_nil, List.length_take, List.length_drop, repS_len, rngL_len, List.length_range, List.length_reverse]; done) | (simp only [List.length_map, List.length_append, List.length_cons, List.length_nil, List.length_take, List.length_drop, repS_len, rngL_len, List.length_range, List.length_reverse]; omega)) only [mVar_ev, mVarR_ev, getV_val, getR_val, getR_own, mC_ev, mOp_ev, mOpL_ev, mT_ev, asB_bl, mAnd_ev, mOr_ev, mNot_ev, mAndV_ev, mOrV_ev, mNotV_ev, mIf_ev, mNil_ev, mCons_ev, mTup_ev, mLst_ev, mCall_ev, mPn_ev, mPs_ev, asI_int, mSl_ev, mSlL_ev, asL_lst, asL_scr, asTp_tup, asSt_str, R_ite, mWalk_ev, mLe_ev, mNeg_ev, mSeq_ev, mSkip_ev, bind_nx, bind_rt, bind_rtL, bind_bk, bind_ct, bind_ex, bind_ite, lift_ok, lift_exc, lift_ite, mAsg_ev, mAsgL_ev, mDrop_ev, mRet_ev, mRetL_ev, mRetN_ev, mRetOwn_ev, getO_own, mIfS_ev, mSet1_ev, onO_own, onO_val, mAppend_ev, putO_own, mAsgG_ev, optSO_some, gSet_ev, gsNil_ev, gsCons_ev, obind_some, gTupM_1, gTupM_2, gTupM_3, gTupM_4, gTupM_5, gTupM_6, mFor_ev, retD_nx, retD_rt, retD_rtL, retD_ex, retD_ite, retLs_rtL, retLs_ex, retLs_ite, nth_zero, nth_succ, set_zero, set_succ, add_int, add_str, add_lst, lcat_lst, sub_int', neg_int', lt_int', le_int', gt_int', ge_int', mod_int', fdiv_int, mul_int', mul_str', isN_non, isN_int, notN_non, notN_int, eq_int', ne_int', eq_str', ne_str', eq_bl', ne_bl', len_str', len_lst, len_tup, len_scr, max_int, min_int, sl_str', sl_lst, sl_scr, lsl_lst, lsl_scr, ix_str', ix_lst, ix_tup', ix_scr, range1_ok, range2_ok, range3_ok, mMeth_ev, onStr_str, mComp_ev, mCh_ev, wipeE_nil, wipeE_cons, mYes_ev, int_int, int_bl, asW_lst, asW_tup, asW_scr, asW_str, lt_str', le_str', gt_str', ge_str', mRaise_ev, sum_ints, all_bls, any_bls, list_lst, list_tup, list_scr, sorted_ints', g_find_ev, g_find3_ev, g_find4_ev, g_rfind_ev, g_rfind4_ev, g_count_ev, g_count3_ev, g_count4_ev, g_startswith_ev, g_endswith_ev, Int.reduceToNat, List.getD_cons_zero, List.getD_cons_succ, List.length_map, List.length_reverse, Int.zero_mul, Int.mul_zero, Int.add_zero, Int.mul_one, nc0, nc1, nc2, nc3, nc4, nc5, nc6, nc7, nc8, nc9, nc10, nc11, nc12, nc13, List.cons_append, List.nil_append, decide_true, decide_false, not_false_eq_true, not_true_eq_false, mCallR_ev, retLE_rtL, retDE_rt, flatR_bl, flatR_int, flatR_str, flatR_non, flatR_exc, getOwn_own, mMut0_ev, mSetIx_ev, putIx_ok, rev_lst, lrep_ev, if_small, if_small', rngL_len, endS_nx, endS_rt, in_sign, notIn_sign, isN_str, notN_str, isN_tup, notN_tup, isi_int_int, isi_int_bool, isi_bl_bool, isi_bl_int, isi_str_str, isi_tup_tup, isi_lst_lst, isi_non_int, isi_non_tup, _root_.FL.R.ok_bind, _root_.FL.R.exc_bind, _root_.FL.R.stuck_bind, _root_.FL.R.pure_eq, List.append_nil, List.length_cons, List.length_nil, Nat.zero_add, Nat.reduceAdd, Nat.reduceLeDiff, Nat.reduceLT, decide_eq_true_eq, if_true, if_false, ite_true, ite_false, Bool.true_eq_false, Bool.false_eq_true, Bool.not_true, Bool.not_false, reduceIte, Bool.not_eq_true', decide_eq_false_iff_not, i2, q1]; rfl⟩
    · obtain ⟨ct, h1, h2⟩ := e_count_by b
      refine ⟨ct, h1.imp id fun h => ⟨h, fun k hk z => q1 ?_⟩, by simp -implicitDefEqProofs (disch := first | omega | (simp only [List.length_map, List.length_append, List.length_cons, List.length_nil, List.length_take, List.length_drop, repS_len, rngL_len, List.length_range, List.length_reverse]; done) | (simp only [List.length_map, List.length_append, List.length_cons, List.length_nil, List.length_take, List.length_drop, repS_len, rngL_len, List.length_range, List.length_reverse]; omega)) only [mVar_ev, mVarR_ev, getV_val, getR_val, getR_own, mC_ev, mOp_ev, mOpL_ev, mT_ev, asB_bl, mAnd_ev, mOr_ev, mNot_ev, mAndV_ev, mOrV_ev, mNotV_ev, mIf_ev, mNil_ev, mCons_ev, mTup_ev, mLst_ev, mCall_ev, mPn_ev, mPs_ev, asI_int, mSl_ev, mSlL_ev, asL_lst, asL_scr, asTp_tup, asSt_str, R_ite, mWalk_ev, mLe_ev, mNeg_ev, mSeq_ev, mSkip_ev, bind_nx, bind_rt, bind_rtL, bind_bk, bind_ct, bind_ex, bind_ite, lift_ok, lift_exc, lift_ite, mAsg_ev, mAsgL_ev, mDrop_ev, mRet_ev, mRetL_ev, mRetN_ev, mRetOwn_ev, getO_own, mIfS_ev, mSet1_ev, onO_own, onO_val, mAppend_ev, putO_own, mAsgG_ev, optSO_some, gSet_ev, gsNil_ev, gsCons_ev, obind_some, gTupM_1, gTupM_2, gTupM_3, gTupM_4, gTupM_5, gTupM_6, mFor_ev, retD_nx, retD_rt, retD_rtL, retD_ex, retD_ite, retLs_rtL, retLs_ex, retLs_ite, nth_zero, nth_succ, set_zero, set_succ, add_int, add_str, add_lst, lcat_lst, sub_int', neg_int', lt_int', le_int', gt_int', ge_int', mod_int', fdiv_int, mul_int', mul_str', isN_non, isN_int, notN_non, notN_int, eq_int', ne_int', eq_str', ne_str', eq_bl', ne_bl', len_str', len_lst, len_tup, len_scr, max_int, min_int, sl_str', sl_lst, sl_scr, lsl_lst, lsl_scr, ix_str', ix_lst, ix_tup', ix_scr, range1_ok, range2_ok, range3_ok, mMeth_ev, onStr_str, mComp_ev, mCh_ev, wipeE_nil, wipeE_cons, mYes_ev, int_int, int_bl, asW_lst, asW_tup, asW_scr, asW_str, lt_str', le_str', gt_str', ge_str', mRaise_ev, sum_ints, all_bls, any_bls, list_lst, list_tup, list_scr, sorted_ints', g_find_ev, g_find3_ev, g_find4_ev, g_rfind_ev, g_rfind4_ev, g_count_ev, g_count3_ev, g_count4_ev, g_startswith_ev, g_endswith_ev, Int.reduceToNat, List.getD_cons_zero, List.getD_cons_succ, List.length_map, List.length_reverse, Int.zero_mul, Int.mul_zero, Int.add_zero, Int.mul_one, nc0, nc1, nc2, nc3, nc4, nc5, nc6, nc7, nc8, nc9, nc10, nc11, nc12, nc13, List.cons_append, List.nil_append, decide_true, decide_false, not_false_eq_true, not_true_eq_false, mCallR_ev, retLE_rtL, retDE_rt, flatR_bl, flatR_int, flatR_str, flatR_non, flatR_exc, getOwn_own, mMut0_ev, mSetIx_ev, putIx_ok, rev_lst, lrep_ev, if_small, if_small', rngL_len, endS_nx, endS_rt, in_sign, notIn_sign, isN_str, notN_str, isN_tup, notN_tup, isi_int_int, isi_int_bool, isi_bl_bool, isi_bl_int, isi_str_str, isi_tup_tup, isi_lst_lst, isi_non_int, isi_non_tup, _root_.FL.R.ok_bind, _root_.FL.R.exc_bind, _root_.FL.R.stuck_bind, _root_.FL.R.pure_eq, List.append_nil, List.length_cons, List.length_nil, Nat.zero_add, Nat.reduceAdd, Nat.reduceLeDiff, Nat.reduceLT, decide_eq_true_eq, if_true, if_false, ite_true, ite_false, Bool.true_eq_false, Bool.false_eq_true, Bool.not_true, Bool.not_false, reduceIte, Bool.not_eq_true', decide_eq_false_iff_not, i2, q1, h2]⟩
      simp only [List.mem_cons, List.not_mem_nil, or_false] at hk ⊢
      rcases hk with rfl | rfl | rfl | rfl <;> simp [z]
  obtain ⟨ct, hct, st⟩ := st
  rw [mSeq_ev, st, bind_nx]
  clear st
  simp -implicitDefEqProofs (disch := first | omega | (simp only [List.length_map, List.length_append, List.length_cons, List.length_nil, List.length_take, List.length_drop, repS_len, rngL_len, List.length_range, List.length_reverse]; done) | (simp only [List.length_map, List.length_append, List.length_cons, List.length_nil, List.length_take, List.length_drop, repS_len, rngL_len, List.length_range, List.length_reverse]; omega)) only [mVar_ev, mVarR_ev, getV_val, getR_val, getR_own, mC_ev, mOp_ev, mOpL_ev, mT_ev, asB_bl, mAnd_ev, mOr_ev, mNot_ev, mAndV_ev, mOrV_ev, mNotV_ev, mIf_ev, mNil_ev, mCons_ev, mTup_ev, mLst_ev, mCall_ev, mPn_ev, mPs_ev, asI_int, mSl_ev, mSlL_ev, asL_lst, asL_scr, asTp_tup, asSt_str, R_ite, mWalk_ev, mLe_ev, mNeg_ev, mSeq_ev, mSkip_ev, bind_rt, bind_rtL, bind_bk, bind_ct, bind_ex, bind_ite, lift_ok, lift_exc, lift_ite, mAsg_ev, mAsgL_ev, mDrop_ev, mRet_ev, mRetL_ev, mRetN_ev, mRetOwn_ev, getO_own, mIfS_ev, mSet1_ev, onO_own, onO_val, mAppend_ev, putO_own, mAsgG_ev, optSO_some, gSet_ev, gsNil_ev, gsCons_ev, obind_some, gTupM_1, gTupM_2, gTupM_3, gTupM_4, gTupM_5, gTupM_6, mFor_ev, retD_nx, retD_rt, retD_rtL, retD_ex, retD_ite, retLs_rtL, retLs_ex, retLs_ite, nth_zero, nth_succ, set_zero, set_succ, add_int, add_str, add_lst, lcat_lst, sub_int', neg_int', lt_int', le_int', gt_int', ge_int', mod_int', fdiv_int, mul_int', mul_str', isN_non, isN_int, notN_non, notN_int, eq_int', ne_int', eq_str', ne_str', eq_bl', ne_bl', len_str', len_lst, len_tup, len_scr, max_int, min_int, sl_str', sl_lst, sl_scr, lsl_lst, lsl_scr, ix_str', ix_lst, ix_tup', ix_scr, range1_ok, range2_ok, range3_ok, mMeth_ev, onStr_str, mComp_ev, mCh_ev, wipeE_nil, wipeE_cons, mYes_ev, int_int, int_bl, asW_lst, asW_tup, asW_scr, asW_str, lt_str', le_str', gt_str', ge_str', mRaise_ev, sum_ints, all_bls, any_bls, list_lst, list_tup, list_scr, sorted_ints', g_find_ev, g_find3_ev, g_find4_ev, g_rfind_ev, g_rfind4_ev, g_count_ev, g_count3_ev, g_count4_ev, g_startswith_ev, g_endswith_ev, Int.reduceToNat, List.getD_cons_zero, List.getD_cons_succ, List.length_map, List.length_reverse, Int.zero_mul, Int.mul_zero, Int.add_zero, Int.mul_one, nc0, nc1, nc2, nc3, nc4, nc5, nc6, nc7, nc8, nc9, nc10, nc11, nc12, nc13, List.cons_append, List.nil_append, decide_true, decide_false, not_false_eq_true, not_true_eq_false, mCallR_ev, retLE_rtL, retDE_rt, flatR_bl, flatR_int, flatR_str, flatR_non, flatR_exc, getOwn_own, mMut0_ev, mSetIx_ev, putIx_ok, rev_lst, lrep_ev, if_small, if_small', rngL_len, endS_nx, endS_rt, in_sign, notIn_sign, isN_str, notN_str, isN_tup, notN_tup, isi_int_int, isi_int_bool, isi_bl_bool, isi_bl_int, isi_str_str, isi_tup_tup, isi_lst_lst, isi_non_int, isi_non_tup, _root_.FL.R.ok_bind, _root_.FL.R.exc_bind, _root_.FL.R.stuck_bind, _root_.FL.R.pure_eq, List.append_nil, List.length_cons, List.length_nil, Nat.zero_add, Nat.reduceAdd, Nat.reduceLeDiff, Nat.reduceLT, decide_eq_true_eq, if_true, if_false, ite_true, ite_false, Bool.true_eq_false, Bool.false_eq_true, Bool.not_true, Bool.not_false, reduceIte, Bool.not_eq_true', decide_eq_false_iff_not]
  rw [bind_nx]
  have st : ∃ tg : List Nat, ((v = [] ∧ IsMove tg) ∨ (∃ k ∈ tgtS, v = [k] ∧ (IsMove tg ∨ IsThing tg)) ∨ (v ≠ [] ∧ (∀ k ∈ tgtS, v ≠ [k]) ∧ tg = [])) ∧ tg.length ≤ 2 ∧ (mIfS (mT (mOp D.eq (mVar 3) (mC (.str []))))
      (mAsg 6 (mCall (fun ds => p__law_move_by ds) (mCons (mOp D.mod (mOp D.mul (mVar 2) (mC (.int 48271))) (mC (.int 2147483647))) mNil)))
      (mIfS (mT (mOp D.in_ (mVar 3) (mC (.str [67, 89, 88, 71, 83, 68, 70, 74]))))
        (mAsg 6 (mCall (fun ds => p__law_target_by ds) (mCons (mOp D.mod (mOp D.mul (mVar 2) (mC (.int 48271))) (mC (.int 2147483647))) mNil)))
        mSkip)) [.val (.int a), .val (.int b), .val (.int c), .val (.str v), .val (.str sh), .val (ctD ct), .val (.str [])] = .nx [.val (.int a), .val (.int b), .val (.int c), .val (.str v), .val (.str sh), .val (ctD ct), .val (.str tg)] := by
    rcases hv with q | ⟨k, hk, q⟩
    · obtain ⟨t, h1, h2, h3⟩ := e_move_by (c * 48271 % 2147483647)
      exact ⟨t, .inl ⟨q, h1⟩, h2, by simp -implicitDefEqProofs (disch := first | omega | (simp only [List.length_map, List.length_append, List.length_cons, List.length_nil, List.length_take, List.length_drop, repS_len, rngL_len, List.length_range, List.length_reverse]; done) | (simp only [List.length_map, List.length_append, List.length_cons, List.length_nil, List.length_take, List.length_drop, repS_len, rngL_len, List.length_range, List.length_reverse]; omega)) only [mVar_ev, mVarR_ev, getV_val, getR_val, getR_own, mC_ev, mOp_ev, mOpL_ev, mT_ev, asB_bl, mAnd_ev, mOr_ev, mNot_ev, mAndV_ev, mOrV_ev, mNotV_ev, mIf_ev, mNil_ev, mCons_ev, mTup_ev, mLst_ev, mCall_ev, mPn_ev, mPs_ev, asI_int, mSl_ev, mSlL_ev, asL_lst, asL_scr, asTp_tup, asSt_str, R_ite, mWalk_ev, mLe_ev, mNeg_ev, mSeq_ev, mSkip_ev, bind_nx, bind_rt, bind_rtL, bind_bk, bind_ct, bind_ex, bind_ite, lift_ok, lift_exc, lift_ite, mAsg_ev, mAsgL_ev, mDrop_ev, mRet_ev, mRetL_ev, mRetN_ev, mRetOwn_ev, getO_own, mIfS_ev, mSet1_ev, onO_own, onO_val, mAppend_ev, putO_own, mAsgG_ev, optSO_some, gSet_ev, gsNil_ev, gsCons_ev, obind_some, gTupM_1, gTupM_2, gTupM_3, gTupM_4, gTupM_5, gTupM_6, mFor_ev, retD_nx, retD_rt, retD_rtL, retD_ex, retD_ite, retLs_rtL, retLs_ex, retLs_ite, nth_zero, nth_succ, set_zero, set_succ, add_int, add_str, add_lst, lcat_lst, sub_int', neg_int', lt_int', le_int', gt_int', ge_int', mod_int', fdiv_int, mul_int', mul_str', isN_non, isN_int, notN_non, notN_int, eq_int', ne_int', eq_str', ne_str', eq_bl', ne_bl', len_str', len_lst, len_tup, len_scr, max_int, min_int, sl_str', sl_lst, sl_scr, lsl_lst, lsl_scr, ix_str', ix_lst, ix_tup', ix_scr, range1_ok, range2_ok, range3_ok, mMeth_ev, onStr_str, mComp_ev, mCh_ev, wipeE_nil, wipeE_cons, mYes_ev, int_int, int_bl, asW_lst, asW_tup, asW_scr, asW_str, lt_str', le_str', gt_str', ge_str', mRaise_ev, sum_ints, all_bls, any_bls, list_lst, list_tup, list_scr, sorted_ints', g_find_ev, g_find3_ev, g_find4_ev, g_rfind_ev, g_rfind4_ev, g_count_ev, g_count3_ev, g_count4_ev, g_startswith_ev, g_endswith_ev, Int.reduceToNat, List.getD_cons_zero, List.getD_cons_succ, List.length_map, List.length_reverse, Int.zero_mul, Int.mul_zero, Int.add_zero, Int.mul_one, nc0, nc1, nc2, nc3, nc4, nc5, nc6, nc7, nc8, nc9, nc10, nc11, nc12, nc13, List.cons_append, List.nil_append, decide_true, decide_false, not_false_eq_true, not_true_eq_false, mCallR_ev, retLE_rtL, retDE_rt, flatR_bl, flatR_int, flatR_str, flatR_non, flatR_exc, getOwn_own, mMut0_ev, mSetIx_ev, putIx_ok, rev_lst, lrep_ev, if_small, if_small', rngL_len, endS_nx, endS_rt, in_sign, notIn_sign, isN_str, notN_str, isN_tup, notN_tup, isi_int_int, isi_int_bool, isi_bl_bool, isi_bl_int, isi_str_str, isi_tup_tup, isi_lst_lst, isi_non_int, isi_non_tup, _root_.FL.R.ok_bind, _root_.FL.R.exc_bind, _root_.FL.R.stuck_bind, _root_.FL.R.pure_eq, List.append_nil, List.length_cons, List.length_nil, Nat.zero_add, Nat.reduceAdd, Nat.reduceLeDiff, Nat.reduceLT, decide_eq_true_eq, if_true, if_false, ite_true, ite_false, Bool.true_eq_false, Bool.false_eq_true, Bool.not_true, Bool.not_false, reduceIte, Bool.not_eq_true', decide_eq_false_iff_not, q, hm, h3]⟩
    · have q0 : ¬ [k] = [] := List.cons_ne_nil _ _
      by_cases q1 : k ∈ tgtS
      · obtain ⟨t, h1, h2, h3⟩ := e_target_by (c * 48271 % 2147483647)
        have q1' : k ∈ [67, 89, 88, 71, 83, 68, 70, 74] := q1
        exact ⟨t, .inr (.inl ⟨k, q1, q, h1⟩), h2, by simp -implicitDefEqProofs (disch := first | omega | (simp only [List.length_map, List.length_append, List.length_cons, List.length_nil, List.length_take, List.length_drop, repS_len, rngL_len, List.length_range, List.length_reverse]; done) | (simp only [List.length_map, List.length_append, List.length_cons, List.length_nil, List.length_take, List.length_drop, repS_len, rngL_len, List.length_range, List.length_reverse]; omega)) only [mVar_ev, mVarR_ev, getV_val, getR_val, getR_own, mC_ev, mOp_ev, mOpL_ev, mT_ev, asB_bl, mAnd_ev, mOr_ev, mNot_ev, mAndV_ev, mOrV_ev, mNotV_ev, mIf_ev, mNil_ev, mCons_ev, mTup_ev, mLst_ev, mCall_ev, mPn_ev, mPs_ev, asI_int, mSl_ev, mSlL_ev, asL_lst, asL_scr, asTp_tup, asSt_str, R_ite, mWalk_ev, mLe_ev, mNeg_ev, mSeq_ev, mSkip_ev, bind_nx, bind_rt, bind_rtL, bind_bk, bind_ct, bind_ex, bind_ite, lift_ok, lift_exc, lift_ite, mAsg_ev, mAsgL_ev, mDrop_ev, mRet_ev, mRetL_ev, mRetN_ev, mRetOwn_ev, getO_own, mIfS_ev, mSet1_ev, onO_own, onO_val, mAppend_ev, putO_own, mAsgG_ev, optSO_some, gSet_ev, gsNil_ev, gsCons_ev, obind_some, gTupM_1, gTupM_2, gTupM_3, gTupM_4, gTupM_5, gTupM_6, mFor_ev, retD_nx, retD_rt, retD_rtL, retD_ex, retD_ite, retLs_rtL, retLs_ex, retLs_ite, nth_zero, nth_succ, set_zero, set_succ, add_int, add_str, add_lst, lcat_lst, sub_int', neg_int', lt_int', le_int', gt_int', ge_int', mod_int', fdiv_int, mul_int', mul_str', isN_non, isN_int, notN_non, notN_int, eq_int', ne_int', eq_str', ne_str', eq_bl', ne_bl', len_str', len_lst, len_tup, len_scr, max_int, min_int, sl_str', sl_lst, sl_scr, lsl_lst, lsl_scr, ix_str', ix_lst, ix_tup', ix_scr, range1_ok, range2_ok, range3_ok, mMeth_ev, onStr_str, mComp_ev, mCh_ev, wipeE_nil, wipeE_cons, mYes_ev, int_int, int_bl, asW_lst, asW_tup, asW_scr, asW_str, lt_str', le_str', gt_str', ge_str', mRaise_ev, sum_ints, all_bls, any_bls, list_lst, list_tup, list_scr, sorted_ints', g_find_ev, g_find3_ev, g_find4_ev, g_rfind_ev, g_rfind4_ev, g_count_ev, g_count3_ev, g_count4_ev, g_startswith_ev, g_endswith_ev, Int.reduceToNat, List.getD_cons_zero, List.getD_cons_succ, List.length_map, List.length_reverse, Int.zero_mul, Int.mul_zero, Int.add_zero, Int.mul_one, nc0, nc1, nc2, nc3, nc4, nc5, nc6, nc7, nc8, nc9, nc10, nc11, nc12, nc13, List.cons_append, List.nil_append, decide_true, decide_false, not_false_eq_true, not_true_eq_false, mCallR_ev, retLE_rtL, retDE_rt, flatR_bl, flatR_int, flatR_str, flatR_non, flatR_exc, getOwn_own, mMut0_ev, mSetIx_ev, putIx_ok, rev_lst, lrep_ev, if_small, if_small', rngL_len, endS_nx, endS_rt, in_sign, notIn_sign, isN_str, notN_str, isN_tup, notN_tup, isi_int_int, isi_int_bool, isi_bl_bool, isi_bl_int, isi_str_str, isi_tup_tup, isi_lst_lst, isi_non_int, isi_non_tup, _root_.FL.R.ok_bind, _root_.FL.R.exc_bind, _root_.FL.R.stuck_bind, _root_.FL.R.pure_eq, List.append_nil, List.length_cons, List.length_nil, Nat.zero_add, Nat.reduceAdd, Nat.reduceLeDiff, Nat.reduceLT, decide_eq_true_eq, if_true, if_false, ite_true, ite_false, Bool.true_eq_false, Bool.false_eq_true, Bool.not_true, Bool.not_false, reduceIte, Bool.not_eq_true', decide_eq_false_iff_not, q, q0, q1', hm, h3]⟩
      · have q1' : ¬ k ∈ [67, 89, 88, 71, 83, 68, 70, 74] := q1
        refine ⟨[], .inr (.inr ⟨by rw [q]; exact q0, fun j hj z => ?_, rfl⟩), by simp, by simp -implicitDefEqProofs (disch := first | omega | (simp only [List.length_map, List.length_append, List.length_cons, List.length_nil, List.length_take, List.length_drop, repS_len, rngL_len, List.length_range, List.length_reverse]; done) | (simp only [List.length_map, List.length_append, List.length_cons, List.length_nil, List.length_take, List.length_drop, repS_len, rngL_len, List.length_range, List.length_reverse]; omega)) only [mVar_ev, mVarR_ev, getV_val, getR_val, getR_own, mC_ev, mOp_ev, mOpL_ev, mT_ev, asB_bl, mAnd_ev, mOr_ev, mNot_ev, mAndV_ev, mOrV_ev, mNotV_ev, mIf_ev, mNil_ev, mCons_ev, mTup_ev, mLst_ev, mCall_ev, mPn_ev, mPs_ev, asI_int, mSl_ev, mSlL_ev, asL_lst, asL_scr, asTp_tup, asSt_str, R_ite, mWalk_ev, mLe_ev, mNeg_ev, mSeq_ev, mSkip_ev, bind_nx, bind_rt, bind_rtL, bind_bk, bind_ct, bind_ex, bind_ite, lift_ok, lift_exc, lift_ite, mAsg_ev, mAsgL_ev, mDrop_ev, mRet_ev, mRetL_ev, mRetN_ev, mRetOwn_ev, getO_own, mIfS_ev, mSet1_ev, onO_own, onO_val, mAppend_ev, putO_own, mAsgG_ev, optSO_some, gSet_ev, gsNil_ev, gsCons_ev, obind_some, gTupM_1, gTupM_2, gTupM_3, gTupM_4, gTupM_5, gTupM_6, mFor_ev, retD_nx, retD_rt, retD_rtL, retD_ex, retD_ite, retLs_rtL, retLs_ex, retLs_ite, nth_zero, nth_succ, set_zero, set_succ, add_int, add_str, add_lst, lcat_lst, sub_int', neg_int', lt_int', le_int', gt_int', ge_int', mod_int', fdiv_int, mul_int', mul_str', isN_non, isN_int, notN_non, notN_int, eq_int', ne_int', eq_str', ne_str', eq_bl', ne_bl', len_str', len_lst, len_tup, len_scr, max_int, min_int, sl_str', sl_lst, sl_scr, lsl_lst, lsl_scr, ix_str', ix_lst, ix_tup', ix_scr, range1_ok, range2_ok, range3_ok, mMeth_ev, onStr_str, mComp_ev, mCh_ev, wipeE_nil, wipeE_cons, mYes_ev, int_int, int_bl, asW_lst, asW_tup, asW_scr, asW_str, lt_str', le_str', gt_str', ge_str', mRaise_ev, sum_ints, all_bls, any_bls, list_lst, list_tup, list_scr, sorted_ints', g_find_ev, g_find3_ev, g_find4_ev, g_rfind_ev, g_rfind4_ev, g_count_ev, g_count3_ev, g_count4_ev, g_startswith_ev, g_endswith_ev, Int.reduceToNat, List.getD_cons_zero, List.getD_cons_succ, List.length_map, List.length_reverse, Int.zero_mul, Int.mul_zero, Int.add_zero, Int.mul_one, nc0, nc1, nc2, nc3, nc4, nc5, nc6, nc7, nc8, nc9, nc10, nc11, nc12, nc13, List.cons_append, List.nil_append, decide_true, decide_false, not_false_eq_true, not_true_eq_false, mCallR_ev, retLE_rtL, retDE_rt, flatR_bl, flatR_int, flatR_str, flatR_non, flatR_exc, getOwn_own, mMut0_ev, mSetIx_ev, putIx_ok, rev_lst, lrep_ev, if_small, if_small', rngL_len, endS_nx, endS_rt, in_sign, notIn_sign, isN_str, notN_str, isN_tup, notN_tup, isi_int_int, isi_int_bool, isi_bl_bool, isi_bl_int, isi_str_str, isi_tup_tup, isi_lst_lst, isi_non_int, isi_non_tup, _root_.FL.R.ok_bind, _root_.FL.R.exc_bind, _root_.FL.R.stuck_bind, _root_.FL.R.pure_eq, List.append_nil, List.length_cons, List.length_nil, Nat.zero_add, Nat.reduceAdd, Nat.reduceLeDiff, Nat.reduceLT, decide_eq_true_eq, if_true, if_false, ite_true, ite_false, Bool.true_eq_false, Bool.false_eq_true, Bool.not_true, Bool.not_false, reduceIte, Bool.not_eq_true', decide_eq_false_iff_not, q, q0, q1']⟩
        rw [q] at z
        exact q1 ((List.cons.inj z).1 ▸ hj)
  obtain ⟨tg, htg, ltg, st⟩ := st
  rw [mSeq_ev, st, bind_nx]
  clear st
  obtain ⟨ty, hty, lty, e⟩ := e_typed_by v c hc
  exact ⟨⟨sh, ct, v, tg, ty⟩, ⟨hv, hsh, hct, htg, hty⟩, ltg, lty, by simp -implicitDefEqProofs (disch := first | omega | (simp only [List.length_map, List.length_append, List.length_cons, List.length_nil, List.length_take, List.length_drop, repS_len, rngL_len, List.length_range, List.length_reverse]; done) | (simp only [List.length_map, List.length_append, List.length_cons, List.length_nil, List.length_take, List.length_drop, repS_len, rngL_len, List.length_range, List.length_reverse]; omega)) only [mVar_ev, mVarR_ev, getV_val, getR_val, getR_own, mC_ev, mOp_ev, mOpL_ev, mT_ev, asB_bl, mAnd_ev, mOr_ev, mNot_ev, mAndV_ev, mOrV_ev, mNotV_ev, mIf_ev, mNil_ev, mCons_ev, mTup_ev, mLst_ev, mCall_ev, mPn_ev, mPs_ev, asI_int, mSl_ev, mSlL_ev, asL_lst, asL_scr, asTp_tup, asSt_str, R_ite, mWalk_ev, mLe_ev, mNeg_ev, mSeq_ev, mSkip_ev, bind_nx, bind_rt, bind_rtL, bind_bk, bind_ct, bind_ex, bind_ite, lift_ok, lift_exc, lift_ite, mAsg_ev, mAsgL_ev, mDrop_ev, mRet_ev, mRetL_ev, mRetN_ev, mRetOwn_ev, getO_own, mIfS_ev, mSet1_ev, onO_own, onO_val, mAppend_ev, putO_own, mAsgG_ev, optSO_some, gSet_ev, gsNil_ev, gsCons_ev, obind_some, gTupM_1, gTupM_2, gTupM_3, gTupM_4, gTupM_5, gTupM_6, mFor_ev, retD_nx, retD_rt, retD_rtL, retD_ex, retD_ite, retLs_rtL, retLs_ex, retLs_ite, nth_zero, nth_succ, set_zero, set_succ, add_int, add_str, add_lst, lcat_lst, sub_int', neg_int', lt_int', le_int', gt_int', ge_int', mod_int', fdiv_int, mul_int', mul_str', isN_non, isN_int, notN_non, notN_int, eq_int', ne_int', eq_str', ne_str', eq_bl', ne_bl', len_str', len_lst, len_tup, len_scr, max_int, min_int, sl_str', sl_lst, sl_scr, lsl_lst, lsl_scr, ix_str', ix_lst, ix_tup', ix_scr, range1_ok, range2_ok, range3_ok, mMeth_ev, onStr_str, mComp_ev, mCh_ev, wipeE_nil, wipeE_cons, mYes_ev, int_int, int_bl, asW_lst, asW_tup, asW_scr, asW_str, lt_str', le_str', gt_str', ge_str', mRaise_ev, sum_ints, all_bls, any_bls, list_lst, list_tup, list_scr, sorted_ints', g_find_ev, g_find3_ev, g_find4_ev, g_rfind_ev, g_rfind4_ev, g_count_ev, g_count3_ev, g_count4_ev, g_startswith_ev, g_endswith_ev, Int.reduceToNat, List.getD_cons_zero, List.getD_cons_succ, List.length_map, List.length_reverse, Int.zero_mul, Int.mul_zero, Int.add_zero, Int.mul_one, nc0, nc1, nc2, nc3, nc4, nc5, nc6, nc7, nc8, nc9, nc10, nc11, nc12, nc13, List.cons_append, List.nil_append, decide_true, decide_false, not_false_eq_true, not_true_eq_false, mCallR_ev, retLE_rtL, retDE_rt, flatR_bl, flatR_int, flatR_str, flatR_non, flatR_exc, getOwn_own, mMut0_ev, mSetIx_ev, putIx_ok, rev_lst, lrep_ev, if_small, if_small', rngL_len, endS_nx, endS_rt, in_sign, notIn_sign, isN_str, notN_str, isN_tup, notN_tup, isi_int_int, isi_int_bool, isi_bl_bool, isi_bl_int, isi_str_str, isi_tup_tup, isi_lst_lst, isi_non_int, isi_non_tup, _root_.FL.R.ok_bind, _root_.FL.R.exc_bind, _root_.FL.R.stuck_bind, _root_.FL.R.pure_eq, List.append_nil, List.length_cons, List.length_nil, Nat.zero_add, Nat.reduceAdd, Nat.reduceLeDiff, Nat.reduceLT, decide_eq_true_eq, if_true, if_false, ite_true, ite_false, Bool.true_eq_false, Bool.false_eq_true, Bool.not_true, Bool.not_false, reduceIte, Bool.not_eq_true', decide_eq_false_iff_not, e]; rfl⟩

theorem e_keys (p : Phr) (h : Valid p) (l1 : p.tg.length ≤ 2) (l2 : p.ty.length ≤ 49) : p__law_keys [phD p] = .ok (.str (keysM p)) := by
  rw [u__law_keys]; unfold b__law_keys
  have i1 : D.in_ (.str p.v) (.lst [.str [88], .str [84]]) = .ok (.bl (decide (p.v ∈ [[88], [84]]))) := in_lstS p.v [[88], [84]]
  have lv : p.v.length ≤ 1 := by
    rcases h.v with z | ⟨k, _, z⟩ <;> rw [z] <;> simp
  have lsh : p.sh.length ≤ 1 := by
    rcases h.sh with z | ⟨k, _, z, _⟩ <;> rw [z] <;> simp
  have hp : phD p = .tup [.str p.sh, ctD p.ct, .str p.v, .str p.tg, .str p.ty] := rfl
  rw [hp]
  simp -implicitDefEqProofs (disch := first | omega | (simp only [List.length_map, List.length_append, List.length_cons, List.length_nil, List.length_take, List.length_drop, repS_len, rngL_len, List.length_range, List.length_reverse]; done) | (simp only [List.length_map, List.length_append, List.length_cons, List.length_nil, List.length_take, List.length_drop, repS_len, rngL_len, List.length_range, List.length_reverse]; omega)) only [mVar_ev, mVarR_ev, getV_val, getR_val, getR_own, mC_ev, mOp_ev, mOpL_ev, mT_ev, asB_bl, mAnd_ev, mOr_ev, mNot_ev, mAndV_ev, mOrV_ev, mNotV_ev, mIf_ev, mNil_ev, mCons_ev, mTup_ev, mLst_ev, mCall_ev, mPn_ev, mPs_ev, asI_int, mSl_ev, mSlL_ev, asL_lst, asL_scr, asTp_tup, asSt_str, R_ite, mWalk_ev, mLe_ev, mNeg_ev, mSeq_ev, mSkip_ev, bind_rt, bind_rtL, bind_bk, bind_ct, bind_ex, bind_ite, lift_ok, lift_exc, lift_ite, mAsg_ev, mAsgL_ev, mDrop_ev, mRet_ev, mRetL_ev, mRetN_ev, mRetOwn_ev, getO_own, mIfS_ev, mSet1_ev, onO_own, onO_val, mAppend_ev, putO_own, mAsgG_ev, optSO_some, gSet_ev, gsNil_ev, gsCons_ev, obind_some, gTupM_1, gTupM_2, gTupM_3, gTupM_4, gTupM_5, gTupM_6, mFor_ev, retD_nx, retD_rt, retD_rtL, retD_ex, retD_ite, retLs_rtL, retLs_ex, retLs_ite, nth_zero, nth_succ, set_zero, set_succ, add_int, add_str, add_lst, lcat_lst, sub_int', neg_int', lt_int', le_int', gt_int', ge_int', mod_int', fdiv_int, mul_int', mul_str', isN_non, isN_int, notN_non, notN_int, eq_int', ne_int', eq_str', ne_str', eq_bl', ne_bl', len_str', len_lst, len_tup, len_scr, max_int, min_int, sl_str', sl_lst, sl_scr, lsl_lst, lsl_scr, ix_str', ix_lst, ix_tup', ix_scr, range1_ok, range2_ok, range3_ok, mMeth_ev, onStr_str, mComp_ev, mCh_ev, wipeE_nil, wipeE_cons, mYes_ev, int_int, int_bl, asW_lst, asW_tup, asW_scr, asW_str, lt_str', le_str', gt_str', ge_str', mRaise_ev, sum_ints, all_bls, any_bls, list_lst, list_tup, list_scr, sorted_ints', g_find_ev, g_find3_ev, g_find4_ev, g_rfind_ev, g_rfind4_ev, g_count_ev, g_count3_ev, g_count4_ev, g_startswith_ev, g_endswith_ev, Int.reduceToNat, List.getD_cons_zero, List.getD_cons_succ, List.length_map, List.length_reverse, Int.zero_mul, Int.mul_zero, Int.add_zero, Int.mul_one, nc0, nc1, nc2, nc3, nc4, nc5, nc6, nc7, nc8, nc9, nc10, nc11, nc12, nc13, List.cons_append, List.nil_append, decide_true, decide_false, not_false_eq_true, not_true_eq_false, mCallR_ev, retLE_rtL, retDE_rt, flatR_bl, flatR_int, flatR_str, flatR_non, flatR_exc, getOwn_own, mMut0_ev, mSetIx_ev, putIx_ok, rev_lst, lrep_ev, if_small, if_small', rngL_len, endS_nx, endS_rt, in_sign, notIn_sign, isN_str, notN_str, isN_tup, notN_tup, isi_int_int, isi_int_bool, isi_bl_bool, isi_bl_int, isi_str_str, isi_tup_tup, isi_lst_lst, isi_non_int, isi_non_tup, _root_.FL.R.ok_bind, _root_.FL.R.exc_bind, _root_.FL.R.stuck_bind, _root_.FL.R.pure_eq, List.append_nil, List.length_cons, List.length_nil, Nat.zero_add, Nat.reduceAdd, Nat.reduceLeDiff, Nat.reduceLT, decide_eq_true_eq, if_true, if_false, ite_true, ite_false, Bool.true_eq_false, Bool.false_eq_true, Bool.not_true, Bool.not_false, reduceIte, Bool.not_eq_true', decide_eq_false_iff_not]
  rw [bind_nx]
  have e1 : ∀ s0, mIfS (mT (mOp D.ne (mOp D.ix (mVar 0) (mC (.int 0))) (mC (.str []))))
      (mAsg 1 (mOp D.add (mC (.str [34])) (mOp D.ix (mVar 0) (mC (.int 0)))))
      mSkip [s0, .val (.str [])] = mIfS (mT (mOp D.ne (mOp D.ix (mVar 0) (mC (.int 0))) (mC (.str []))))
      (mAsg 1 (mOp D.add (mC (.str [34])) (mOp D.ix (mVar 0) (mC (.int 0)))))
      mSkip [s0, .val (.str [])] := fun _ => rfl
  have st : mIfS (mT (mOp D.ne (mOp D.ix (mVar 0) (mC (.int 0))) (mC (.str []))))
      (mAsg 1 (mOp D.add (mC (.str [34])) (mOp D.ix (mVar 0) (mC (.int 0)))))
      mSkip [.val (.tup [.str p.sh, ctD p.ct, .str p.v, .str p.tg, .str p.ty]), .val (.str [])] = .nx [.val (.tup [.str p.sh, ctD p.ct, .str p.v, .str p.tg, .str p.ty]), .val (.str (if p.sh = [] then [] else 34 :: p.sh))] := by
    by_cases q : p.sh = []
    · rw [if_pos q]
      simp -implicitDefEqProofs (disch := first | omega | (simp only [List.length_map, List.length_append, List.length_cons, List.length_nil, List.length_take, List.length_drop, repS_len, rngL_len, List.length_range, List.length_reverse]; done) | (simp only [List.length_map, List.length_append, List.length_cons, List.length_nil, List.length_take, List.length_drop, repS_len, rngL_len, List.length_range, List.length_reverse]; omega)) only [mVar_ev, mVarR_ev, getV_val, getR_val, getR_own, mC_ev, mOp_ev, mOpL_ev, mT_ev, asB_bl, mAnd_ev, mOr_ev, mNot_ev, mAndV_ev, mOrV_ev, mNotV_ev, mIf_ev, mNil_ev, mCons_ev, mTup_ev, mLst_ev, mCall_ev, mPn_ev, mPs_ev, asI_int, mSl_ev, mSlL_ev, asL_lst, asL_scr, asTp_tup, asSt_str, R_ite, mWalk_ev, mLe_ev, mNeg_ev, mSeq_ev, mSkip_ev, bind_nx, bind_rt, bind_rtL, bind_bk, bind_ct, bind_ex, bind_ite, lift_ok, lift_exc, lift_ite, mAsg_ev, mAsgL_ev, mDrop_ev, mRet_ev, mRetL_ev, mRetN_ev, mRetOwn_ev, getO_own, mIfS_ev, mSet1_ev, onO_own, onO_val, mAppend_ev, putO_own, mAsgG_ev, optSO_some, gSet_ev, gsNil_ev, gsCons_ev, obind_some, gTupM_1, gTupM_2, gTupM_3, gTupM_4, gTupM_5, gTupM_6, mFor_ev, retD_nx, retD_rt, retD_rtL, retD_ex, retD_ite, retLs_rtL, retLs_ex, retLs_ite, nth_zero, nth_succ, set_zero, set_succ, add_int, add_str, add_lst, lcat_lst, sub_int', neg_int', lt_int', le_int', gt_int', ge_int', mod_int', fdiv_int, mul_int', mul_str', isN_non, isN_int, notN_non, notN_int, eq_int', ne_int', eq_str', ne_str', eq_bl', ne_bl', len_str', len_lst, len_tup, len_scr, max_int, min_int, sl_str', sl_lst, sl_scr, lsl_lst, lsl_scr, ix_str', ix_lst, ix_tup', ix_scr, range1_ok, range2_ok, range3_ok, mMeth_ev, onStr_str, mComp_ev, mCh_ev, wipeE_nil, wipeE_cons, mYes_ev, int_int, int_bl, asW_lst, asW_tup, asW_scr, asW_str, lt_str', le_str', gt_str', ge_str', mRaise_ev, sum_ints, all_bls, any_bls, list_lst, list_tup, list_scr, sorted_ints', g_find_ev, g_find3_ev, g_find4_ev, g_rfind_ev, g_rfind4_ev, g_count_ev, g_count3_ev, g_count4_ev, g_startswith_ev, g_endswith_ev, Int.reduceToNat, List.getD_cons_zero, List.getD_cons_succ, List.length_map, List.length_reverse, Int.zero_mul, Int.mul_zero, Int.add_zero, Int.mul_one, nc0, nc1, nc2, nc3, nc4, nc5, nc6, nc7, nc8, nc9, nc10, nc11, nc12, nc13, List.cons_append, List.nil_append, decide_true, decide_false, not_false_eq_true, not_true_eq_false, mCallR_ev, retLE_rtL, retDE_rt, flatR_bl, flatR_int, flatR_str, flatR_non, flatR_exc, getOwn_own, mMut0_ev, mSetIx_ev, putIx_ok, rev_lst, lrep_ev, if_small, if_small', rngL_len, endS_nx, endS_rt, in_sign, notIn_sign, isN_str, notN_str, isN_tup, notN_tup, isi_int_int, isi_int_bool, isi_bl_bool, isi_bl_int, isi_str_str, isi_tup_tup, isi_lst_lst, isi_non_int, isi_non_tup, _root_.FL.R.ok_bind, _root_.FL.R.exc_bind, _root_.FL.R.stuck_bind, _root_.FL.R.pure_eq, List.append_nil, List.length_cons, List.length_nil, Nat.zero_add, Nat.reduceAdd, Nat.reduceLeDiff, Nat.reduceLT, decide_eq_true_eq, if_true, if_false, ite_true, ite_false, Bool.true_eq_false, Bool.false_eq_true, Bool.not_true, Bool.not_false, reduceIte, Bool.not_eq_true', decide_eq_false_iff_not, q]
    · rw [if_neg q]
      simp -implicitDefEqProofs (disch := first | omega | (simp only [List.length_map, List.length_append, List.length_cons, List.length_nil, List.length_take, List.length_drop, repS_len, rngL_len, List.length_range, List.length_reverse]; done) | (simp only [List.length_map, List.length_append, List.length_cons, List.length_nil, List.length_take, List.length_drop, repS_len, rngL_len, List.length_range, List.length_reverse]; omega)) only [mVar_ev, mVarR_ev, getV_val, getR_val, getR_own, mC_ev, mOp_ev, mOpL_ev, mT_ev, asB_bl, mAnd_ev, mOr_ev, mNot_ev, mAndV_ev, mOrV_ev, mNotV_ev, mIf_ev, mNil_ev, mCons_ev, mTup_ev, mLst_ev, mCall_ev, mPn_ev, mPs_ev, asI_int, mSl_ev, mSlL_ev, asL_lst, asL_scr, asTp_tup, asSt_str, R_ite, mWalk_ev, mLe_ev, mNeg_ev, mSeq_ev, mSkip_ev, bind_nx, bind_rt, bind_rtL, bind_bk, bind_ct, bind_ex, bind_ite, lift_ok, lift_exc, lift_ite, mAsg_ev, mAsgL_ev, mDrop_ev, mRet_ev, mRetL_ev, mRetN_ev, mRetOwn_ev, getO_own, mIfS_ev, mSet1_ev, onO_own, onO_val, mAppend_ev, putO_own, mAsgG_ev, optSO_some, gSet_ev, gsNil_ev, gsCons_ev, obind_some, gTupM_1, gTupM_2, gTupM_3, gTupM_4, gTupM_5, gTupM_6, mFor_ev, retD_nx, retD_rt, retD_rtL, retD_ex, retD_ite, retLs_rtL, retLs_ex, retLs_ite, nth_zero, nth_succ, set_zero, set_succ, add_int, add_str, add_lst, lcat_lst, sub_int', neg_int', lt_int', le_int', gt_int', ge_int', mod_int', fdiv_int, mul_int', mul_str', isN_non, isN_int, notN_non, notN_int, eq_int', ne_int', eq_str', ne_str', eq_bl', ne_bl', len_str', len_lst, len_tup, len_scr, max_int, min_int, sl_str', sl_lst, sl_scr, lsl_lst, lsl_scr, ix_str', ix_lst, ix_tup', ix_scr, range1_ok, range2_ok, range3_ok, mMeth_ev, onStr_str, mComp_ev, mCh_ev, wipeE_nil, wipeE_cons, mYes_ev, int_int, int_bl, asW_lst, asW_tup, asW_scr, asW_str, lt_str', le_str', gt_str', ge_str', mRaise_ev, sum_ints, all_bls, any_bls, list_lst, list_tup, list_scr, sorted_ints', g_find_ev, g_find3_ev, g_find4_ev, g_rfind_ev, g_rfind4_ev, g_count_ev, g_count3_ev, g_count4_ev, g_startswith_ev, g_endswith_ev, Int.reduceToNat, List.getD_cons_zero, List.getD_cons_succ, List.length_map, List.length_reverse, Int.zero_mul, Int.mul_zero, Int.add_zero, Int.mul_one, nc0, nc1, nc2, nc3, nc4, nc5, nc6, nc7, nc8, nc9, nc10, nc11, nc12, nc13, List.cons_append, List.nil_append, decide_true, decide_false, not_false_eq_true, not_true_eq_false, mCallR_ev, retLE_rtL, retDE_rt, flatR_bl, flatR_int, flatR_str, flatR_non, flatR_exc, getOwn_own, mMut0_ev, mSetIx_ev, putIx_ok, rev_lst, lrep_ev, if_small, if_small', rngL_len, endS_nx, endS_rt, in_sign, notIn_sign, isN_str, notN_str, isN_tup, notN_tup, isi_int_int, isi_int_bool, isi_bl_bool, isi_bl_int, isi_str_str, isi_tup_tup, isi_lst_lst, isi_non_int, isi_non_tup, _root_.FL.R.ok_bind, _root_.FL.R.exc_bind, _root_.FL.R.stuck_bind, _root_.FL.R.pure_eq, List.append_nil, List.length_cons, List.length_nil, Nat.zero_add, Nat.reduceAdd, Nat.reduceLeDiff, Nat.reduceLT, decide_eq_true_eq, if_true, if_false, ite_true, ite_false, Bool.true_eq_false, Bool.false_eq_true, Bool.not_true, Bool.not_false, reduceIte, Bool.not_eq_true', decide_eq_false_iff_not, q]
  rw [mSeq_ev, st, bind_nx]
  clear st e1
  have ls : (if p.sh = [] then [] else 34 :: p.sh).length ≤ 2 := by
    split
    · simp
    · rw [List.length_cons]; omega
  unfold keysM
  generalize (if p.sh = [] then [] else 34 :: p.sh) = s0 at *
  have lc : p.ct.length ≤ 3 := by
    rcases h.ct' with z | ⟨c, _, _, z⟩
    · rw [z]; simp
    · rw [z]; exact (dg_len c).2
  have st : mIfS (mT (mOp D.notN (mOp D.ix (mVar 0) (mC (.int 1))) (mC .non)))
      (mAsg 1 (mOp D.add (mVar 1) (mCall gStr (mCons (mOp D.ix (mVar 0) (mC (.int 1))) mNil))))
      mSkip [.val (.tup [.str p.sh, ctD p.ct, .str p.v, .str p.tg, .str p.ty]), .val (.str s0)] = .nx [.val (.tup [.str p.sh, ctD p.ct, .str p.v, .str p.tg, .str p.ty]), .val (.str (s0 ++ p.ct))] := by
    rcases h.ct' with z | ⟨c, h1, h2, z⟩
    · have : ctD p.ct = .non := by rw [z]; rfl
      rw [this, z, List.append_nil]
      simp -implicitDefEqProofs (disch := first | omega | (simp only [List.length_map, List.length_append, List.length_cons, List.length_nil, List.length_take, List.length_drop, repS_len, rngL_len, List.length_range, List.length_reverse]; done) | (simp only [List.length_map, List.length_append, List.length_cons, List.length_nil, List.length_take, List.length_drop, repS_len, rngL_len, List.length_range, List.length_reverse]; omega)) only [mVar_ev, mVarR_ev, getV_val, getR_val, getR_own, mC_ev, mOp_ev, mOpL_ev, mT_ev, asB_bl, mAnd_ev, mOr_ev, mNot_ev, mAndV_ev, mOrV_ev, mNotV_ev, mIf_ev, mNil_ev, mCons_ev, mTup_ev, mLst_ev, mCall_ev, mPn_ev, mPs_ev, asI_int, mSl_ev, mSlL_ev, asL_lst, asL_scr, asTp_tup, asSt_str, R_ite, mWalk_ev, mLe_ev, mNeg_ev, mSeq_ev, mSkip_ev, bind_nx, bind_rt, bind_rtL, bind_bk, bind_ct, bind_ex, bind_ite, lift_ok, lift_exc, lift_ite, mAsg_ev, mAsgL_ev, mDrop_ev, mRet_ev, mRetL_ev, mRetN_ev, mRetOwn_ev, getO_own, mIfS_ev, mSet1_ev, onO_own, onO_val, mAppend_ev, putO_own, mAsgG_ev, optSO_some, gSet_ev, gsNil_ev, gsCons_ev, obind_some, gTupM_1, gTupM_2, gTupM_3, gTupM_4, gTupM_5, gTupM_6, mFor_ev, retD_nx, retD_rt, retD_rtL, retD_ex, retD_ite, retLs_rtL, retLs_ex, retLs_ite, nth_zero, nth_succ, set_zero, set_succ, add_int, add_str, add_lst, lcat_lst, sub_int', neg_int', lt_int', le_int', gt_int', ge_int', mod_int', fdiv_int, mul_int', mul_str', isN_non, isN_int, notN_non, notN_int, eq_int', ne_int', eq_str', ne_str', eq_bl', ne_bl', len_str', len_lst, len_tup, len_scr, max_int, min_int, sl_str', sl_lst, sl_scr, lsl_lst, lsl_scr, ix_str', ix_lst, ix_tup', ix_scr, range1_ok, range2_ok, range3_ok, mMeth_ev, onStr_str, mComp_ev, mCh_ev, wipeE_nil, wipeE_cons, mYes_ev, int_int, int_bl, asW_lst, asW_tup, asW_scr, asW_str, lt_str', le_str', gt_str', ge_str', mRaise_ev, sum_ints, all_bls, any_bls, list_lst, list_tup, list_scr, sorted_ints', g_find_ev, g_find3_ev, g_find4_ev, g_rfind_ev, g_rfind4_ev, g_count_ev, g_count3_ev, g_count4_ev, g_startswith_ev, g_endswith_ev, Int.reduceToNat, List.getD_cons_zero, List.getD_cons_succ, List.length_map, List.length_reverse, Int.zero_mul, Int.mul_zero, Int.add_zero, Int.mul_one, nc0, nc1, nc2, nc3, nc4, nc5, nc6, nc7, nc8, nc9, nc10, nc11, nc12, nc13, List.cons_append, List.nil_append, decide_true, decide_false, not_false_eq_true, not_true_eq_false, mCallR_ev, retLE_rtL, retDE_rt, flatR_bl, flatR_int, flatR_str, flatR_non, flatR_exc, getOwn_own, mMut0_ev, mSetIx_ev, putIx_ok, rev_lst, lrep_ev, if_small, if_small', rngL_len, endS_nx, endS_rt, in_sign, notIn_sign, isN_str, notN_str, isN_tup, notN_tup, isi_int_int, isi_int_bool, isi_bl_bool, isi_bl_int, isi_str_str, isi_tup_tup, isi_lst_lst, isi_non_int, isi_non_tup, _root_.FL.R.ok_bind, _root_.FL.R.exc_bind, _root_.FL.R.stuck_bind, _root_.FL.R.pure_eq, List.append_nil, List.length_cons, List.length_nil, Nat.zero_add, Nat.reduceAdd, Nat.reduceLeDiff, Nat.reduceLT, decide_eq_true_eq, if_true, if_false, ite_true, ite_false, Bool.true_eq_false, Bool.false_eq_true, Bool.not_true, Bool.not_false, reduceIte, Bool.not_eq_true', decide_eq_false_iff_not]
    · have e : ctD p.ct = .int c := by rw [z, ctD_dg h2 h1]
      have es := str_dg h2
      have ld := (dg_len c).2
      rw [e, z]
      simp -implicitDefEqProofs (disch := first | omega | (simp only [List.length_map, List.length_append, List.length_cons, List.length_nil, List.length_take, List.length_drop, repS_len, rngL_len, List.length_range, List.length_reverse]; done) | (simp only [List.length_map, List.length_append, List.length_cons, List.length_nil, List.length_take, List.length_drop, repS_len, rngL_len, List.length_range, List.length_reverse]; omega)) only [mVar_ev, mVarR_ev, getV_val, getR_val, getR_own, mC_ev, mOp_ev, mOpL_ev, mT_ev, asB_bl, mAnd_ev, mOr_ev, mNot_ev, mAndV_ev, mOrV_ev, mNotV_ev, mIf_ev, mNil_ev, mCons_ev, mTup_ev, mLst_ev, mCall_ev, mPn_ev, mPs_ev, asI_int, mSl_ev, mSlL_ev, asL_lst, asL_scr, asTp_tup, asSt_str, R_ite, mWalk_ev, mLe_ev, mNeg_ev, mSeq_ev, mSkip_ev, bind_nx, bind_rt, bind_rtL, bind_bk, bind_ct, bind_ex, bind_ite, lift_ok, lift_exc, lift_ite, mAsg_ev, mAsgL_ev, mDrop_ev, mRet_ev, mRetL_ev, mRetN_ev, mRetOwn_ev, getO_own, mIfS_ev, mSet1_ev, onO_own, onO_val, mAppend_ev, putO_own, mAsgG_ev, optSO_some, gSet_ev, gsNil_ev, gsCons_ev, obind_some, gTupM_1, gTupM_2, gTupM_3, gTupM_4, gTupM_5, gTupM_6, mFor_ev, retD_nx, retD_rt, retD_rtL, retD_ex, retD_ite, retLs_rtL, retLs_ex, retLs_ite, nth_zero, nth_succ, set_zero, set_succ, add_int, add_str, add_lst, lcat_lst, sub_int', neg_int', lt_int', le_int', gt_int', ge_int', mod_int', fdiv_int, mul_int', mul_str', isN_non, isN_int, notN_non, notN_int, eq_int', ne_int', eq_str', ne_str', eq_bl', ne_bl', len_str', len_lst, len_tup, len_scr, max_int, min_int, sl_str', sl_lst, sl_scr, lsl_lst, lsl_scr, ix_str', ix_lst, ix_tup', ix_scr, range1_ok, range2_ok, range3_ok, mMeth_ev, onStr_str, mComp_ev, mCh_ev, wipeE_nil, wipeE_cons, mYes_ev, int_int, int_bl, asW_lst, asW_tup, asW_scr, asW_str, lt_str', le_str', gt_str', ge_str', mRaise_ev, sum_ints, all_bls, any_bls, list_lst, list_tup, list_scr, sorted_ints', g_find_ev, g_find3_ev, g_find4_ev, g_rfind_ev, g_rfind4_ev, g_count_ev, g_count3_ev, g_count4_ev, g_startswith_ev, g_endswith_ev, Int.reduceToNat, List.getD_cons_zero, List.getD_cons_succ, List.length_map, List.length_reverse, Int.zero_mul, Int.mul_zero, Int.add_zero, Int.mul_one, nc0, nc1, nc2, nc3, nc4, nc5, nc6, nc7, nc8, nc9, nc10, nc11, nc12, nc13, List.cons_append, List.nil_append, decide_true, decide_false, not_false_eq_true, not_true_eq_false, mCallR_ev, retLE_rtL, retDE_rt, flatR_bl, flatR_int, flatR_str, flatR_non, flatR_exc, getOwn_own, mMut0_ev, mSetIx_ev, putIx_ok, rev_lst, lrep_ev, if_small, if_small', rngL_len, endS_nx, endS_rt, in_sign, notIn_sign, isN_str, notN_str, isN_tup, notN_tup, isi_int_int, isi_int_bool, isi_bl_bool, isi_bl_int, isi_str_str, isi_tup_tup, isi_lst_lst, isi_non_int, isi_non_tup, _root_.FL.R.ok_bind, _root_.FL.R.exc_bind, _root_.FL.R.stuck_bind, _root_.FL.R.pure_eq, List.append_nil, List.length_cons, List.length_nil, Nat.zero_add, Nat.reduceAdd, Nat.reduceLeDiff, Nat.reduceLT, decide_eq_true_eq, if_true, if_false, ite_true, ite_false, Bool.true_eq_false, Bool.false_eq_true, Bool.not_true, Bool.not_false, reduceIte, Bool.not_eq_true', decide_eq_false_iff_not, es]
  rw [mSeq_ev, st, bind_nx]
  clear st
  simp -implicitDefEqProofs (disch := first | omega | (simp only [List.length_map, List.length_append, List.length_cons, List.length_nil, List.length_take, List.length_drop, repS_len, rngL_len, List.length_range, List.length_reverse]; done) | (simp only [List.length_map, List.length_append, List.length_cons, List.length_nil, List.length_take, List.length_drop, repS_len, rngL_len, List.length_range, List.length_reverse]; omega)) only [mVar_ev, mVarR_ev, getV_val, getR_val, getR_own, mC_ev, mOp_ev, mOpL_ev, mT_ev, asB_bl, mAnd_ev, mOr_ev, mNot_ev, mAndV_ev, mOrV_ev, mNotV_ev, mIf_ev, mNil_ev, mCons_ev, mTup_ev, mLst_ev, mCall_ev, mPn_ev, mPs_ev, asI_int, mSl_ev, mSlL_ev, asL_lst, asL_scr, asTp_tup, asSt_str, R_ite, mWalk_ev, mLe_ev, mNeg_ev, mSeq_ev, mSkip_ev, bind_rt, bind_rtL, bind_bk, bind_ct, bind_ex, bind_ite, lift_ok, lift_exc, lift_ite, mAsg_ev, mAsgL_ev, mDrop_ev, mRet_ev, mRetL_ev, mRetN_ev, mRetOwn_ev, getO_own, mIfS_ev, mSet1_ev, onO_own, onO_val, mAppend_ev, putO_own, mAsgG_ev, optSO_some, gSet_ev, gsNil_ev, gsCons_ev, obind_some, gTupM_1, gTupM_2, gTupM_3, gTupM_4, gTupM_5, gTupM_6, mFor_ev, retD_nx, retD_rt, retD_rtL, retD_ex, retD_ite, retLs_rtL, retLs_ex, retLs_ite, nth_zero, nth_succ, set_zero, set_succ, add_int, add_str, add_lst, lcat_lst, sub_int', neg_int', lt_int', le_int', gt_int', ge_int', mod_int', fdiv_int, mul_int', mul_str', isN_non, isN_int, notN_non, notN_int, eq_int', ne_int', eq_str', ne_str', eq_bl', ne_bl', len_str', len_lst, len_tup, len_scr, max_int, min_int, sl_str', sl_lst, sl_scr, lsl_lst, lsl_scr, ix_str', ix_lst, ix_tup', ix_scr, range1_ok, range2_ok, range3_ok, mMeth_ev, onStr_str, mComp_ev, mCh_ev, wipeE_nil, wipeE_cons, mYes_ev, int_int, int_bl, asW_lst, asW_tup, asW_scr, asW_str, lt_str', le_str', gt_str', ge_str', mRaise_ev, sum_ints, all_bls, any_bls, list_lst, list_tup, list_scr, sorted_ints', g_find_ev, g_find3_ev, g_find4_ev, g_rfind_ev, g_rfind4_ev, g_count_ev, g_count3_ev, g_count4_ev, g_startswith_ev, g_endswith_ev, Int.reduceToNat, List.getD_cons_zero, List.getD_cons_succ, List.length_map, List.length_reverse, Int.zero_mul, Int.mul_zero, Int.add_zero, Int.mul_one, nc0, nc1, nc2, nc3, nc4, nc5, nc6, nc7, nc8, nc9, nc10, nc11, nc12, nc13, List.cons_append, List.nil_append, decide_true, decide_false, not_false_eq_true, not_true_eq_false, mCallR_ev, retLE_rtL, retDE_rt, flatR_bl, flatR_int, flatR_str, flatR_non, flatR_exc, getOwn_own, mMut0_ev, mSetIx_ev, putIx_ok, rev_lst, lrep_ev, if_small, if_small', rngL_len, endS_nx, endS_rt, in_sign, notIn_sign, isN_str, notN_str, isN_tup, notN_tup, isi_int_int, isi_int_bool, isi_bl_bool, isi_bl_int, isi_str_str, isi_tup_tup, isi_lst_lst, isi_non_int, isi_non_tup, _root_.FL.R.ok_bind, _root_.FL.R.exc_bind, _root_.FL.R.stuck_bind, _root_.FL.R.pure_eq, List.append_nil, List.length_cons, List.length_nil, Nat.zero_add, Nat.reduceAdd, Nat.reduceLeDiff, Nat.reduceLT, decide_eq_true_eq, if_true, if_false, ite_true, ite_false, Bool.true_eq_false, Bool.false_eq_true, Bool.not_true, Bool.not_false, reduceIte, Bool.not_eq_true', decide_eq_false_iff_not]
  rw [bind_nx]
  have st : ∀ s1 : List Nat, s1.length ≤ 60 → (mSeq (mIfS (mT (mOp D.in_ (mOp D.ix (mVar 0) (mC (.int 2))) (mLe (mLst (mCons (mC (.str [88])) (mCons (mC (.str [84])) mNil))))))
      (mAsg 1 (mOp D.add (mVar 1) (mC (.str [126]))))
      mSkip)
    (mIfS (mT (mOp D.eq (mOp D.ix (mVar 0) (mC (.int 2))) (mC (.str [58]))))
      (mAsg 1 (mOp D.add (mVar 1) (mC (.str [10]))))
      mSkip)) [.val (.tup [.str p.sh, ctD p.ct, .str p.v, .str p.tg, .str p.ty]), .val (.str s1)] = .nx [.val (.tup [.str p.sh, ctD p.ct, .str p.v, .str p.tg, .str p.ty]), .val (.str (s1 ++ endM p.v))] := fun s1 hs1 => by
    unfold endM
    by_cases q1 : p.v = [88] ∨ p.v = [84]
    · have q1' : p.v ∈ [[88], [84]] := by simpa using q1
      have q2 : ¬ p.v = [58] := fun z => by rw [z] at q1; exact absurd q1 (by decide)
      rw [if_pos q1]
      simp -implicitDefEqProofs (disch := first | omega | (simp only [List.length_map, List.length_append, List.length_cons, List.length_nil, List.length_take, List.length_drop, repS_len, rngL_len, List.length_range, List.length_reverse]; done) | (simp only [List.length_map, List.length_append, List.length_cons, List.length_nil, List.length_take, List.length_drop, repS_len, rngL_len, List.length_range, List.length_reverse]; omega)) only [mVar_ev, mVarR_ev, getV_val, getR_val, getR_own, mC_ev, mOp_ev, mOpL_ev, mT_ev, asB_bl, mAnd_ev, mOr_ev, mNot_ev, mAndV_ev, mOrV_ev, mNotV_ev, mIf_ev, mNil_ev, mCons_ev, mTup_ev, mLst_ev, mCall_ev, mPn_ev, mPs_ev, asI_int, mSl_ev, mSlL_ev, asL_lst, asL_scr, asTp_tup, asSt_str, R_ite, mWalk_ev, mLe_ev, mNeg_ev, mSeq_ev, mSkip_ev, bind_nx, bind_rt, bind_rtL, bind_bk, bind_ct, bind_ex, bind_ite, lift_ok, lift_exc, lift_ite, mAsg_ev, mAsgL_ev, mDrop_ev, mRet_ev, mRetL_ev, mRetN_ev, mRetOwn_ev, getO_own, mIfS_ev, mSet1_ev, onO_own, onO_val, mAppend_ev, putO_own, mAsgG_ev, optSO_some, gSet_ev, gsNil_ev, gsCons_ev, obind_some, gTupM_1, gTupM_2, gTupM_3, gTupM_4, gTupM_5, gTupM_6, mFor_ev, retD_nx, retD_rt, retD_rtL, retD_ex, retD_ite, retLs_rtL, retLs_ex, retLs_ite, nth_zero, nth_succ, set_zero, set_succ, add_int, add_str, add_lst, lcat_lst, sub_int', neg_int', lt_int', le_int', gt_int', ge_int', mod_int', fdiv_int, mul_int', mul_str', isN_non, isN_int, notN_non, notN_int, eq_int', ne_int', eq_str', ne_str', eq_bl', ne_bl', len_str', len_lst, len_tup, len_scr, max_int, min_int, sl_str', sl_lst, sl_scr, lsl_lst, lsl_scr, ix_str', ix_lst, ix_tup', ix_scr, range1_ok, range2_ok, range3_ok, mMeth_ev, onStr_str, mComp_ev, mCh_ev, wipeE_nil, wipeE_cons, mYes_ev, int_int, int_bl, asW_lst, asW_tup, asW_scr, asW_str, lt_str', le_str', gt_str', ge_str', mRaise_ev, sum_ints, all_bls, any_bls, list_lst, list_tup, list_scr, sorted_ints', g_find_ev, g_find3_ev, g_find4_ev, g_rfind_ev, g_rfind4_ev, g_count_ev, g_count3_ev, g_count4_ev, g_startswith_ev, g_endswith_ev, Int.reduceToNat, List.getD_cons_zero, List.getD_cons_succ, List.length_map, List.length_reverse, Int.zero_mul, Int.mul_zero, Int.add_zero, Int.mul_one, nc0, nc1, nc2, nc3, nc4, nc5, nc6, nc7, nc8, nc9, nc10, nc11, nc12, nc13, List.cons_append, List.nil_append, decide_true, decide_false, not_false_eq_true, not_true_eq_false, mCallR_ev, retLE_rtL, retDE_rt, flatR_bl, flatR_int, flatR_str, flatR_non, flatR_exc, getOwn_own, mMut0_ev, mSetIx_ev, putIx_ok, rev_lst, lrep_ev, if_small, if_small', rngL_len, endS_nx, endS_rt, in_sign, notIn_sign, isN_str, notN_str, isN_tup, notN_tup, isi_int_int, isi_int_bool, isi_bl_bool, isi_bl_int, isi_str_str, isi_tup_tup, isi_lst_lst, isi_non_int, isi_non_tup, _root_.FL.R.ok_bind, _root_.FL.R.exc_bind, _root_.FL.R.stuck_bind, _root_.FL.R.pure_eq, List.append_nil, List.length_cons, List.length_nil, Nat.zero_add, Nat.reduceAdd, Nat.reduceLeDiff, Nat.reduceLT, decide_eq_true_eq, if_true, if_false, ite_true, ite_false, Bool.true_eq_false, Bool.false_eq_true, Bool.not_true, Bool.not_false, reduceIte, Bool.not_eq_true', decide_eq_false_iff_not, i1, q1', q2]
    · have q1' : ¬ p.v ∈ [[88], [84]] := by simpa using q1
      rw [if_neg q1]
      by_cases q2 : p.v = [58]
      · have i58 : D.in_ (.str [58]) (.lst [.str [88], .str [84]]) = .ok (.bl false) := rfl
        rw [if_pos q2]
        simp -implicitDefEqProofs (disch := first | omega | (simp only [List.length_map, List.length_append, List.length_cons, List.length_nil, List.length_take, List.length_drop, repS_len, rngL_len, List.length_range, List.length_reverse]; done) | (simp only [List.length_map, List.length_append, List.length_cons, List.length_nil, List.length_take, List.length_drop, repS_len, rngL_len, List.length_range, List.length_reverse]; omega)) only [mVar_ev, mVarR_ev, getV_val, getR_val, getR_own, mC_ev, mOp_ev, mOpL_ev, mT_ev, asB_bl, mAnd_ev, mOr_ev, mNot_ev, mAndV_ev, mOrV_ev, mNotV_ev, mIf_ev, mNil_ev, mCons_ev, mTup_ev, mLst_ev, mCall_ev, mPn_ev, mPs_ev, asI_int, mSl_ev, mSlL_ev, asL_lst, asL_scr, asTp_tup, asSt_str, R_ite, mWalk_ev, mLe_ev, mNeg_ev, mSeq_ev, mSkip_ev, bind_nx, bind_rt, bind_rtL, bind_bk, bind_ct, bind_ex, bind_ite, lift_ok, lift_exc, lift_ite, mAsg_ev, mAsgL_ev, mDrop_ev, mRet_ev, mRetL_ev, mRetN_ev, mRetOwn_ev, getO_own, mIfS_ev, mSet1_ev, onO_own, onO_val, mAppend_ev, putO_own, mAsgG_ev, optSO_some, gSet_ev, gsNil_ev, gsCons_ev, obind_some, gTupM_1, gTupM_2, gTupM_3, gTupM_4, gTupM_5, gTupM_6, mFor_ev, retD_nx, retD_rt, retD_rtL, retD_ex, retD_ite, retLs_rtL, retLs_ex, retLs_ite, nth_zero, nth_succ, set_zero, set_succ, add_int, add_str, add_lst, lcat_lst, sub_int', neg_int', lt_int', le_int', gt_int', ge_int', mod_int', fdiv_int, mul_int', mul_str', isN_non, isN_int, notN_non, notN_int, eq_int', ne_int', eq_str', ne_str', eq_bl', ne_bl', len_str', len_lst, len_tup, len_scr, max_int, min_int, sl_str', sl_lst, sl_scr, lsl_lst, lsl_scr, ix_str', ix_lst, ix_tup', ix_scr, range1_ok, range2_ok, range3_ok, mMeth_ev, onStr_str, mComp_ev, mCh_ev, wipeE_nil, wipeE_cons, mYes_ev, int_int, int_bl, asW_lst, asW_tup, asW_scr, asW_str, lt_str', le_str', gt_str', ge_str', mRaise_ev, sum_ints, all_bls, any_bls, list_lst, list_tup, list_scr, sorted_ints', g_find_ev, g_find3_ev, g_find4_ev, g_rfind_ev, g_rfind4_ev, g_count_ev, g_count3_ev, g_count4_ev, g_startswith_ev, g_endswith_ev, Int.reduceToNat, List.getD_cons_zero, List.getD_cons_succ, List.length_map, List.length_reverse, Int.zero_mul, Int.mul_zero, Int.add_zero, Int.mul_one, nc0, nc1, nc2, nc3, nc4, nc5, nc6, nc7, nc8, nc9, nc10, nc11, nc12, nc13, List.cons_append, List.nil_append, decide_true, decide_false, not_false_eq_true, not_true_eq_false, mCallR_ev, retLE_rtL, retDE_rt, flatR_bl, flatR_int, flatR_str, flatR_non, flatR_exc, getOwn_own, mMut0_ev, mSetIx_ev, putIx_ok, rev_lst, lrep_ev, if_small, if_small', rngL_len, endS_nx, endS_rt, in_sign, notIn_sign, isN_str, notN_str, isN_tup, notN_tup, isi_int_int, isi_int_bool, isi_bl_bool, isi_bl_int, isi_str_str, isi_tup_tup, isi_lst_lst, isi_non_int, isi_non_tup, _root_.FL.R.ok_bind, _root_.FL.R.exc_bind, _root_.FL.R.stuck_bind, _root_.FL.R.pure_eq, List.append_nil, List.length_cons, List.length_nil, Nat.zero_add, Nat.reduceAdd, Nat.reduceLeDiff, Nat.reduceLT, decide_eq_true_eq, if_true, if_false, ite_true, ite_false, Bool.true_eq_false, Bool.false_eq_true, Bool.not_true, Bool.not_false, reduceIte, Bool.not_eq_true', decide_eq_false_iff_not, q2, i58]
      · rw [if_neg q2]
        simp -implicitDefEqProofs (disch := first | omega | (simp only [List.length_map, List.length_append, List.length_cons, List.length_nil, List.length_take, List.length_drop, repS_len, rngL_len, List.length_range, List.length_reverse]; done) | (simp only [List.length_map, List.length_append, List.length_cons, List.length_nil, List.length_take, List.length_drop, repS_len, rngL_len, List.length_range, List.length_reverse]; omega)) only [mVar_ev, mVarR_ev, getV_val, getR_val, getR_own, mC_ev, mOp_ev, mOpL_ev, mT_ev, asB_bl, mAnd_ev, mOr_ev, mNot_ev, mAndV_ev, mOrV_ev, mNotV_ev, mIf_ev, mNil_ev, mCons_ev, mTup_ev, mLst_ev, mCall_ev, mPn_ev, mPs_ev, asI_int, mSl_ev, mSlL_ev, asL_lst, asL_scr, asTp_tup, asSt_str, R_ite, mWalk_ev, mLe_ev, mNeg_ev, mSeq_ev, mSkip_ev, bind_nx, bind_rt, bind_rtL, bind_bk, bind_ct, bind_ex, bind_ite, lift_ok, lift_exc, lift_ite, mAsg_ev, mAsgL_ev, mDrop_ev, mRet_ev, mRetL_ev, mRetN_ev, mRetOwn_ev, getO_own, mIfS_ev, mSet1_ev, onO_own, onO_val, mAppend_ev, putO_own, mAsgG_ev, optSO_some, gSet_ev, gsNil_ev, gsCons_ev, obind_some, gTupM_1, gTupM_2, gTupM_3, gTupM_4, gTupM_5, gTupM_6, mFor_ev, retD_nx, retD_rt, retD_rtL, retD_ex, retD_ite, retLs_rtL, retLs_ex, retLs_ite, nth_zero, nth_succ, set_zero, set_succ, add_int, add_str, add_lst, lcat_lst, sub_int', neg_int', lt_int', le_int', gt_int', ge_int', mod_int', fdiv_int, mul_int', mul_str', isN_non, isN_int, notN_non, notN_int, eq_int', ne_int', eq_str', ne_str', eq_bl', ne_bl', len_str', len_lst, len_tup, len_scr, max_int, min_int, sl_str', sl_lst, sl_scr, lsl_lst, lsl_scr, ix_str', ix_lst, ix_tup', ix_scr, range1_ok, range2_ok, range3_ok, mMeth_ev, onStr_str, mComp_ev, mCh_ev, wipeE_nil, wipeE_cons, mYes_ev, int_int, int_bl, asW_lst, asW_tup, asW_scr, asW_str, lt_str', le_str', gt_str', ge_str', mRaise_ev, sum_ints, all_bls, any_bls, list_lst, list_tup, list_scr, sorted_ints', g_find_ev, g_find3_ev, g_find4_ev, g_rfind_ev, g_rfind4_ev, g_count_ev, g_count3_ev, g_count4_ev, g_startswith_ev, g_endswith_ev, Int.reduceToNat, List.getD_cons_zero, List.getD_cons_succ, List.length_map, List.length_reverse, Int.zero_mul, Int.mul_zero, Int.add_zero, Int.mul_one, nc0, nc1, nc2, nc3, nc4, nc5, nc6, nc7, nc8, nc9, nc10, nc11, nc12, nc13, List.cons_append, List.nil_append, decide_true, decide_false, not_false_eq_true, not_true_eq_false, mCallR_ev, retLE_rtL, retDE_rt, flatR_bl, flatR_int, flatR_str, flatR_non, flatR_exc, getOwn_own, mMut0_ev, mSetIx_ev, putIx_ok, rev_lst, lrep_ev, if_small, if_small', rngL_len, endS_nx, endS_rt, in_sign, notIn_sign, isN_str, notN_str, isN_tup, notN_tup, isi_int_int, isi_int_bool, isi_bl_bool, isi_bl_int, isi_str_str, isi_tup_tup, isi_lst_lst, isi_non_int, isi_non_tup, _root_.FL.R.ok_bind, _root_.FL.R.exc_bind, _root_.FL.R.stuck_bind, _root_.FL.R.pure_eq, List.append_nil, List.length_cons, List.length_nil, Nat.zero_add, Nat.reduceAdd, Nat.reduceLeDiff, Nat.reduceLT, decide_eq_true_eq, if_true, if_false, ite_true, ite_false, Bool.true_eq_false, Bool.false_eq_true, Bool.not_true, Bool.not_false, reduceIte, Bool.not_eq_true', decide_eq_false_iff_not, i1, q1', q2]
  have lb := st (s0 ++ p.ct ++ p.v ++ p.tg ++ p.ty) (by simp only [List.length_append]; omega)
  rw [← mSeq_assoc, mSeq_ev, lb, bind_nx]
  simp -implicitDefEqProofs (disch := first | omega | (simp only [List.length_map, List.length_append, List.length_cons, List.length_nil, List.length_take, List.length_drop, repS_len, rngL_len, List.length_range, List.length_reverse]; done) | (simp only [List.length_map, List.length_append, List.length_cons, List.length_nil, List.length_take, List.length_drop, repS_len, rngL_len, List.length_range, List.length_reverse]; omega)) only [mVar_ev, mVarR_ev, getV_val, getR_val, getR_own, mC_ev, mOp_ev, mOpL_ev, mT_ev, asB_bl, mAnd_ev, mOr_ev, mNot_ev, mAndV_ev, mOrV_ev, mNotV_ev, mIf_ev, mNil_ev, mCons_ev, mTup_ev, mLst_ev, mCall_ev, mPn_ev, mPs_ev, asI_int, mSl_ev, mSlL_ev, asL_lst, asL_scr, asTp_tup, asSt_str, R_ite, mWalk_ev, mLe_ev, mNeg_ev, mSeq_ev, mSkip_ev, bind_nx, bind_rt, bind_rtL, bind_bk, bind_ct, bind_ex, bind_ite, lift_ok, lift_exc, lift_ite, mAsg_ev, mAsgL_ev, mDrop_ev, mRet_ev, mRetL_ev, mRetN_ev, mRetOwn_ev, getO_own, mIfS_ev, mSet1_ev, onO_own, onO_val, mAppend_ev, putO_own, mAsgG_ev, optSO_some, gSet_ev, gsNil_ev, gsCons_ev, obind_some, gTupM_1, gTupM_2, gTupM_3, gTupM_4, gTupM_5, gTupM_6, mFor_ev, retD_nx, retD_rt, retD_rtL, retD_ex, retD_ite, retLs_rtL, retLs_ex, retLs_ite, nth_zero, nth_succ, set_zero, set_succ, add_int, add_str, add_lst, lcat_lst, sub_int', neg_int', lt_int', le_int', gt_int', ge_int', mod_int', fdiv_int, mul_int', mul_str', isN_non, isN_int, notN_non, notN_int, eq_int', ne_int', eq_str', ne_str', eq_bl', ne_bl', len_str', len_lst, len_tup, len_scr, max_int, min_int, sl_str', sl_lst, sl_scr, lsl_lst, lsl_scr, ix_str', ix_lst, ix_tup', ix_scr, range1_ok, range2_ok, range3_ok, mMeth_ev, onStr_str, mComp_ev, mCh_ev, wipeE_nil, wipeE_cons, mYes_ev, int_int, int_bl, asW_lst, asW_tup, asW_scr, asW_str, lt_str', le_str', gt_str', ge_str', mRaise_ev, sum_ints, all_bls, any_bls, list_lst, list_tup, list_scr, sorted_ints', g_find_ev, g_find3_ev, g_find4_ev, g_rfind_ev, g_rfind4_ev, g_count_ev, g_count3_ev, g_count4_ev, g_startswith_ev, g_endswith_ev, Int.reduceToNat, List.getD_cons_zero, List.getD_cons_succ, List.length_map, List.length_reverse, Int.zero_mul, Int.mul_zero, Int.add_zero, Int.mul_one, nc0, nc1, nc2, nc3, nc4, nc5, nc6, nc7, nc8, nc9, nc10, nc11, nc12, nc13, List.cons_append, List.nil_append, decide_true, decide_false, not_false_eq_true, not_true_eq_false, mCallR_ev, retLE_rtL, retDE_rt, flatR_bl, flatR_int, flatR_str, flatR_non, flatR_exc, getOwn_own, mMut0_ev, mSetIx_ev, putIx_ok, rev_lst, lrep_ev, if_small, if_small', rngL_len, endS_nx, endS_rt, in_sign, notIn_sign, isN_str, notN_str, isN_tup, notN_tup, isi_int_int, isi_int_bool, isi_bl_bool, isi_bl_int, isi_str_str, isi_tup_tup, isi_lst_lst, isi_non_int, isi_non_tup, _root_.FL.R.ok_bind, _root_.FL.R.exc_bind, _root_.FL.R.stuck_bind, _root_.FL.R.pure_eq, List.append_nil, List.length_cons, List.length_nil, Nat.zero_add, Nat.reduceAdd, Nat.reduceLeDiff, Nat.reduceLT, decide_eq_true_eq, if_true, if_false, ite_true, ite_false, Bool.true_eq_false, Bool.false_eq_true, Bool.not_true, Bool.not_false, reduceIte, Bool.not_eq_true', decide_eq_false_iff_not]
  unfold bodyM
  simp only [List.append_assoc]
theorem keys_len {p : Phr} (h : Valid p) (l1 : p.tg.length ≤ 2) (l2 : p.ty.length ≤ 49) : (keysM p).length ≤ 60 := by
  have lv : p.v.length ≤ 1 := by
    rcases h.v with z | ⟨k, _, z⟩ <;> rw [z] <;> simp
  have lsh : p.sh.length ≤ 1 := by
    rcases h.sh with z | ⟨k, _, z, _⟩ <;> rw [z] <;> simp
  have lc : p.ct.length ≤ 3 := by
    rcases h.ct' with z | ⟨c, _, _, z⟩
    · rw [z]; simp
    · rw [z]; exact (dg_len c).2
  have le : (endM p.v).length ≤ 1 := by
    unfold endM
    split
    · simp
    · split <;> simp
  have ls : (if p.sh = [] then [] else 34 :: p.sh).length ≤ 2 := by
    split
    · simp
    · rw [List.length_cons]; omega
  unfold keysM bodyM
  simp only [List.length_append]
  omega
theorem phD_pl {p : Phr} (h : Valid p) : (phD p).pl = true ∧ (phD p).dep ≤ 64 := by
  have e : phD p = .tup [.str p.sh, ctD p.ct, .str p.v, .str p.tg, .str p.ty] := rfl
  rcases h.ct' with z | ⟨c, h1, h2, z⟩
  · have : ctD p.ct = .non := by rw [z]; rfl
    rw [e, this]
    exact ⟨rfl, by show 1 ≤ 64; omega⟩
  · have : ctD p.ct = .int c := by rw [z, ctD_dg h2 h1]
    rw [e, this]
    exact ⟨rfl, by show 1 ≤ 64; omega⟩
theorem cells3 (ns : List Int) (k : Nat) {b1 : Env → R D} {i : Nat} {Γ : Env} (h : ∀ j : Nat, j < 3 → ∃ Γ1, gSet i Γ (.int (0 + (j : Int))) = some Γ1 ∧ b1 Γ1 = .ok (.int (ns.getD (k + j) 0))) : compL (turnC (gSet i) mYes b1 Γ) (rngL 0 1 3) = .ok [.int (ns.getD k 0), .int (ns.getD (k + 1) 0), .int (ns.getD (k + 2) 0)] :=
  compL_rng (fun j => D.int (ns.getD (k + j) 0)) fun j hj => by
    obtain ⟨Γ1, h1, h2⟩ := h j hj
    exact turnC_some h1 rfl h2
theorem phrase_at (ns : List Int) (hb : ∀ k ∈ ns, k.natAbs < 2 ^ 1048576) (k : Nat) : ∃ p, Valid p ∧ p.tg.length ≤ 2 ∧ p.ty.length ≤ 49 ∧ p__law_phrase [.int (ns.getD k 0), .int (ns.getD (k + 1) 0), .int (ns.getD (k + 2) 0)] = .ok (phD p) := e_phrase _ _ _ (cell_bd hb _)

theorem law_true (ns : List Int) (h : ns.length ≤ 63) (hb : ∀ k ∈ ns, k.natAbs < 2 ^ 1048576) : p_law [.scr ns] = .ok (.bl true) := by
  rw [u_law]
  unfold b_law
  simp -implicitDefEqProofs (disch := first | omega | (simp only [List.length_map, List.length_append, List.length_cons, List.length_nil, List.length_take, List.length_drop, repS_len, rngL_len, List.length_range, List.length_reverse]; done) | (simp only [List.length_map, List.length_append, List.length_cons, List.length_nil, List.length_take, List.length_drop, repS_len, rngL_len, List.length_range, List.length_reverse]; omega)) only [mVar_ev, mVarR_ev, getV_val, getR_val, getR_own, mC_ev, mOp_ev, mOpL_ev, mT_ev, asB_bl, mAnd_ev, mOr_ev, mNot_ev, mAndV_ev, mOrV_ev, mNotV_ev, mIf_ev, mNil_ev, mCons_ev, mTup_ev, mLst_ev, mCall_ev, mPn_ev, mPs_ev, asI_int, mSl_ev, mSlL_ev, asL_lst, asL_scr, asTp_tup, asSt_str, R_ite, mWalk_ev, mLe_ev, mNeg_ev, mSeq_ev, mSkip_ev, bind_rt, bind_rtL, bind_bk, bind_ct, bind_ex, bind_ite, lift_ok, lift_exc, lift_ite, mAsg_ev, mAsgL_ev, mDrop_ev, mRet_ev, mRetL_ev, mRetN_ev, mRetOwn_ev, getO_own, mIfS_ev, mSet1_ev, onO_own, onO_val, mAppend_ev, putO_own, mAsgG_ev, optSO_some, gSet_ev, gsNil_ev, gsCons_ev, obind_some, gTupM_1, gTupM_2, gTupM_3, gTupM_4, gTupM_5, gTupM_6, mFor_ev, retD_nx, retD_rt, retD_rtL, retD_ex, retD_ite, retLs_rtL, retLs_ex, retLs_ite, nth_zero, nth_succ, set_zero, set_succ, add_int, add_str, add_lst, lcat_lst, sub_int', neg_int', lt_int', le_int', gt_int', ge_int', mod_int', fdiv_int, mul_int', mul_str', isN_non, isN_int, notN_non, notN_int, eq_int', ne_int', eq_str', ne_str', eq_bl', ne_bl', len_str', len_lst, len_tup, len_scr, max_int, min_int, sl_str', sl_lst, sl_scr, lsl_lst, lsl_scr, ix_str', ix_lst, ix_tup', ix_scr, range1_ok, range2_ok, range3_ok, mMeth_ev, onStr_str, mComp_ev, mCh_ev, wipeE_nil, wipeE_cons, mYes_ev, int_int, int_bl, asW_lst, asW_tup, asW_scr, asW_str, lt_str', le_str', gt_str', ge_str', mRaise_ev, sum_ints, all_bls, any_bls, list_lst, list_tup, list_scr, sorted_ints', g_find_ev, g_find3_ev, g_find4_ev, g_rfind_ev, g_rfind4_ev, g_count_ev, g_count3_ev, g_count4_ev, g_startswith_ev, g_endswith_ev, Int.reduceToNat, List.getD_cons_zero, List.getD_cons_succ, List.length_map, List.length_reverse, Int.zero_mul, Int.mul_zero, Int.add_zero, Int.mul_one, nc0, nc1, nc2, nc3, nc4, nc5, nc6, nc7, nc8, nc9, nc10, nc11, nc12, nc13, List.cons_append, List.nil_append, decide_true, decide_false, not_false_eq_true, not_true_eq_false, mCallR_ev, retLE_rtL, retDE_rt, flatR_bl, flatR_int, flatR_str, flatR_non, flatR_exc, getOwn_own, mMut0_ev, mSetIx_ev, putIx_ok, rev_lst, lrep_ev, if_small, if_small', rngL_len, endS_nx, endS_rt, in_sign, notIn_sign, isN_str, notN_str, isN_tup, notN_tup, isi_int_int, isi_int_bool, isi_bl_bool, isi_bl_int, isi_str_str, isi_tup_tup, isi_lst_lst, isi_non_int, isi_non_tup, _root_.FL.R.ok_bind, _root_.FL.R.exc_bind, _root_.FL.R.stuck_bind, _root_.FL.R.pure_eq, List.append_nil, List.length_cons, List.length_nil, Nat.zero_add, Nat.reduceAdd, Nat.reduceLeDiff, Nat.reduceLT, decide_eq_true_eq, if_true, if_false, ite_true, ite_false, Bool.true_eq_false, Bool.false_eq_true, Bool.not_true, Bool.not_false, reduceIte, Bool.not_eq_true', decide_eq_false_iff_not, range_by3]
  obtain ⟨Γ', e, x, y, z, u, w, rfl⟩ := forL_end (g := gSet 1) (body := b_law_l2) (ds := rngL 0 3 (if (0 : Int) < (if (27 : Int) < ns.length then (27 : Int) else ns.length) + 1 then (((if (27 : Int) < ns.length then (27 : Int) else ns.length) + 1 - 0 - 1) / 3 + 1).toNat else 0)) (Γ := [.val (.scr ns), .no, .no, .no, .no, .no])
    (fun i Γ => ∃ x y z u w, Γ = [.val (.scr ns), x, y, z, u, w]) ⟨.no, .no, .no, .no, .no, rfl⟩ (fun i d Γ hd ⟨x, y, z, u, w, hΓ⟩ => by
      obtain ⟨hi, rfl⟩ := rngL_get hd
      subst hΓ
      refine ⟨_, gSet_ev _, ?_⟩
      unfold b_law_l2
      obtain ⟨k, hk⟩ : ∃ k : Nat, (0 : Int) + (i : Int) * 3 = k := ⟨i * 3, by omega⟩
      rw [hk]
      have ec : compL (turnC (gSet 4) mYes b_law_c1 [.val (.scr ns), .val (.int k), y, z, .no, w]) (rngL 0 1 3) = .ok [.int (ns.getD k 0), .int (ns.getD (k + 1) 0), .int (ns.getD (k + 2) 0)] := by
        refine cells3 ns k fun j hj => ⟨_, gSet_ev _, ?_⟩
        unfold b_law_c1
        have n1 : ((k : Int) + (0 + (j : Int))) = ((k + j : Nat) : Int) := by omega
        simp -implicitDefEqProofs (disch := first | omega | (simp only [List.length_map, List.length_append, List.length_cons, List.length_nil, List.length_take, List.length_drop, repS_len, rngL_len, List.length_range, List.length_reverse]; done) | (simp only [List.length_map, List.length_append, List.length_cons, List.length_nil, List.length_take, List.length_drop, repS_len, rngL_len, List.length_range, List.length_reverse]; omega)) only [mVar_ev, mVarR_ev, getV_val, getR_val, getR_own, mC_ev, mOp_ev, mOpL_ev, mT_ev, asB_bl, mAnd_ev, mOr_ev, mNot_ev, mAndV_ev, mOrV_ev, mNotV_ev, mIf_ev, mNil_ev, mCons_ev, mTup_ev, mLst_ev, mCall_ev, mPn_ev, mPs_ev, asI_int, mSl_ev, mSlL_ev, asL_lst, asL_scr, asTp_tup, asSt_str, R_ite, mWalk_ev, mLe_ev, mNeg_ev, mSeq_ev, mSkip_ev, bind_nx, bind_rt, bind_rtL, bind_bk, bind_ct, bind_ex, bind_ite, lift_ok, lift_exc, lift_ite, mAsg_ev, mAsgL_ev, mDrop_ev, mRet_ev, mRetL_ev, mRetN_ev, mRetOwn_ev, getO_own, mIfS_ev, mSet1_ev, onO_own, onO_val, mAppend_ev, putO_own, mAsgG_ev, optSO_some, gSet_ev, gsNil_ev, gsCons_ev, obind_some, gTupM_1, gTupM_2, gTupM_3, gTupM_4, gTupM_5, gTupM_6, mFor_ev, retD_nx, retD_rt, retD_rtL, retD_ex, retD_ite, retLs_rtL, retLs_ex, retLs_ite, nth_zero, nth_succ, set_zero, set_succ, add_int, add_str, add_lst, lcat_lst, sub_int', neg_int', lt_int', le_int', gt_int', ge_int', mod_int', fdiv_int, mul_int', mul_str', isN_non, isN_int, notN_non, notN_int, eq_int', ne_int', eq_str', ne_str', eq_bl', ne_bl', len_str', len_lst, len_tup, len_scr, max_int, min_int, sl_str', sl_lst, sl_scr, lsl_lst, lsl_scr, ix_str', ix_lst, ix_tup', ix_scr, range1_ok, range2_ok, range3_ok, mMeth_ev, onStr_str, mComp_ev, mCh_ev, wipeE_nil, wipeE_cons, mYes_ev, int_int, int_bl, asW_lst, asW_tup, asW_scr, asW_str, lt_str', le_str', gt_str', ge_str', mRaise_ev, sum_ints, all_bls, any_bls, list_lst, list_tup, list_scr, sorted_ints', g_find_ev, g_find3_ev, g_find4_ev, g_rfind_ev, g_rfind4_ev, g_count_ev, g_count3_ev, g_count4_ev, g_startswith_ev, g_endswith_ev, Int.reduceToNat, List.getD_cons_zero, List.getD_cons_succ, List.length_map, List.length_reverse, Int.zero_mul, Int.mul_zero, Int.add_zero, Int.mul_one, nc0, nc1, nc2, nc3, nc4, nc5, nc6, nc7, nc8, nc9, nc10, nc11, nc12, nc13, List.cons_append, List.nil_append, decide_true, decide_false, not_false_eq_true, not_true_eq_false, mCallR_ev, retLE_rtL, retDE_rt, flatR_bl, flatR_int, flatR_str, flatR_non, flatR_exc, getOwn_own, mMut0_ev, mSetIx_ev, putIx_ok, rev_lst, lrep_ev, if_small, if_small', rngL_len, endS_nx, endS_rt, in_sign, notIn_sign, isN_str, notN_str, isN_tup, notN_tup, isi_int_int, isi_int_bool, isi_bl_bool, isi_bl_int, isi_str_str, isi_tup_tup, isi_lst_lst, isi_non_int, isi_non_tup, _root_.FL.R.ok_bind, _root_.FL.R.exc_bind, _root_.FL.R.stuck_bind, _root_.FL.R.pure_eq, List.append_nil, List.length_cons, List.length_nil, Nat.zero_add, Nat.reduceAdd, Nat.reduceLeDiff, Nat.reduceLT, decide_eq_true_eq, if_true, if_false, ite_true, ite_false, Bool.true_eq_false, Bool.false_eq_true, Bool.not_true, Bool.not_false, reduceIte, Bool.not_eq_true', decide_eq_false_iff_not, n1, e_cell, Int.toNat_natCast]
      obtain ⟨p, hp, lp1, lp2, ep⟩ := phrase_at ns hb k
      have ek := e_keys p hp lp1 lp2
      have kl := keys_len hp lp1 lp2
      obtain ⟨Γ', e, a, b, rfl⟩ := forL_end (g := gSet 4) (body := b_law_l1) (ds := rngL 0 1 (((keysM p).length : Int)).toNat) (Γ := [.val (.scr ns), .val (.int k), .val (.lst [.int (ns.getD k 0), .int (ns.getD (k + 1) 0), .int (ns.getD (k + 2) 0)]), .val (.str (keysM p)), u, w])
        (fun j Γ => ∃ a b, Γ = [.val (.scr ns), .val (.int k), .val (.lst [.int (ns.getD k 0), .int (ns.getD (k + 1) 0), .int (ns.getD (k + 2) 0)]), .val (.str (keysM p)), a, b]) ⟨_, _, rfl⟩ (fun j d Γ hd ⟨a, b, hΓ⟩ => by
          obtain ⟨hj, rfl⟩ := rngL_get hd
          subst hΓ
          refine ⟨_, gSet_ev _, ?_⟩
          unfold b_law_l1
          have e0 : (0 : Int) + (j : Int) * 1 = j := by omega
          rw [e0]
          have c0 : cutL (keysM p) none (some (j : Int)) = (keysM p).take j := by rw [none_cut _ _ (by omega), Int.toNat_natCast]
          have f1 := e_first ((keysM p).take j) (by rw [List.length_take]; omega)
          rw [first_half hp (by omega)] at f1
          have f2 : fD .half = .tup [.str [104, 97, 108, 102]] := rfl
          have ne : D.ne (.tup [.str [104, 97, 108, 102]]) (.tup [.str [104, 97, 108, 102]]) = .ok (.bl false) := rfl
          simp -implicitDefEqProofs (disch := first | omega | (simp only [List.length_map, List.length_append, List.length_cons, List.length_nil, List.length_take, List.length_drop, repS_len, rngL_len, List.length_range, List.length_reverse]; done) | (simp only [List.length_map, List.length_append, List.length_cons, List.length_nil, List.length_take, List.length_drop, repS_len, rngL_len, List.length_range, List.length_reverse]; omega)) only [mVar_ev, mVarR_ev, getV_val, getR_val, getR_own, mC_ev, mOp_ev, mOpL_ev, mT_ev, asB_bl, mAnd_ev, mOr_ev, mNot_ev, mAndV_ev, mOrV_ev, mNotV_ev, mIf_ev, mNil_ev, mCons_ev, mTup_ev, mLst_ev, mCall_ev, mPn_ev, mPs_ev, asI_int, mSl_ev, mSlL_ev, asL_lst, asL_scr, asTp_tup, asSt_str, R_ite, mWalk_ev, mLe_ev, mNeg_ev, mSeq_ev, mSkip_ev, bind_nx, bind_rt, bind_rtL, bind_bk, bind_ct, bind_ex, bind_ite, lift_ok, lift_exc, lift_ite, mAsg_ev, mAsgL_ev, mDrop_ev, mRet_ev, mRetL_ev, mRetN_ev, mRetOwn_ev, getO_own, mIfS_ev, mSet1_ev, onO_own, onO_val, mAppend_ev, putO_own, mAsgG_ev, optSO_some, gSet_ev, gsNil_ev, gsCons_ev, obind_some, gTupM_1, gTupM_2, gTupM_3, gTupM_4, gTupM_5, gTupM_6, mFor_ev, retD_nx, retD_rt, retD_rtL, retD_ex, retD_ite, retLs_rtL, retLs_ex, retLs_ite, nth_zero, nth_succ, set_zero, set_succ, add_int, add_str, add_lst, lcat_lst, sub_int', neg_int', lt_int', le_int', gt_int', ge_int', mod_int', fdiv_int, mul_int', mul_str', isN_non, isN_int, notN_non, notN_int, eq_int', ne_int', eq_str', ne_str', eq_bl', ne_bl', len_str', len_lst, len_tup, len_scr, max_int, min_int, sl_str', sl_lst, sl_scr, lsl_lst, lsl_scr, ix_str', ix_lst, ix_tup', ix_scr, range1_ok, range2_ok, range3_ok, mMeth_ev, onStr_str, mComp_ev, mCh_ev, wipeE_nil, wipeE_cons, mYes_ev, int_int, int_bl, asW_lst, asW_tup, asW_scr, asW_str, lt_str', le_str', gt_str', ge_str', mRaise_ev, sum_ints, all_bls, any_bls, list_lst, list_tup, list_scr, sorted_ints', g_find_ev, g_find3_ev, g_find4_ev, g_rfind_ev, g_rfind4_ev, g_count_ev, g_count3_ev, g_count4_ev, g_startswith_ev, g_endswith_ev, Int.reduceToNat, List.getD_cons_zero, List.getD_cons_succ, List.length_map, List.length_reverse, Int.zero_mul, Int.mul_zero, Int.add_zero, Int.mul_one, nc0, nc1, nc2, nc3, nc4, nc5, nc6, nc7, nc8, nc9, nc10, nc11, nc12, nc13, List.cons_append, List.nil_append, decide_true, decide_false, not_false_eq_true, not_true_eq_false, mCallR_ev, retLE_rtL, retDE_rt, flatR_bl, flatR_int, flatR_str, flatR_non, flatR_exc, getOwn_own, mMut0_ev, mSetIx_ev, putIx_ok, rev_lst, lrep_ev, if_small, if_small', rngL_len, endS_nx, endS_rt, in_sign, notIn_sign, isN_str, notN_str, isN_tup, notN_tup, isi_int_int, isi_int_bool, isi_bl_bool, isi_bl_int, isi_str_str, isi_tup_tup, isi_lst_lst, isi_non_int, isi_non_tup, _root_.FL.R.ok_bind, _root_.FL.R.exc_bind, _root_.FL.R.stuck_bind, _root_.FL.R.pure_eq, List.append_nil, List.length_cons, List.length_nil, Nat.zero_add, Nat.reduceAdd, Nat.reduceLeDiff, Nat.reduceLT, decide_eq_true_eq, if_true, if_false, ite_true, ite_false, Bool.true_eq_false, Bool.false_eq_true, Bool.not_true, Bool.not_false, reduceIte, Bool.not_eq_true', decide_eq_false_iff_not, c0, f1, f2, ne]
          exact ⟨_, .inl rfl, _, _, rfl⟩)
      simp -implicitDefEqProofs (disch := first | omega | (simp only [List.length_map, List.length_append, List.length_cons, List.length_nil, List.length_take, List.length_drop, repS_len, rngL_len, List.length_range, List.length_reverse]; done) | (simp only [List.length_map, List.length_append, List.length_cons, List.length_nil, List.length_take, List.length_drop, repS_len, rngL_len, List.length_range, List.length_reverse]; omega)) only [mVar_ev, mVarR_ev, getV_val, getR_val, getR_own, mC_ev, mOp_ev, mOpL_ev, mT_ev, asB_bl, mAnd_ev, mOr_ev, mNot_ev, mAndV_ev, mOrV_ev, mNotV_ev, mIf_ev, mNil_ev, mCons_ev, mTup_ev, mLst_ev, mCall_ev, mPn_ev, mPs_ev, asI_int, mSl_ev, mSlL_ev, asL_lst, asL_scr, asTp_tup, asSt_str, R_ite, mWalk_ev, mLe_ev, mNeg_ev, mSeq_ev, mSkip_ev, bind_nx, bind_rt, bind_rtL, bind_bk, bind_ct, bind_ex, bind_ite, lift_ok, lift_exc, lift_ite, mAsg_ev, mAsgL_ev, mDrop_ev, mRet_ev, mRetL_ev, mRetN_ev, mRetOwn_ev, getO_own, mIfS_ev, mSet1_ev, onO_own, onO_val, mAppend_ev, putO_own, mAsgG_ev, optSO_some, gSet_ev, gsNil_ev, gsCons_ev, obind_some, gTupM_1, gTupM_2, gTupM_3, gTupM_4, gTupM_5, gTupM_6, mFor_ev, retD_nx, retD_rt, retD_rtL, retD_ex, retD_ite, retLs_rtL, retLs_ex, retLs_ite, nth_zero, nth_succ, set_zero, set_succ, add_int, add_str, add_lst, lcat_lst, sub_int', neg_int', lt_int', le_int', gt_int', ge_int', mod_int', fdiv_int, mul_int', mul_str', isN_non, isN_int, notN_non, notN_int, eq_int', ne_int', eq_str', ne_str', eq_bl', ne_bl', len_str', len_lst, len_tup, len_scr, max_int, min_int, sl_str', sl_lst, sl_scr, lsl_lst, lsl_scr, ix_str', ix_lst, ix_tup', ix_scr, range1_ok, range2_ok, range3_ok, mMeth_ev, onStr_str, mComp_ev, mCh_ev, wipeE_nil, wipeE_cons, mYes_ev, int_int, int_bl, asW_lst, asW_tup, asW_scr, asW_str, lt_str', le_str', gt_str', ge_str', mRaise_ev, sum_ints, all_bls, any_bls, list_lst, list_tup, list_scr, sorted_ints', g_find_ev, g_find3_ev, g_find4_ev, g_rfind_ev, g_rfind4_ev, g_count_ev, g_count3_ev, g_count4_ev, g_startswith_ev, g_endswith_ev, Int.reduceToNat, List.getD_cons_zero, List.getD_cons_succ, List.length_map, List.length_reverse, Int.zero_mul, Int.mul_zero, Int.add_zero, Int.mul_one, nc0, nc1, nc2, nc3, nc4, nc5, nc6, nc7, nc8, nc9, nc10, nc11, nc12, nc13, List.cons_append, List.nil_append, decide_true, decide_false, not_false_eq_true, not_true_eq_false, mCallR_ev, retLE_rtL, retDE_rt, flatR_bl, flatR_int, flatR_str, flatR_non, flatR_exc, getOwn_own, mMut0_ev, mSetIx_ev, putIx_ok, rev_lst, lrep_ev, if_small, if_small', rngL_len, endS_nx, endS_rt, in_sign, notIn_sign, isN_str, notN_str, isN_tup, notN_tup, isi_int_int, isi_int_bool, isi_bl_bool, isi_bl_int, isi_str_str, isi_tup_tup, isi_lst_lst, isi_non_int, isi_non_tup, _root_.FL.R.ok_bind, _root_.FL.R.exc_bind, _root_.FL.R.stuck_bind, _root_.FL.R.pure_eq, List.append_nil, List.length_cons, List.length_nil, Nat.zero_add, Nat.reduceAdd, Nat.reduceLeDiff, Nat.reduceLT, decide_eq_true_eq, if_true, if_false, ite_true, ite_false, Bool.true_eq_false, Bool.false_eq_true, Bool.not_true, Bool.not_false, reduceIte, Bool.not_eq_true', decide_eq_false_iff_not, ec, ep, ek, e]
      exact ⟨_, .inl rfl, _, _, _, _, _, rfl⟩)
  rw [e]
  simp -implicitDefEqProofs (disch := first | omega | (simp only [List.length_map, List.length_append, List.length_cons, List.length_nil, List.length_take, List.length_drop, repS_len, rngL_len, List.length_range, List.length_reverse]; done) | (simp only [List.length_map, List.length_append, List.length_cons, List.length_nil, List.length_take, List.length_drop, repS_len, rngL_len, List.length_range, List.length_reverse]; omega)) only [mVar_ev, mVarR_ev, getV_val, getR_val, getR_own, mC_ev, mOp_ev, mOpL_ev, mT_ev, asB_bl, mAnd_ev, mOr_ev, mNot_ev, mAndV_ev, mOrV_ev, mNotV_ev, mIf_ev, mNil_ev, mCons_ev, mTup_ev, mLst_ev, mCall_ev, mPn_ev, mPs_ev, asI_int, mSl_ev, mSlL_ev, asL_lst, asL_scr, asTp_tup, asSt_str, R_ite, mWalk_ev, mLe_ev, mNeg_ev, mSeq_ev, mSkip_ev, bind_nx, bind_rt, bind_rtL, bind_bk, bind_ct, bind_ex, bind_ite, lift_ok, lift_exc, lift_ite, mAsg_ev, mAsgL_ev, mDrop_ev, mRet_ev, mRetL_ev, mRetN_ev, mRetOwn_ev, getO_own, mIfS_ev, mSet1_ev, onO_own, onO_val, mAppend_ev, putO_own, mAsgG_ev, optSO_some, gSet_ev, gsNil_ev, gsCons_ev, obind_some, gTupM_1, gTupM_2, gTupM_3, gTupM_4, gTupM_5, gTupM_6, mFor_ev, retD_nx, retD_rt, retD_rtL, retD_ex, retD_ite, retLs_rtL, retLs_ex, retLs_ite, nth_zero, nth_succ, set_zero, set_succ, add_int, add_str, add_lst, lcat_lst, sub_int', neg_int', lt_int', le_int', gt_int', ge_int', mod_int', fdiv_int, mul_int', mul_str', isN_non, isN_int, notN_non, notN_int, eq_int', ne_int', eq_str', ne_str', eq_bl', ne_bl', len_str', len_lst, len_tup, len_scr, max_int, min_int, sl_str', sl_lst, sl_scr, lsl_lst, lsl_scr, ix_str', ix_lst, ix_tup', ix_scr, range1_ok, range2_ok, range3_ok, mMeth_ev, onStr_str, mComp_ev, mCh_ev, wipeE_nil, wipeE_cons, mYes_ev, int_int, int_bl, asW_lst, asW_tup, asW_scr, asW_str, lt_str', le_str', gt_str', ge_str', mRaise_ev, sum_ints, all_bls, any_bls, list_lst, list_tup, list_scr, sorted_ints', g_find_ev, g_find3_ev, g_find4_ev, g_rfind_ev, g_rfind4_ev, g_count_ev, g_count3_ev, g_count4_ev, g_startswith_ev, g_endswith_ev, Int.reduceToNat, List.getD_cons_zero, List.getD_cons_succ, List.length_map, List.length_reverse, Int.zero_mul, Int.mul_zero, Int.add_zero, Int.mul_one, nc0, nc1, nc2, nc3, nc4, nc5, nc6, nc7, nc8, nc9, nc10, nc11, nc12, nc13, List.cons_append, List.nil_append, decide_true, decide_false, not_false_eq_true, not_true_eq_false, mCallR_ev, retLE_rtL, retDE_rt, flatR_bl, flatR_int, flatR_str, flatR_non, flatR_exc, getOwn_own, mMut0_ev, mSetIx_ev, putIx_ok, rev_lst, lrep_ev, if_small, if_small', rngL_len, endS_nx, endS_rt, in_sign, notIn_sign, isN_str, notN_str, isN_tup, notN_tup, isi_int_int, isi_int_bool, isi_bl_bool, isi_bl_int, isi_str_str, isi_tup_tup, isi_lst_lst, isi_non_int, isi_non_tup, _root_.FL.R.ok_bind, _root_.FL.R.exc_bind, _root_.FL.R.stuck_bind, _root_.FL.R.pure_eq, List.append_nil, List.length_cons, List.length_nil, Nat.zero_add, Nat.reduceAdd, Nat.reduceLeDiff, Nat.reduceLT, decide_eq_true_eq, if_true, if_false, ite_true, ite_false, Bool.true_eq_false, Bool.false_eq_true, Bool.not_true, Bool.not_false, reduceIte, Bool.not_eq_true', decide_eq_false_iff_not]
end LW

set_option Elab.async false
set_option linter.all false
set_option maxRecDepth 100000
set_option maxHeartbeats 0
namespace LW
open PySem PySem.Spec PyProof.Rows L2 FL
set_option autoImplicit false
open PySem.W PySem.Calls
def loose0 : List PySem.Str := ["FIGURES", "LETTERS", "MOVES", "LONG_MOVES", "THINGS", "VERBS", "TARGET_VERBS", "SHELF_VERBS", "BARE_VERBS", "HALF", "is_sign", "shelf_of", "count_of", "target_of", "ended", "fits_verb", "typed_of", "behind_count", "first", "_law_cell_at", "_law_sign_by", "_law_letter_by", "_law_count_by", "_law_move_by", "_law_target_by", "_law_run_by", "_law_typed_by", "_law_phrase", "_law_keys"]
abbrev loose : List PySem.Str := loose0
abbrev Rw : PySem.W.OpenRow := PySem.W.OpenLaw.row PySem.Challenge.rw_modehand_k43_half_a_phrase
abbrev hk : PySem.W.Hook := FL.hookF 4 fa fn fx
def ob (s : PySem.W.SharedT) : FL.AlF := FL.obsFG 4 fa fn fx (HandSHeadRun.getT s)
theorem ob_eq (s : PySem.W.SharedT) : ob s = hk.obs s.abs := FL.obsFG_eq (HandSHeadRun.getT_eq s)
theorem run (w : World) : HandSHeadRun.RunEq Rw (PySem.W.view Rw.prog [31]) hk ob 20000 loose w := by
  intro os
  kernel_rfl
end LW
open PySem PySem.W PySem.Calls PyProof.Rows FL
theorem PySem.Challenge.cw_modehand_k43_half_a_phrase_holds : PySem.Challenge.rw_modehand_k43_half_a_phrase.Holds := by
  w_on; o_law
  refine HandSHeadRun.head_any (r := LW.Rw) (q := view LW.Rw.prog [31]) (H := LW.hk) (ob := LW.ob) (M := 20000) (loose := LW.loose) (d := HandSHeadRun.topDef LW.Rw.prog 31) (kwd := []) LW.ob_eq
    (by kernel_rfl) (fun s => by kernel_rfl) LW.run (by kernel_rfl) (by kernel_rfl) (by kernel_rfl) (by rfl) (by first | assumption | decide +kernel) (by decide +kernel) ⟨rfl, rfl, rfl, rfl, rfl, by decide +kernel⟩ ?hw ?hc
  case hw => w_witness2
  case hc => exact walk_FB (l := PySem.Challenge.rw_modehand_k43_half_a_phrase) (n := 63) (k := 6) (x := "_law_script") rfl (by decide) (by kernel_rfl) ⟨rfl, by decide, by decide⟩ (by kernel_rfl) (fun w K mg base T => LW.B_law T) (fun ns h hb => by first | exact LW.law_true ns h hb | exact LW.law_true ns h)

